import PyProof.Rows.All
import Wide.All
import OpenK.AllK
import Wide.FinOn
import HandS.ForMost
import HandS.ForExc
import HandS.TupAny
import HandS.TupMul
import HandS.Deep
import HandS.IsInst
import HandS.Walk
import HandS.Zip
import HandS.SetFor
import PyProof.Rows.SortStr
import PyProof.Rows.SortShellAny
import HandS.Strs
import HandS.Style
import PySem.Challenge.RW_tidyrules_k01_kinds_of_values
set_option Elab.async false
set_option linter.all false
set_option maxRecDepth 100000
set_option maxHeartbeats 4000000
/-! Td: readings as functions over data (PyData) and a store of objects that change. -/
namespace Td
open PySem L2

/-- the store's object l, as a datum -/
abbrev rf (l : Nat) : PyData := .dict [(.int (l : Int), .none)]

/-- frozen heap F, what others hold and change P, addresses of the store μ, its size n -/
structure Gd where
  K : PySem.W.Frag
  F : Hp
  P : Hp
  μ : Nat → Addr
  n : Nat

mutual
inductive Dq (g : Gd) : V → PyData → Prop
  | non : Dq g .non .none
  | bl (b : Bool) : Dq g (.bl b) (.bool b)
  | int (i : Int) : Dq g (.int i) (.int i)
  | str (x : Str) : Dq g (.str x) (.str x)
  | lst {a : Addr} {xs : List V} {ds : List PyData} : SqL g.K g.F a xs → DqA g xs ds → Dq g (.ref a) (.list ds)
  | tup {a : Addr} {xs : List V} {ds : List PyData} : SqT g.K g.F a xs → DqA g xs ds → Dq g (.ref a) (.tuple ds)
  | ref {l : Nat} : l < g.n → Dq g (.ref (g.μ l)) (rf l)
inductive DqA (g : Gd) : List V → List PyData → Prop
  | nil : DqA g [] []
  | cons {v : V} {vs : List V} {d : PyData} {ds : List PyData} : Dq g v d → DqA g vs ds → DqA g (v :: vs) (d :: ds)
end

/-- what stands in the store -/
inductive Ob where
  | lst (xs : List PyData)
  | dK (kvs : List (Key × PyData))
  | ins (C : Addr) (fs : List (Str × PyData))
  | dead

abbrev Ws := List Ob

/-- pairs of a key and a value -/
def KvR {κ : Type} (g : Gd) : List (κ × V) → List (κ × PyData) → Prop := Paired fun p q => p.1 = q.1 ∧ Dq g p.2 q.2

def ObR (g : Gd) (H : Hp) (a : Addr) : Ob → Prop
  | .lst ds => g.F a = none ∧ ∃ xs, H a = some (.lst xs) ∧ DqA g xs ds
  | .dK kvs => g.F a = none ∧ ∃ ks, H a = some (.dK ks) ∧ KvR g ks kvs
  | .ins C fs => g.F a = none ∧ ∃ dx gs, H a = some (.ins C dx gs) ∧ H dx = some (.own a) ∧ g.F dx = none ∧ KvR g gs fs
  | .dead => ∃ o, H a = some o

structure Rp (g : Gd) (H : Hp) (w : Ws) : Prop where
  fro : ∀ a o, g.F a = some o → H a = some o
  len : g.n = w.length
  cell : ∀ l ob, w[l]? = some ob → ObR g H (g.μ l) ob
  inj : ∀ l m, l < g.n → m < g.n → g.μ l = g.μ m → l = m
  pin : ∀ a o, g.P a = some o → H a = some o ∧ g.F a = none ∧ ∀ l, l < g.n → g.μ l ≠ a

/-- the ground grows -/
structure Xt0 (g g' : Gd) : Prop where
  k : g'.K = g.K
  ex : ∀ a o, g.F a = some o → g'.F a = some o
  at_ : ∀ l, l < g.n → g'.μ l = g.μ l
  le : g.n ≤ g'.n
structure Xt (g g' : Gd) : Prop extends Xt0 g g' where
  p : g'.P = g.P
instance {g g' : Gd} : Coe (Xt g g') (Xt0 g g') := ⟨Xt.toXt0⟩

theorem Xt.refl (g : Gd) : Xt g g := ⟨⟨rfl, fun _ _ h => h, fun _ _ => rfl, Nat.le_refl _⟩, rfl⟩
theorem Xt0.trans {g g1 g2 : Gd} (a : Xt0 g g1) (b : Xt0 g1 g2) : Xt0 g g2 :=
  ⟨b.k.trans a.k, fun x o h => b.ex x o (a.ex x o h), fun l h => (b.at_ l (Nat.lt_of_lt_of_le h a.le)).trans (a.at_ l h), Nat.le_trans a.le b.le⟩
theorem Xt.trans {g g1 g2 : Gd} (a : Xt g g1) (b : Xt g1 g2) : Xt g g2 := ⟨a.toXt0.trans b.toXt0, b.p.trans a.p⟩

theorem Xt0.rd {g g' : Gd} (x : Xt0 g g') {a : Addr} {u : HO} (h : Rd g.F a u) : Rd g'.F a u := by
  rcases h with h | ⟨o, h⟩
  · exact .inl (x.ex _ _ h)
  · exact .inr ⟨o, x.ex _ _ h⟩
theorem Xt0.sqL {g g' : Gd} (x : Xt0 g g') {a : Addr} {xs : List V} (h : SqL g.K g.F a xs) : SqL g'.K g'.F a xs := by
  rw [x.k]
  rcases h with h | h
  · exact .inl (x.rd h)
  · exact .inr h
theorem Xt0.sqT {g g' : Gd} (x : Xt0 g g') {a : Addr} {xs : List V} (h : SqT g.K g.F a xs) : SqT g'.K g'.F a xs := by
  rw [x.k]
  rcases h with h | h
  · exact .inl (x.rd h)
  · exact .inr h

mutual
theorem Dq.mono {g g' : Gd} (x : Xt0 g g') : ∀ (d : PyData) (v : V), Dq g v d → Dq g' v d
  | .none, _, h => by cases h; exact .non
  | .bool _, _, h => by cases h; exact .bl _
  | .int _, _, h => by cases h; exact .int _
  | .str _, _, h => by cases h; exact .str _
  | .list ds, _, h => by
    cases h with
    | lst a b => exact .lst (x.sqL a) (DqA.mono x ds _ b)
  | .tuple ds, _, h => by
    cases h with
    | tup a b => exact .tup (x.sqT a) (DqA.mono x ds _ b)
  | .dict _, _, h => by
    cases h with
    | ref hl =>
      rw [← x.at_ _ hl]
      exact .ref (Nat.lt_of_lt_of_le hl x.le)
theorem DqA.mono {g g' : Gd} (x : Xt0 g g') : ∀ (ds : List PyData) (vs : List V), DqA g vs ds → DqA g' vs ds
  | [], _, h => by cases h; exact .nil
  | d :: ds, _, h => by
    cases h with
    | cons a b => exact .cons (Dq.mono x d _ a) (DqA.mono x ds _ b)
end

theorem KvR.mono {κ : Type} {g g' : Gd} (x : Xt0 g g') : ∀ {ks : List (κ × V)} {kvs : List (κ × PyData)}, KvR g ks kvs → KvR g' ks kvs
  | _, _, .nil => .nil
  | _, _, .cons h t => .cons ⟨h.1, h.2.mono x _ _⟩ (KvR.mono x t)

theorem DqA.length {g : Gd} : ∀ {vs : List V} {ds : List PyData}, DqA g vs ds → vs.length = ds.length
  | _, _, .nil => rfl
  | _, _, .cons _ t => congrArg (· + 1) (DqA.length t)
theorem DqA.get {g : Gd} : ∀ {vs : List V} {ds : List PyData} {i : Nat} {d : PyData}, DqA g vs ds → ds[i]? = some d → ∃ v, vs[i]? = some v ∧ Dq g v d
  | _, _, _, _, .nil, e => by simp at e
  | _, _, 0, _, .cons h _, e => by simp at e; subst e; exact ⟨_, rfl, h⟩
  | _, _, i + 1, d, .cons _ t, e => by
    obtain ⟨v, h1, h2⟩ := DqA.get (i := i) (d := d) t (by simpa using e)
    exact ⟨v, by simpa using h1, h2⟩
theorem DqA.append {g : Gd} : ∀ {vs us : List V} {ds es : List PyData}, DqA g vs ds → DqA g us es → DqA g (vs ++ us) (ds ++ es)
  | _, _, _, _, .nil, s => s
  | _, _, _, _, .cons r t, s => .cons r (DqA.append t s)
theorem DqA.take {g : Gd} : ∀ {vs : List V} {ds : List PyData} (n : Nat), DqA g vs ds → DqA g (vs.take n) (ds.take n)
  | _, _, 0, _ => .nil
  | _, _, _ + 1, .nil => .nil
  | _, _, n + 1, .cons r t => .cons r (DqA.take n t)
theorem DqA.drop {g : Gd} : ∀ {vs : List V} {ds : List PyData} (n : Nat), DqA g vs ds → DqA g (vs.drop n) (ds.drop n)
  | _, _, 0, r => r
  | _, _, _ + 1, .nil => .nil
  | _, _, n + 1, .cons _ t => DqA.drop n t
theorem DqA.reverse {g : Gd} : ∀ {vs : List V} {ds : List PyData}, DqA g vs ds → DqA g vs.reverse ds.reverse
  | _, _, .nil => .nil
  | _, _, .cons r t => by
    rw [List.reverse_cons, List.reverse_cons]
    exact (DqA.reverse t).append (.cons r .nil)

/-- a frozen object more -/
def Gd.put (g : Gd) (p : Addr) (o : HO) : Gd := { g with F := upd g.F p o }
theorem Rp.fnone {g : Gd} {H : Hp} {w : Ws} (r : Rp g H w) {p : Addr} (h : H p = none) : g.F p = none := by
  cases e : g.F p with
  | none => rfl
  | some o => rw [r.fro p o e] at h; cases h
theorem Xt.put {g : Gd} {p : Addr} {o : HO} (h : g.F p = none) : Xt g (g.put p o) :=
  ⟨⟨rfl, fun a u e => by show upd g.F p o a = _; rw [upd_ne (ne_of_none e h)]; exact e, fun _ _ => rfl, Nat.le_refl _⟩, rfl⟩
theorem ObR.there {g : Gd} {H : Hp} {a : Addr} {ob : Ob} (h : ObR g H a ob) : ∃ o, H a = some o := by
  cases ob with
  | lst ds => obtain ⟨_, xs, h, _⟩ := h; exact ⟨_, h⟩
  | dK ds => obtain ⟨_, xs, h, _⟩ := h; exact ⟨_, h⟩
  | ins C fs => obtain ⟨_, dx, gs, h, _⟩ := h; exact ⟨_, h⟩
  | dead => exact h
/-- an object at another address does not matter -/
theorem ObR.new {g g' : Gd} {H H' : Hp} {a : Addr} {ob : Ob} (x : Xt0 g g') (h : ObR g H a ob) (hf : ∀ b, (H b).isSome = true → g'.F b = g.F b ∧ H' b = H b) : ObR g' H' a ob := by
  have q : ∀ {b : Addr} {o : HO}, H b = some o → g'.F b = g.F b ∧ H' b = some o := fun {b o} e => by
    have z := hf b (by rw [e]; rfl)
    exact ⟨z.1, z.2.trans e⟩
  cases ob with
  | lst ds =>
    obtain ⟨hn, xs, h, d⟩ := h
    exact ⟨(q h).1.trans hn, xs, (q h).2, d.mono x _ _⟩
  | dK kvs =>
    obtain ⟨hn, ks, h, d⟩ := h
    exact ⟨(q h).1.trans hn, ks, (q h).2, d.mono x⟩
  | ins C fs =>
    obtain ⟨hn, dx, gs, h, hd, hn2, d⟩ := h
    exact ⟨(q h).1.trans hn, dx, gs, (q h).2, (q hd).2, (q hd).1.trans hn2, d.mono x⟩
  | dead =>
    obtain ⟨o, h⟩ := h
    exact ⟨o, (q h).2⟩
theorem Rp.put {g : Gd} {H : Hp} {w : Ws} (r : Rp g H w) {p : Addr} {o : HO} (h : H p = none) : Rp (g.put p o) (upd H p o) w where
  fro := fun a u e => by
    by_cases q : a = p
    · subst q
      have e' : upd g.F a o a = some u := e
      rw [upd_same] at e' ⊢
      exact e'
    · have e' : upd g.F p o a = some u := e
      rw [upd_ne q] at e' ⊢
      exact r.fro a u e'
  len := r.len
  cell := fun l ob e => (r.cell l ob e).new (Xt.put (r.fnone h)).toXt0 fun b hb => by
    have nb : b ≠ p := fun z => by subst z; rw [h] at hb; cases hb
    exact ⟨upd_ne nb, upd_ne nb⟩
  inj := r.inj
  pin := fun a u e => by
    obtain ⟨h1, h2, h3⟩ := r.pin a u e
    have na : a ≠ p := fun z => by subst z; rw [h] at h1; cases h1
    exact ⟨by rw [upd_ne na]; exact h1, (upd_ne na).trans h2, h3⟩

/-! ### outcomes -/
inductive Oc (α : Type) where
  | ok (a : α) (w : Ws)
  | ex (c : Value) (fs : List (Str × PyData)) (w : Ws)
  | no
def Oc.bind {α β : Type} (x : Oc α) (f : α → Ws → Oc β) : Oc β :=
  match x with
  | .ok a w => f a w
  | .ex c fs w => .ex c fs w
  | .no => .no
abbrev Ev := List (Option PyData)
abbrev FE := Ev → Ws → Oc PyData
abbrev FT := Ev → Ws → Oc Bool
abbrev FA := Ev → Ws → Oc (List PyData)
inductive Os where
  | nx (ρ : Ev) (w : Ws)
  | rt (d : PyData) (w : Ws)
  | bk (ρ : Ev) (w : Ws)
  | ct (ρ : Ev) (w : Ws)
  | ex (ρ : Ev) (c : Value) (fs : List (Str × PyData)) (w : Ws)
  | no
abbrev FS := Ev → Ws → Os

/-- the frame's names -/
structure EnR (g : Gd) (σ : St) (ρ : Ev) : Prop where
  len : σ.length = ρ.length
  at_ : ∀ (i : Nat) (d : PyData), ρ[i]? = some (some d) → ∃ v, σ[i]? = some (some v) ∧ Dq g v d
theorem EnR.mono {g g' : Gd} (x : Xt0 g g') {σ : St} {ρ : Ev} (e : EnR g σ ρ) : EnR g' σ ρ :=
  ⟨e.len, fun i d h => let ⟨v, a, b⟩ := e.at_ i d h; ⟨v, a, b.mono x _ _⟩⟩
theorem EnR.set {g : Gd} {σ : St} {ρ : Ev} (e : EnR g σ ρ) {v : V} {d : PyData} (i : Nat) (h : Dq g v d) : EnR g (σ.set i (some v)) (ρ.set i (some d)) := by
  refine ⟨by rw [List.length_set, List.length_set]; exact e.len, fun j c hj => ?_⟩
  rw [List.getElem?_set] at hj ⊢
  by_cases q : i = j
  · subst q
    rw [if_pos rfl] at hj ⊢
    by_cases z : i < ρ.length
    · rw [if_pos z] at hj
      rw [if_pos (by rw [e.len]; exact z)]
      have := Option.some.inj (Option.some.inj hj)
      subst this
      exact ⟨v, rfl, h⟩
    · rw [if_neg z] at hj
      cases hj
  · rw [if_neg q] at hj ⊢
    exact e.at_ j c hj

/-- what is wanted of an exception: the fields of its own dict -/
def XdR (g : Gd) (H : Hp) (fs : List (Str × PyData)) : Option Addr → Prop
  | none => fs = []
  | some d => g.F d = none ∧ (∀ l, l < g.n → g.μ l ≠ d) ∧ ∃ gs, H d = some (.xd gs) ∧ KvR g gs fs

def oX {α β : Type} (W : WX) (σ : St) (R : Gd → β → α → Prop) (g : Gd) (Q : β → Hp → Prop) : Oc α → Prop
  | .ok d w => ∀ v H g', Xt g g' → Rp g' H w → R g' v d → Q v H
  | .ex c fs w => ∀ dd H g', Xt g g' → Rp g' H w → XdR g' H fs dd → W c dd σ H
  | .no => False
def lX {α β : Type} (K : PySem.W.Frag) (W : WX) (R : Gd → β → α → Prop) (f : Ev → Ws → Oc α) : St → Hp → (β → Hp → Prop) → Prop := fun σ H Q =>
  ∃ g ρ w, g.K = K ∧ Rp g H w ∧ EnR g σ ρ ∧ oX W σ R g Q (f ρ w)
abbrev lE (K : PySem.W.Frag) (W : WX) (f : FE) : TE := lX K W Dq f
abbrev lT (K : PySem.W.Frag) (W : WX) (f : FT) : TT := lX K W (fun _ (b c : Bool) => b = c) f
abbrev lA (K : PySem.W.Frag) (W : WX) (f : FA) : TA := lX K W DqA f

/-- the ground has grown: the wish stays -/
theorem oX.mono {α β : Type} {W : WX} {σ : St} {R : Gd → β → α → Prop} {g g' : Gd} {Q : β → Hp → Prop} (x : Xt g g') : ∀ {o : Oc α}, oX W σ R g Q o → oX W σ R g' Q o
  | .ok _ _, h => fun v H g2 y r q => h v H g2 (x.trans y) r q
  | .ex _ _ _, h => fun d H g2 y r q => h d H g2 (x.trans y) r q
  | .no, h => h

/-- a part first -/
theorem lX_bind {α β γ δ : Type} {W : WX} {R : Gd → β → α → Prop} {S : Gd → δ → γ → Prop} {f : Ev → Ws → Oc α} {k : α → Ws → Oc γ} {σ : St} {H : Hp} {g : Gd} {ρ : Ev} {w : Ws} {Q : δ → Hp → Prop} {T : β → Hp → Prop}
    {K : PySem.W.Frag} (hK : g.K = K) (r : Rp g H w) (e : EnR g σ ρ) (h : oX W σ S g Q ((f ρ w).bind k))
    (hT : ∀ v H1 g1 d w1, Xt g g1 → Rp g1 H1 w1 → EnR g1 σ ρ → R g1 v d → oX W σ S g1 Q (k d w1) → T v H1) : lX K W R f σ H T := by
  refine ⟨g, ρ, w, hK, r, e, ?_⟩
  cases q : f ρ w with
  | ok d w1 =>
    rw [q] at h
    exact fun v H1 g1 x r1 z => hT v H1 g1 d w1 x r1 (e.mono x) z (oX.mono x h)
  | ex c fs w1 =>
    rw [q] at h
    exact h
  | no =>
    rw [q] at h
    exact h

/-! ### weaker readings -/
theorem pe_imp {X : Cx} {e : Expr} {t t' : TE} (h : PE X e t) (i : ∀ σ H Q, t' σ H Q → t σ H Q) : PE X e t' := ⟨fun pins s σ H Q I q => h.run pins s σ H Q I (i σ H Q q)⟩
theorem pt_imp {X : Cx} {e : Expr} {t t' : TT} (h : PT X e t) (i : ∀ σ H Q, t' σ H Q → t σ H Q) : PT X e t' := ⟨fun pins s σ H Q I q => h.run pins s σ H Q I (i σ H Q q)⟩
theorem pw_imp {X : Cx} {e : Expr} {t t' : TT} (h : PW X e t) (i : ∀ σ H Q, t' σ H Q → t σ H Q) : PW X e t' := ⟨fun wh pins s σ H Q I q => h.run wh pins s σ H Q I (i σ H Q q)⟩
theorem pa_imp {X : Cx} {e : List Expr} {t t' : TA} (h : PA X e t) (i : ∀ σ H Q, t' σ H Q → t σ H Q) : PA X e t' := ⟨fun p pins s σ H Q I q => h.run p pins s σ H Q I (i σ H Q q)⟩
theorem ps_imp {X : Cx} {e : Stmt} {t t' : TS} (h : PS X e t) (i : ∀ D σ H, t' D σ H → t D σ H) : PS X e t' := ⟨fun pins s σ H D I q => h.run pins s σ H D I (i D σ H q)⟩
theorem pss_imp {X : Cx} {e : List Stmt} {t t' : TS} (h : PSs X e t) (i : ∀ D σ H, t' D σ H → t D σ H) : PSs X e t' := ⟨fun pins s σ H D I q => h.run pins s σ H D I (i D σ H q)⟩

end Td

set_option Elab.async false
set_option linter.all false
set_option maxRecDepth 100000
set_option maxHeartbeats 4000000
namespace Td
open PySem L2
abbrev PF (X : Cx) (W : WX) (e : Expr) (f : FE) : Prop := PE X e (lE X.K W f)
abbrev PTf (X : Cx) (W : WX) (e : Expr) (f : FT) : Prop := PT X e (lT X.K W f)
abbrev PWf (X : Cx) (W : WX) (e : Expr) (f : FT) : Prop := PW X e (lT X.K W f)
abbrev PAf (X : Cx) (W : WX) (es : List Expr) (f : FA) : Prop := PA X es (lA X.K W f)

section
variable {X : Cx} {W : WX}
/-! ### names, constants -/
def eV (i : Nat) : FE := fun ρ w => match ρ[i]? with
  | some (some d) => .ok d w
  | _ => .no
def eC (d : PyData) : FE := fun _ w => .ok d w
theorem lE_c {K : PySem.W.Frag} {v : V} {d : PyData} (h : ∀ g : Gd, Dq g v d) : ∀ σ H Q, lE K W (eC d) σ H Q → tC v σ H Q := fun σ H Q ⟨g, ρ, w, hK, r, e, q⟩ => q v H g (Xt.refl g) r (h g)
theorem pf_var (i : Nat) {x : Str} {pos : Pos} (hN : X.N[i]? = some x := by rfl) (hv : Vis X.env.scope x := by first | exact Or.inl rfl | exact Or.inr (Or.inl rfl) | exact Or.inr (Or.inr rfl)) (hd : (x == ("__debug__" : Str)) = false := by decide)
    (hcd : (x == ("__classdict__" : Str)) = false := by decide) : PF X W (.Name x pos) (eV i) := by
  refine pe_imp (pv i hN hv hd hcd) fun σ H Q ⟨g, ρ, w, hK, r, e, q⟩ => ?_
  unfold eV at q
  split at q
  · rename_i d hd'
    obtain ⟨v, hv', dv⟩ := e.at_ i d hd'
    exact ⟨v, hv', q v H g (Xt.refl g) r dv⟩
  · exact q.elim
theorem pf_int {i j pos} : PF X W (.Constant (.int i) j pos) (eC (.int i)) := pe_imp pe_int (lE_c fun _ => .int i)
theorem pf_bl {b j pos} : PF X W (.Constant (.bool b) j pos) (eC (.bool b)) := pe_imp pe_bl (lE_c fun _ => .bl b)
theorem pf_non {j pos} : PF X W (.Constant .none j pos) (eC .none) := pe_imp pe_non (lE_c fun _ => .non)
theorem pf_str {x j pos} : PF X W (.Constant (.str x) j pos) (eC (.str x)) := pe_imp pe_str (lE_c fun _ => .str _)
theorem pf_gint {x : Str} {i : Int} {t : Tok} {pos : Pos} (hg : Gl X x) (hm : X.mg x = some (.int i t)) (hd : (x == ("__debug__" : Str)) = false := by decide) : PF X W (.Name x pos) (eC (.int i)) := pe_imp (pe_glob hg hm (v := .int i) ⟨_, rfl⟩ hd) (lE_c fun _ => .int i)
theorem pf_gstr {x : Str} {z : Str} {t : Tok} {pos : Pos} (hg : Gl X x) (hm : X.mg x = some (.str z t)) (hd : (x == ("__debug__" : Str)) = false := by decide) : PF X W (.Name x pos) (eC (.str z)) := pe_imp (pe_glob hg hm (v := .str z) ⟨_, rfl⟩ hd) (lE_c fun _ => .str z)

/-! ### argument lists, displays -/
def aN : FA := fun _ w => .ok [] w
def aC (f : FE) (fr : FA) : FA := fun ρ w => (f ρ w).bind fun d w1 => (fr ρ w1).bind fun ds w2 => .ok (d :: ds) w2
theorem paf_nil : PAf X W [] aN := pa_imp pa_nil fun σ H Q ⟨g, ρ, w, hK, r, e, q⟩ => q [] H g (Xt.refl g) r .nil
theorem paf_cons {e : Expr} {es : List Expr} {f : FE} {fr : FA} (ha : PF X W e f) (hr : PAf X W es fr) (hs : starEach (e :: es) X.env = (false, eval e X.env) :: starEach es X.env := by rfl) : PAf X W (e :: es) (aC f fr) := by
  refine pa_imp (pa_cons ha hr hs) fun σ H Q ⟨g, ρ, w, hK, r, e, q⟩ => ?_
  refine lX_bind hK r e q fun v H1 g1 d w1 x r1 e1 dv z => ?_
  refine lX_bind (x.k.trans hK) r1 e1 z fun vs H2 g2 ds w2 x2 r2 e2 dvs z2 => ?_
  exact z2 _ H2 g2 (Xt.refl _) r2 (.cons (dv.mono x2 _ _) dvs)
def szOk (n : Nat) : Bool := decide (n ≤ sizeLine)
/-- only where a test holds -/
def Oc.on {α : Type} (b : Bool) (x : Oc α) : Oc α := cond b x .no
theorem oX.on {α β : Type} {σ : St} {R : Gd → β → α → Prop} {g : Gd} {Q : β → Hp → Prop} {b : Bool} {x : Oc α} (h : oX W σ R g Q (Oc.on b x)) : b = true ∧ oX W σ R g Q x := by
  cases b with
  | true => exact ⟨rfl, h⟩
  | false => exact h.elim
def eTup (fa : FA) : FE := fun ρ w => (fa ρ w).bind fun ds w1 => Oc.on (szOk ds.length) (.ok (.tuple ds) w1)
def eLst (fa : FA) : FE := fun ρ w => (fa ρ w).bind fun ds w1 => Oc.on (szOk ds.length) (.ok (.list ds) w1)
theorem newT {g : Gd} {H : Hp} {w : Ws} {vs : List V} {ds : List PyData} (r : Rp g H w) {p : Addr} (hp : H p = none) (d : DqA g vs ds) : Dq (g.put p (.tup vs)) (.ref p) (.tuple ds) :=
  .tup (SqT.of upd_same) (d.mono (Xt.put (r.fnone hp)).toXt0 _ _)
theorem newL {g : Gd} {H : Hp} {w : Ws} {vs : List V} {ds : List PyData} (r : Rp g H w) {p : Addr} (hp : H p = none) (d : DqA g vs ds) : Dq (g.put p (.lst vs)) (.ref p) (.list ds) :=
  .lst (SqL.of upd_same) (d.mono (Xt.put (r.fnone hp)).toXt0 _ _)
theorem pf_tup {es : List Expr} {fa : FA} {x1} {pos : Pos} (h : PAf X W es fa) : PF X W (.Tuple es x1 pos) (eTup fa) := by
  refine pe_imp (pe_tup h) fun σ H Q ⟨g, ρ, w, hK, r, e, q⟩ => ?_
  refine lX_bind hK r e q fun vs H1 g1 ds w1 x r1 e1 d z => ?_
  obtain ⟨hb, z⟩ := z.on
  refine ⟨by rw [d.length]; exact of_decide_eq_true hb, fun p hp => ?_⟩
  exact z _ _ _ (Xt.put (r1.fnone hp)) (r1.put hp) (newT r1 hp d)
theorem pf_lst {es : List Expr} {fa : FA} {pos : Pos} (h : PAf X W es fa) : PF X W (.List es pos) (eLst fa) := by
  refine pe_imp (pe_lst h) fun σ H Q ⟨g, ρ, w, hK, r, e, q⟩ => ?_
  refine lX_bind hK r e q fun vs H1 g1 ds w1 x r1 e1 d z => ?_
  obtain ⟨hb, z⟩ := z.on
  refine ⟨by rw [d.length]; exact of_decide_eq_true hb, fun p hp => ?_⟩
  exact z _ _ _ (Xt.put (r1.fnone hp)) (r1.put hp) (newL r1 hp d)

/-! ### data to Dp -/
mutual
theorem Dq.dp {g : Gd} {H : Hp} (hf : ∀ a o, g.F a = some o → H a = some o) : ∀ (d : PyData) (v : V), d.canLay0 = true → Dq g v d → Dp g.K H v d
  | .none, _, _, h => by cases h; exact .non
  | .bool _, _, _, h => by cases h; exact .bl _
  | .int _, _, _, h => by cases h; exact .int _
  | .str _, _, _, h => by cases h; exact .str _
  | .list ds, _, c, h => by
    cases h with
    | lst a b => exact .lst (by rcases a with (a | ⟨o, a⟩) | a; exact .inl (.inl (hf _ _ a)); exact .inl (.inr ⟨o, hf _ _ a⟩); exact .inr a) (DqA.dp hf ds _ (by simpa [PyData.canLay0] using c) b)
  | .tuple ds, _, c, h => by
    cases h with
    | tup a b => exact .tup (by rcases a with (a | ⟨o, a⟩) | a; exact .inl (.inl (hf _ _ a)); exact .inl (.inr ⟨o, hf _ _ a⟩); exact .inr a) (DqA.dp hf ds _ (by simpa [PyData.canLay0] using c) b)
  | .dict _, _, c, h => by simp [PyData.canLay0] at c
theorem DqA.dp {g : Gd} {H : Hp} (hf : ∀ a o, g.F a = some o → H a = some o) : ∀ (ds : List PyData) (vs : List V), PyData.canLayAll0 ds = true → DqA g vs ds → DpAll g.K H vs ds
  | [], _, _, h => by cases h; exact .nil
  | d :: ds, _, c, h => by
    have c' : d.canLay0 = true ∧ PyData.canLayAll0 ds = true := by simpa [PyData.canLayAll0] using c
    cases h with
    | cons a b => exact .cons (Dq.dp hf d _ c'.1 a) (DqA.dp hf ds _ c'.2 b)
end
theorem Rp.sqL {g : Gd} {H : Hp} {w : Ws} (r : Rp g H w) {a : Addr} {xs : List V} (h : SqL g.K g.F a xs) : SqL g.K H a xs := by
  rcases h with (a | ⟨o, a⟩) | a
  · exact .inl (.inl (r.fro _ _ a))
  · exact .inl (.inr ⟨o, r.fro _ _ a⟩)
  · exact .inr a
theorem Rp.sqT {g : Gd} {H : Hp} {w : Ws} (r : Rp g H w) {a : Addr} {xs : List V} (h : SqT g.K g.F a xs) : SqT g.K H a xs := by
  rcases h with (a | ⟨o, a⟩) | a
  · exact .inl (.inl (r.fro _ _ a))
  · exact .inl (.inr ⟨o, r.fro _ _ a⟩)
  · exact .inr a

/-! ### operations on data -/
def rD2 (K : PySem.W.Frag) (f : Ws → PyData → PyData → Option PyData) : R2 := fun x y H Q =>
  ∃ g w d e z, g.K = K ∧ Rp g H w ∧ Dq g x d ∧ Dq g y e ∧ f w d e = some z ∧ ∀ v H' g', Xt g g' → Rp g' H' w → Dq g' v z → Q v H'
def Oc.of {α : Type} (o : Option α) (w : Ws) : Oc α := match o with
  | some a => .ok a w
  | none => .no
def eB (f : Ws → PyData → PyData → Option PyData) (fa fb : FE) : FE := fun ρ w => (fa ρ w).bind fun d w1 => (fb ρ w1).bind fun e w2 => Oc.of (f w2 d e) w2
theorem tOp_of {f : Ws → PyData → PyData → Option PyData} {fa fb : FE} {K : PySem.W.Frag} : ∀ σ H Q, lE K W (eB f fa fb) σ H Q → tOp (rD2 K f) (lE K W fa) (lE K W fb) σ H Q := fun σ H Q ⟨g, ρ, w, hK, r, e, q⟩ => by
  refine lX_bind hK r e q fun v H1 g1 d w1 x r1 e1 dv z => ?_
  refine lX_bind (x.k.trans hK) r1 e1 z fun u H2 g2 c w2 x2 r2 e2 du z2 => ?_
  cases hz : f w2 d c with
  | none => rw [hz] at z2; exact z2.elim
  | some y =>
    rw [hz] at z2
    exact ⟨g2, w2, d, c, y, x2.k.trans (x.k.trans hK), r2, dv.mono x2 _ _, du, hz, fun v' H' g' x' r' d' => z2 v' H' g' x' r' d'⟩
theorem pf_bin {op : Operator} {f : Ws → PyData → PyData → Option PyData} {a b : Expr} {fa fb : FE} {pos : Pos} (ho : OpR X (binaryOp op) (rD2 X.K f)) (ha : PF X W a fa) (hb : PF X W b fb) : PF X W (.BinOp a op b pos) (eB f fa fb) :=
  pe_imp (pe_op ho ha hb) tOp_of
theorem pf_cmp {op : CmpOp} {f : Ws → PyData → PyData → Option PyData} {a b : Expr} {fa fb : FE} {pos : Pos} (ho : OpR X (compareOp op) (rD2 X.K f)) (ha : PF X W a fa) (hb : PF X W b fb) (hm : behindInMarks op b = false := by first | exact nomark _ | rfl) : PF X W (.Compare a [op] [b] pos) (eB f fa fb) :=
  pe_imp (pe_cmpR ho ha hb hm) tOp_of
/-- a test whose value is True or False -/
def tB' (f : FE) : FT := fun ρ w => (f ρ w).bind fun d w1 => match d with
  | .bool b => .ok b w1
  | _ => .no
theorem tTest_of {f : FE} {K : PySem.W.Frag} {t : TE} (ht : ∀ σ H Q, lE K W f σ H Q → t σ H Q) : ∀ σ H Q, lT K W (tB' f) σ H Q → t σ H (fun z H3 => ∃ k, z = V.bl k ∧ Q k H3) := fun σ H Q ⟨g, ρ, w, hK, r, e, q⟩ => by
  refine ht σ H _ (lX_bind hK r e q fun v H1 g1 d w1 x r1 e1 dv z => ?_)
  cases dv with
  | bl b => exact ⟨b, rfl, z b H1 g1 (Xt.refl _) r1 rfl⟩
  | non => exact z.elim
  | int => exact z.elim
  | str => exact z.elim
  | lst => exact z.elim
  | tup => exact z.elim
  | ref => exact z.elim
theorem ptf_cmp {op : CmpOp} {f : Ws → PyData → PyData → Option PyData} {a b : Expr} {fa fb : FE} {pos : Pos} (ho : OpR X (compareOp op) (rD2 X.K f)) (ha : PF X W a fa) (hb : PF X W b fb) (hm : behindInMarks op b = false := by first | exact nomark _ | rfl) : PTf X W (.Compare a [op] [b] pos) (tB' (eB f fa fb)) :=
  pt_imp (pt_cmpR ho ha hb hm) (tTest_of tOp_of)
/-- a op b op' c -/
def eCh (f f' : Ws → PyData → PyData → Option PyData) (fa fb fc : FE) : FE := fun ρ w => (fa ρ w).bind fun d w1 => (fb ρ w1).bind fun e w2 => match f w2 d e with
  | some (.bool true) => (fc ρ w2).bind fun c w3 => Oc.of (f' w3 e c) w3
  | some (.bool false) => .ok (.bool false) w2
  | _ => .no
theorem tChain_of {f f' : Ws → PyData → PyData → Option PyData} {fa fb fc : FE} {K : PySem.W.Frag} : ∀ σ H Q, lE K W (eCh f f' fa fb fc) σ H Q → tChain (rD2 K f) (rD2 K f') (lE K W fa) (lE K W fb) (lE K W fc) σ H Q := fun σ H Q ⟨g, ρ, w, hK, r, e, q⟩ => by
  refine lX_bind hK r e q fun v H1 g1 d w1 x r1 e1 dv z => ?_
  refine lX_bind (x.k.trans hK) r1 e1 z fun u H2 g2 c w2 x2 r2 e2 du z2 => ?_
  have hK2 := x2.k.trans (x.k.trans hK)
  split at z2
  · rename_i hz
    refine ⟨g2, w2, d, c, _, hK2, r2, dv.mono x2 _ _, du, hz, fun v' H' g' x' r' d' => ?_⟩
    cases d'
    refine ⟨true, rfl, ?_⟩
    rw [if_pos rfl]
    refine lX_bind (x'.k.trans hK2) r' (e2.mono x') (oX.mono x' z2) fun u3 H3 g3 c3 w3 x3 r3 e3 d3 z3 => ?_
    cases hz3 : f' w3 c c3 with
    | none => rw [hz3] at z3; exact z3.elim
    | some y =>
      rw [hz3] at z3
      exact ⟨g3, w3, c, c3, y, x3.k.trans (x'.k.trans hK2), r3, du.mono (x'.trans x3) _ _, d3, hz3, fun v' H' g' x' r' d' => z3 v' H' g' x' r' d'⟩
  · rename_i hz
    refine ⟨g2, w2, d, c, _, hK2, r2, dv.mono x2 _ _, du, hz, fun v' H' g' x' r' d' => ?_⟩
    cases d'
    refine ⟨false, rfl, ?_⟩
    rw [if_neg Bool.false_ne_true]
    exact z2 _ _ _ x' r' (.bl _)
  · exact z2.elim
theorem pf_chain {op op' : CmpOp} {f f' : Ws → PyData → PyData → Option PyData} {a b c : Expr} {fa fb fc : FE} {pos : Pos} (ho : OpR X (compareOp op) (rD2 X.K f)) (ho' : OpR X (compareOp op') (rD2 X.K f')) (ha : PF X W a fa) (hb : PF X W b fb) (hc : PF X W c fc)
    (hm : lastMarks [op, op'] [b, c] = false := by with_unfolding_all rfl) : PF X W (.Compare a [op, op'] [b, c] pos) (eCh f f' fa fb fc) := pe_imp (pe_chain ho ho' ha hb hc hm) tChain_of
theorem ptf_chain {op op' : CmpOp} {f f' : Ws → PyData → PyData → Option PyData} {a b c : Expr} {fa fb fc : FE} {pos : Pos} (ho : OpR X (compareOp op) (rD2 X.K f)) (ho' : OpR X (compareOp op') (rD2 X.K f')) (ha : PF X W a fa) (hb : PF X W b fb) (hc : PF X W c fc)
    (hm : lastMarks [op, op'] [b, c] = false := by with_unfolding_all rfl) : PTf X W (.Compare a [op, op'] [b, c] pos) (tB' (eCh f f' fa fb fc)) := pt_imp (pt_chain ho ho' ha hb hc hm) (tTest_of tChain_of)

/-! ### and, or, not, if .. else -/
def tAn (t u : FT) : FT := fun ρ w => (t ρ w).bind fun b w1 => cond b (u ρ w1) (.ok false w1)
def tOr' (t u : FT) : FT := fun ρ w => (t ρ w).bind fun b w1 => cond b (.ok true w1) (u ρ w1)
def tNo (t : FT) : FT := fun ρ w => (t ρ w).bind fun b w1 => .ok (!b) w1
theorem pwf_and1 {a : Expr} {pos : Pos} {t : FT} (ha : PTf X W a t) : PWf X W (.BoolOp .And [a] pos) t := pw_and1 ha
theorem pwf_or1 {a : Expr} {pos : Pos} {t : FT} (ha : PTf X W a t) : PWf X W (.BoolOp .Or [a] pos) t := pw_or1 ha
theorem pwf_and {a b : Expr} {rest : List Expr} {pos : Pos} {t u : FT} (ha : PTf X W a t) (hb : PWf X W (.BoolOp .And (b :: rest) pos) u) : PWf X W (.BoolOp .And (a :: b :: rest) pos) (tAn t u) := by
  refine pw_imp (pw_and ha hb) fun σ H Q ⟨g, ρ, w, hK, r, e, q⟩ => ?_
  refine lX_bind hK r e q fun v H1 g1 d w1 x r1 e1 dv z => ?_
  subst dv
  cases v with
  | true => exact iteT ⟨g1, ρ, w1, x.k.trans hK, r1, e1, z⟩
  | false => exact iteF (z _ _ _ (Xt.refl _) r1 rfl)
theorem pwf_or {a b : Expr} {rest : List Expr} {pos : Pos} {t u : FT} (ha : PTf X W a t) (hb : PWf X W (.BoolOp .Or (b :: rest) pos) u) : PWf X W (.BoolOp .Or (a :: b :: rest) pos) (tOr' t u) := by
  refine pw_imp (pw_or ha hb) fun σ H Q ⟨g, ρ, w, hK, r, e, q⟩ => ?_
  refine lX_bind hK r e q fun v H1 g1 d w1 x r1 e1 dv z => ?_
  subst dv
  cases v with
  | true => exact iteT (z _ _ _ (Xt.refl _) r1 rfl)
  | false => exact iteF ⟨g1, ρ, w1, x.k.trans hK, r1, e1, z⟩
theorem ptf_w {e : Expr} {t : FT} (h : PWf X W e t) : PTf X W e t := h.pt
theorem ptf_not {a : Expr} {pos : Pos} {t : FT} (ha : PTf X W a t) : PTf X W (.UnaryOp .Not a pos) (tNo t) := by
  refine pt_imp (pt_not ha) fun σ H Q ⟨g, ρ, w, hK, r, e, q⟩ => ?_
  refine lX_bind hK r e q fun v H1 g1 d w1 x r1 e1 dv z => ?_
  subst dv
  exact z _ _ _ (Xt.refl _) r1 rfl
/-- as values: all but the last are True or False -/
def eAn (f k : FE) : FE := fun ρ w => (f ρ w).bind fun d w1 => match d with
  | .bool true => k ρ w1
  | .bool false => .ok (.bool false) w1
  | _ => .no
def eOr (f k : FE) : FE := fun ρ w => (f ρ w).bind fun d w1 => match d with
  | .bool true => .ok (.bool true) w1
  | .bool false => k ρ w1
  | _ => .no
def eNo (f : FE) : FE := fun ρ w => (f ρ w).bind fun d w1 => match d with
  | .bool b => .ok (.bool (!b)) w1
  | _ => .no
theorem pf_one {op a pos} {f : FE} (h : PF X W a f) : PF X W (.BoolOp op [a] pos) f := pe_one h
theorem pf_and {a b : Expr} {rest : List Expr} {pos : Pos} {f k : FE} (ha : PF X W a f) (hb : PF X W (.BoolOp .And (b :: rest) pos) k) : PF X W (.BoolOp .And (a :: b :: rest) pos) (eAn f k) := by
  refine pe_imp (pe_and ha hb) fun σ H Q ⟨g, ρ, w, hK, r, e, q⟩ => ?_
  refine lX_bind hK r e q fun v H1 g1 d w1 x r1 e1 dv z => ?_
  cases dv with
  | bl b =>
    refine ⟨b, rfl, ?_⟩
    cases b with
    | true => exact iteT ⟨g1, ρ, w1, x.k.trans hK, r1, e1, z⟩
    | false => exact iteF (z _ _ _ (Xt.refl _) r1 (.bl _))
  | _ => exact z.elim
theorem pf_or {a b : Expr} {rest : List Expr} {pos : Pos} {f k : FE} (ha : PF X W a f) (hb : PF X W (.BoolOp .Or (b :: rest) pos) k) : PF X W (.BoolOp .Or (a :: b :: rest) pos) (eOr f k) := by
  refine pe_imp (pe_or ha hb) fun σ H Q ⟨g, ρ, w, hK, r, e, q⟩ => ?_
  refine lX_bind hK r e q fun v H1 g1 d w1 x r1 e1 dv z => ?_
  cases dv with
  | bl b =>
    refine ⟨b, rfl, ?_⟩
    cases b with
    | true => exact iteT (z _ _ _ (Xt.refl _) r1 (.bl _))
    | false => exact iteF ⟨g1, ρ, w1, x.k.trans hK, r1, e1, z⟩
  | _ => exact z.elim
theorem pf_not {a : Expr} {pos : Pos} {f : FE} (ha : PF X W a f) : PF X W (.UnaryOp .Not a pos) (eNo f) := by
  refine pe_imp (pe_not ha) fun σ H Q ⟨g, ρ, w, hK, r, e, q⟩ => ?_
  refine lX_bind hK r e q fun v H1 g1 d w1 x r1 e1 dv z => ?_
  cases dv with
  | bl b => exact ⟨b, rfl, z _ _ _ (Xt.refl _) r1 (.bl _)⟩
  | _ => exact z.elim
def eIf (t : FT) (f k : FE) : FE := fun ρ w => (t ρ w).bind fun b w1 => cond b (f ρ w1) (k ρ w1)
theorem pf_ifx {c a b : Expr} {pos : Pos} {t : FT} {f k : FE} (hc : PTf X W c t) (ha : PF X W a f) (hb : PF X W b k) : PF X W (.IfExp c a b pos) (eIf t f k) := by
  refine pe_imp (pe_ifExp hc ha hb) fun σ H Q ⟨g, ρ, w, hK, r, e, q⟩ => ?_
  refine lX_bind hK r e q fun v H1 g1 d w1 x r1 e1 dv z => ?_
  subst dv
  cases v with
  | true => exact iteT ⟨g1, ρ, w1, x.k.trans hK, r1, e1, z⟩
  | false => exact iteF ⟨g1, ρ, w1, x.k.trans hK, r1, e1, z⟩

/-! ### what stands in the store -/
def lstOf (w : Ws) : PyData → Option (List PyData)
  | .list ds => some ds
  | .dict [(.int l, .none)] => match w[l.toNat]? with
    | some (.lst xs) => some xs
    | _ => none
  | _ => none
def dkOf (w : Ws) : PyData → Option (List (Key × PyData))
  | .dict [(.int l, .none)] => match w[l.toNat]? with
    | some (.dK xs) => some xs
    | _ => none
  | _ => none
theorem lstOf_ok {g : Gd} {H : Hp} {w : Ws} (r : Rp g H w) {v : V} {d : PyData} (h : Dq g v d) {ds : List PyData} (e : lstOf w d = some ds) : ∃ a xs, v = .ref a ∧ SqL g.K H a xs ∧ DqA g xs ds := by
  cases h with
  | lst a da => cases e; exact ⟨_, _, rfl, r.sqL a, da⟩
  | @ref l hl =>
    simp only [lstOf, Int.toNat_natCast] at e
    split at e
    · rename_i xs hx
      cases e
      obtain ⟨_, ys, hy, dy⟩ := r.cell _ _ hx
      exact ⟨_, ys, rfl, SqL.of hy, dy⟩
    · cases e
  | _ => cases e
theorem dkOf_ok {g : Gd} {H : Hp} {w : Ws} (r : Rp g H w) {v : V} {d : PyData} (h : Dq g v d) {ds : List (Key × PyData)} (e : dkOf w d = some ds) : ∃ l xs, v = .ref (g.μ l) ∧ d = rf l ∧ w[l]? = some (.dK ds) ∧ g.F (g.μ l) = none ∧ H (g.μ l) = some (.dK xs) ∧ KvR g xs ds := by
  cases h with
  | @ref l hl =>
    simp only [dkOf, Int.toNat_natCast] at e
    split at e
    · rename_i xs hx
      cases e
      obtain ⟨hn, ys, hy, dy⟩ := r.cell _ _ hx
      exact ⟨l, ys, rfl, rfl, hx, hn, hy, dy⟩
    · cases e
  | _ => cases e

/-! ### truth -/
def truD : PyData → Ws → Option Bool
  | .none, _ => some false
  | .bool b, _ => some b
  | .int i, _ => some (i != 0)
  | .str y, _ => if szOk y.length then some ((y.length : Int) != 0) else none
  | .list xs, _ => some (!xs.isEmpty)
  | .tuple xs, _ => some (!xs.isEmpty)
  | .dict [(.int l, .none)], w => match w[l.toNat]? with
    | some (.lst xs) => some (!xs.isEmpty)
    | some (.dK xs) => some (!xs.isEmpty)
    | _ => none
  | .dict _, _ => none
def tTr (f : FE) : FT := fun ρ w => (f ρ w).bind fun d w1 => Oc.of (truD d w1) w1
theorem DqA.isEmpty {g : Gd} {xs : List V} {ds : List PyData} (h : DqA g xs ds) : ds.isEmpty = xs.isEmpty := by cases h <;> rfl
theorem KvR.isEmpty {κ : Type} {g : Gd} {xs : List (κ × V)} {ds : List (κ × PyData)} (h : KvR g xs ds) : ds.isEmpty = xs.isEmpty := by cases h <;> rfl
theorem truD_ok {g : Gd} {H : Hp} {w : Ws} (r : Rp g H w) {v : V} {d : PyData} (h : Dq g v d) {b : Bool} (e : truD d w = some b) : TruV g.K v H b := by
  cases h with
  | non => exact (Option.some.inj e).symm
  | bl => exact (Option.some.inj e).symm
  | int => exact (Option.some.inj e).symm
  | str =>
    simp only [truD] at e
    split at e
    · rename_i hz
      exact ⟨of_decide_eq_true hz, (Option.some.inj e).symm⟩
    · cases e
  | lst a da => exact .inl ⟨_, r.sqL a, by rw [← da.isEmpty]; exact (Option.some.inj e).symm⟩
  | tup a da => exact .inr (.inl ⟨_, r.sqT a, by rw [← da.isEmpty]; exact (Option.some.inj e).symm⟩)
  | @ref l hl =>
    simp only [truD, Int.toNat_natCast] at e
    split at e
    · rename_i xs hx
      obtain ⟨_, ys, hy, dy⟩ := r.cell _ _ hx
      exact .inl ⟨_, SqL.of hy, by rw [← dy.isEmpty]; exact (Option.some.inj e).symm⟩
    · rename_i xs hx
      obtain ⟨_, ys, hy, dy⟩ := r.cell _ _ hx
      exact .inr (.inr ⟨_, hy, by rw [← dy.isEmpty]; exact (Option.some.inj e).symm⟩)
    · cases e
theorem ptf_tru {a : Expr} {f : FE} (ha : PF X W a f) (he : ∀ whole, isTrue a X.env whole = (do let v ← whole; standAt a.pos; holding [v] (truthy v)) := by intro _; rfl) : PTf X W a (tTr f) := by
  refine pt_imp (pt_truth ha he) fun σ H Q ⟨g, ρ, w, hK, r, e, q⟩ => ?_
  refine lX_bind hK r e q fun v H1 g1 d w1 x r1 e1 dv z => ?_
  cases hz : truD d w1 with
  | none => rw [hz] at z; exact z.elim
  | some b =>
    rw [hz] at z
    refine ⟨b, ?_, z _ _ _ (Xt.refl _) r1 rfl⟩
    rw [← hK, ← x.k]
    exact truD_ok r1 dv hz
end
end Td

set_option Elab.async false
set_option linter.all false
set_option maxRecDepth 100000
set_option maxHeartbeats 4000000
namespace Td
open PySem L2
section
variable {X : Cx} {W : WX}
/-! ### lists that stand anywhere: + -/
theorem cat_lists {pins : List (Addr × Obj)} {s : Shared} {σ : St} {H : Hp} {a b : Addr} {xs ys : List V} {Q : VK} (I : Inv X pins σ H s) (ha : SqL X.K H a xs) (hb : SqL X.K H b ys) (hz : xs.length + ys.length ≤ sizeLine)
    (q : ∀ p, H p = none → Q (.ref p) (upd H p (.lst (xs ++ ys)))) : wpAny (model X.prog X.w) X.A (binaryOp .Add (.ref a) (.ref b)) (EP X pins σ Q) X.xe s := by
  obtain ⟨us, r1, ⟨⟨c1, d1, t1, s1⟩, n1, g1, hc1, hd1, ht1⟩, z1⟩ := I.list ha
  obtain ⟨vs, r2, ⟨⟨c2, d2, t2, s2⟩, n2, g2, hc2, hd2, ht2⟩, z2⟩ := I.list hb
  simp only at hc1 hd1 ht1 hc2 hd2 ht2
  subst hc1 hd1 ht1 hc2 hd2 ht2
  have l1 := r1.length
  have l2 := r2.length
  have hs : us.toArray.size + vs.toArray.size ≤ sizeLine := by rw [List.size_toArray, List.size_toArray, ← l1, ← l2]; exact hz
  refine PySem.concat_meets ⟨_, g1, rfl⟩ ⟨_, g2, rfl⟩ PySem.noFill_list_add PySem.seq_list_add PySem.F.slot_list_add PySem.F.entry_list_add (PySem.F.args_list_add_2 _ _)
    (PyProof.Rows.list_addW a b us.toArray vs.toArray n1 n2 none none s1 s2 hs) ⟨g1, g2, ?_⟩
  have ea : us.toArray ++ vs.toArray = (us ++ vs).toArray := by simp
  rw [ea]
  exact ⟨.ref _, _, I.lnew (t' := s.toks) (r1.append r2) (by rw [List.length_append]; exact hz), rfl, q _ I.fresh⟩

/-! ### + -/
def b01 (b : Bool) : Int := if b = true then (1 : Int) else 0
def addD (w : Ws) : PyData → PyData → Option PyData
  | .int i, .int j => some (.int (i + j))
  | .bool b, .int j => some (.int (b01 b + j))
  | .str a, .str b => if szOk (a.length + b.length) then some (.str (a ++ b)) else none
  | .tuple a, .tuple b => if szOk (a.length + b.length) then some (.tuple (a ++ b)) else none
  | d, e => match lstOf w d, lstOf w e with
    | some a, some b => if szOk (a.length + b.length) then some (.list (a ++ b)) else none
    | _, _ => none
theorem add_lst {pins : List (Addr × Obj)} {s : Shared} {σ : St} {H : Hp} {x y : V} {v u : Value} {Q : VK} {g : Gd} {w : Ws} {d e z : PyData} (I : Inv X pins σ H s) (rx : RelV x v) (ry : RelV y u) (hK : g.K = X.K) (r : Rp g H w) (dx : Dq g x d) (dy : Dq g y e)
    (hz : (match lstOf w d, lstOf w e with
    | some a, some b => if szOk (a.length + b.length) then some (PyData.list (a ++ b)) else none
    | _, _ => none) = some z) (q : ∀ v H' g', Xt g g' → Rp g' H' w → Dq g' v z → Q v H') : wpAny (model X.prog X.w) X.A (binaryOp .Add v u) (EP X pins σ Q) X.xe s := by
  split at hz
  · rename_i a b ha hb
    split at hz
    · rename_i hs
      cases hz
      obtain ⟨p1, xs, rfl, s1, d1⟩ := lstOf_ok r dx ha
      obtain ⟨p2, ys, rfl, s2, d2⟩ := lstOf_ok r dy hb
      cases rx
      cases ry
      refine cat_lists I (by rw [← hK]; exact s1) (by rw [← hK]; exact s2) (by rw [d1.length, d2.length]; exact of_decide_eq_true hs) fun p hp => ?_
      exact q _ _ _ (Xt.put (r.fnone hp)) (r.put hp) (newL r hp (d1.append d2))
    · cases hz
  · cases hz
theorem op_addD : OpR X (binaryOp .Add) (rD2 X.K addD) := by
  intro pins s σ H x y v u Q I rx ry ⟨g, w, d, e, z, hK, r, dx, dy, hz, q⟩
  unfold addD at hz
  split at hz
  · cases hz; cases dx; cases dy
    exact op_add pins s σ H _ _ v u Q I rx ry ⟨_, _, rfl, rfl, q _ H g (Xt.refl g) r (.int _)⟩
  · cases hz; cases dx; cases dy
    cases rx
    obtain ⟨t, rfl⟩ := ry
    exact PySem.IntBool.add_bool_int ⟨.int _, H, I.tok _, ⟨_, rfl⟩, q _ H g (Xt.refl g) r (.int _)⟩
  · cases dx; cases dy
    split at hz
    · rename_i hs
      cases hz
      exact op_add_str pins s σ H _ _ v u Q I rx ry ⟨_, _, rfl, rfl, of_decide_eq_true hs, q _ H g (Xt.refl g) r (.str _)⟩
    · cases hz
  · cases dx
    cases dy
    rename_i a1 b1 s1 d1 a2 b2 s2 d2
    split at hz
    · rename_i hs
      cases hz
      refine op_catA pins s σ H _ _ v u Q I rx ry ⟨_, _, _, _, rfl, rfl, by rw [← hK]; exact r.sqT s1, by rw [← hK]; exact r.sqT s2, by rw [d1.length, d2.length]; exact of_decide_eq_true hs, fun e0 => ?_, fun _ e0 => ?_, fun _ _ p hp => ?_⟩
      · subst e0
        cases d1
        exact q _ H g (Xt.refl g) r (.tup s2 d2)
      · subst e0
        cases d2
        rw [List.append_nil] at q
        exact q _ H g (Xt.refl g) r (.tup s1 d1)
      · exact q _ _ _ (Xt.put (r.fnone hp)) (r.put hp) (newT r hp (d1.append d2))
    · cases hz
  · exact add_lst I rx ry hK r dx dy hz q

/-! ### ints -/
def intD (c : Int → Int → Bool) (f : Int → Int → Int) (_ : Ws) : PyData → PyData → Option PyData
  | .int i, .int j => if c i j then some (.int (f i j)) else none
  | _, _ => none
theorem op_intD {fn : Value → Value → Sem Value} {c : Int → Int → Bool} {C : Int → Int → Prop} {f : Int → Int → Int} (h : OpR X fn (rI C fun i j => .int (f i j))) (hc : ∀ i j, c i j = true → C i j) : OpR X fn (rD2 X.K (intD c f)) := by
  intro pins s σ H x y v u Q I rx ry ⟨g, w, d, e, z, hK, r, dx, dy, hz, q⟩
  unfold intD at hz
  split at hz
  · cases dx; cases dy
    split at hz
    · rename_i hs
      cases hz
      exact h pins s σ H _ _ v u Q I rx ry ⟨_, _, rfl, rfl, hc _ _ hs, q _ H g (Xt.refl g) r (.int _)⟩
    · cases hz
  · cases hz
def cY : Int → Int → Bool := fun _ _ => true
def subD (_ : Ws) : PyData → PyData → Option PyData
  | .int i, .int j => some (.int (i - j))
  | .bool b, .int j => some (.int (b01 b - j))
  | _, _ => none
theorem op_subD : OpR X (binaryOp .Sub) (rD2 X.K subD) := by
  intro pins s σ H x y v u Q I rx ry ⟨g, w, d, e, z, hK, r, dx, dy, hz, q⟩
  unfold subD at hz
  split at hz
  · cases hz; cases dx; cases dy
    exact op_sub pins s σ H _ _ v u Q I rx ry ⟨_, _, rfl, rfl, q _ H g (Xt.refl g) r (.int _)⟩
  · cases hz; cases dx; cases dy
    cases rx
    obtain ⟨t, rfl⟩ := ry
    exact PySem.IntBool.sub_bool_int ⟨.int _, H, I.tok _, ⟨_, rfl⟩, q _ H g (Xt.refl g) r (.int _)⟩
  · cases hz
def cDv : Int → Int → Bool := fun _ j => decide (j ≠ 0) && decide (j.natAbs < 1073741824)
abbrev fdvD := intD cDv Int.fdiv
theorem op_fdvD : OpR X (binaryOp .FloorDiv) (rD2 X.K fdvD) := op_intD op_fdivN fun i j h => show _ ∧ _ from by
  unfold cDv at h
  rw [Bool.and_eq_true] at h
  exact ⟨of_decide_eq_true h.1, of_decide_eq_true h.2⟩
def cNz : Int → Int → Bool := fun _ j => decide (j ≠ 0)
abbrev modD := intD cNz Int.fmod
theorem op_modD : OpR X (binaryOp .Mod) (rD2 X.K modD) := op_intD op_modN fun i j h => show j ≠ 0 from by unfold cNz at h; exact of_decide_eq_true h
def cPw : Int → Int → Bool := fun i j => decide (0 ≤ j) && decide (j ≤ 1000000) && decide (i.natAbs < 2 ^ 64)
abbrev powD := intD cPw (fun i j => i ^ j.toNat)
theorem op_powD : OpR X (binaryOp .Pow) (rD2 X.K powD) := op_intD op_pow fun i j h => show _ ∧ _ ∧ _ from by
  unfold cPw at h
  rw [Bool.and_eq_true, Bool.and_eq_true] at h
  exact ⟨of_decide_eq_true h.1.1, of_decide_eq_true h.1.2, of_decide_eq_true h.2⟩

/-! ### * -/
def cMl (i j : Int) : Bool := decide (i.natAbs < 2 ^ 64) || decide (j.natAbs < 2 ^ 64)
def cMs (n : Nat) (k : Int) : Bool := decide (2 ≤ k ∧ k ≤ 10000 ∧ 1 ≤ n ∧ n ≤ 1000)
def cMt (n : Nat) (k : Int) : Bool := decide (2 ≤ k ∧ k ≤ 1000 ∧ 1 ≤ n ∧ n ≤ 1000)
def mulD (_ : Ws) : PyData → PyData → Option PyData
  | .int i, .int j => if cMl i j then some (.int (i * j)) else none
  | .str a, .int k => if cMs a.length k then some (.str (PySem.Txt.mul a k)) else none
  | .tuple a, .int k => if cMt a.length k then some (.tuple (List.replicate k.toNat a).flatten) else none
  | _, _ => none
theorem DqA.rep {g : Gd} {vs : List V} {ds : List PyData} (h : DqA g vs ds) : ∀ n, DqA g (List.replicate n vs).flatten (List.replicate n ds).flatten
  | 0 => .nil
  | n + 1 => by
    rw [List.replicate_succ, List.replicate_succ, List.flatten_cons, List.flatten_cons]
    exact h.append (DqA.rep h n)
theorem op_mulD : OpR X (binaryOp .Mult) (rD2 X.K mulD) := by
  intro pins s σ H x y v u Q I rx ry ⟨g, w, d, e, z, hK, r, dx, dy, hz, q⟩
  unfold mulD at hz
  split at hz
  · cases dx; cases dy
    split at hz
    · rename_i hs
      cases hz
      exact op_mul pins s σ H _ _ v u Q I rx ry ⟨_, _, rfl, rfl, (show _ ∨ _ from by
        unfold cMl at hs
        rw [Bool.or_eq_true] at hs
        rcases hs with hs | hs
        · have := of_decide_eq_true hs; exact Or.inl ⟨by omega, by omega⟩
        · have := of_decide_eq_true hs; exact Or.inr ⟨by omega, by omega⟩), q _ H g (Xt.refl g) r (.int _)⟩
    · cases hz
  · cases dx; cases dy
    split at hz
    · rename_i a k hs
      cases hz
      obtain ⟨t, rfl⟩ := rx
      obtain ⟨t2, rfl⟩ := ry
      obtain ⟨h1, h2, h3, h4⟩ := of_decide_eq_true hs
      have hb : a.length * k.toNat ≤ 1000 * 10000 := Nat.mul_le_mul h4 (by omega)
      refine PySem.SB.mul ⟨?_, fun _ _ => ?_, fun _ _ => ?_⟩ fun t' tk => ⟨.str _, H, I.tok _, ⟨_, rfl⟩, q _ H g (Xt.refl g) r (.str _)⟩
      · rw [decide_eq_false (by omega), decide_eq_false (by omega)]; rfl
      · have : (1000 : Int) ≤ (2 ^ 63 - 1) / k := by
          refine (Int.le_ediv_iff_mul_le (by omega)).mpr ?_
          omega
        omega
      · show decide (_ > sizeLine) = false
        refine decide_eq_false ?_
        rw [sizeLine_eq]
        omega
    · cases hz
  · cases dx; cases dy
    rename_i a1 b1 s1 d1
    split at hz
    · rename_i hs
      cases hz
      obtain ⟨h1, h2, h3, h4⟩ := of_decide_eq_true hs
      rw [← d1.length] at h3 h4
      refine op_repT pins s σ H _ _ v u Q I rx ry ⟨_, _, _, rfl, rfl, by rw [← hK]; exact r.sqT s1, fun e0 => ?_, h1, h2, h4, fun p hp => ?_⟩
      · rw [e0] at h3; cases h3
      · exact q _ _ _ (Xt.put (r.fnone hp)) (r.put hp) (newT r hp (d1.rep _))
    · cases hz
  · cases hz

/-! ### one-place -/
def rD1 (K : PySem.W.Frag) (f : Ws → PyData → Option PyData) : V → Hp → VK → Prop := fun x H Q =>
  ∃ g w d z, g.K = K ∧ Rp g H w ∧ Dq g x d ∧ f w d = some z ∧ ∀ v H' g', Xt g g' → Rp g' H' w → Dq g' v z → Q v H'
def eU (f : Ws → PyData → Option PyData) (fa : FE) : FE := fun ρ w => (fa ρ w).bind fun d w1 => Oc.of (f w1 d) w1
theorem pf_un {op : UnaryOp} {f : Ws → PyData → Option PyData} {a : Expr} {fa : FE} {pos : Pos} (ho : UnR X (unaryOp op) (rD1 X.K f)) (ha : PF X W a fa) : PF X W (.UnaryOp op a pos) (eU f fa) := by
  refine pe_imp (pe_un ho ha) fun σ H Q ⟨g, ρ, w, hK, r, e, q⟩ => ?_
  refine lX_bind hK r e q fun v H1 g1 d w1 x r1 e1 dv z => ?_
  cases hz : f w1 d with
  | none => rw [hz] at z; exact z.elim
  | some y =>
    rw [hz] at z
    exact ⟨g1, w1, d, y, x.k.trans hK, r1, dv, hz, z⟩
def negD (_ : Ws) : PyData → Option PyData
  | .int i => some (.int (-i))
  | _ => none
theorem un_negD : UnR X (unaryOp .USub) (rD1 X.K negD) := by
  intro pins s σ H x v Q I rx ⟨g, w, d, z, hK, r, dx, hz, q⟩
  unfold negD at hz
  split at hz
  · cases hz; cases dx
    exact un_neg pins s σ H _ v Q I rx ⟨_, rfl, q _ H g (Xt.refl g) r (.int _)⟩
  · cases hz

/-! ### comparisons -/
def strLt (a b : Str) : Bool := decide (a.cps.toList < b.cps.toList)
def cmpD (fi : Int → Int → Bool) (fs : Str → Str → Bool) (_ : Ws) : PyData → PyData → Option PyData
  | .int i, .int j => some (.bool (fi i j))
  | .str a, .str b => some (.bool (fs a b))
  | _, _ => none
theorem op_cmpD {fn : Value → Value → Sem Value} {fi : Int → Int → Bool} {fs : Str → Str → Bool} (h : OpR X fn (rI0 fun i j => .bl (fi i j))) (h2 : OpR X fn (fun x y H Q => ∃ i j, x = .str i ∧ y = .str j ∧ Q (.bl (fs i j)) H)) : OpR X fn (rD2 X.K (cmpD fi fs)) := by
  intro pins s σ H x y v u Q I rx ry ⟨g, w, d, e, z, hK, r, dx, dy, hz, q⟩
  unfold cmpD at hz
  split at hz
  · cases hz; cases dx; cases dy
    exact h pins s σ H _ _ v u Q I rx ry ⟨_, _, rfl, rfl, q _ H g (Xt.refl g) r (.bl _)⟩
  · cases hz; cases dx; cases dy
    exact h2 pins s σ H _ _ v u Q I rx ry ⟨_, _, rfl, rfl, q _ H g (Xt.refl g) r (.bl _)⟩
  · cases hz
abbrev ltD := cmpD (fun i j => decide (i < j)) (fun a b => strLt a b)
abbrev leD := cmpD (fun i j => decide (i ≤ j)) (fun a b => !strLt b a)
abbrev gtD := cmpD (fun i j => decide (j < i)) (fun a b => strLt b a)
abbrev geD := cmpD (fun i j => decide (j ≤ i)) (fun a b => !strLt a b)
theorem op_ltD : OpR X (compareOp .Lt) (rD2 X.K ltD) := op_cmpD op_lt op_lt_str
theorem op_leD : OpR X (compareOp .LtE) (rD2 X.K leD) := op_cmpD op_le op_le_str
theorem op_gtD : OpR X (compareOp .Gt) (rD2 X.K gtD) := op_cmpD op_gt op_gt_str
theorem op_geD : OpR X (compareOp .GtE) (rD2 X.K geD) := op_cmpD op_ge op_ge_str
/-- == of data -/

def strsE (d e : PyData) (f : Bool → Bool) : Option PyData := match d, e with
  | .str a, .str b => some (.bool (f (a.cps.toList == b.cps.toList)))
  | _, _ => none
def eqD (_ : Ws) (d e : PyData) : Option PyData := if SeqAt.shaped d && SeqAt.shaped e then some (.bool (PyData.eqv d e)) else strsE d e id
def neD (_ : Ws) (d e : PyData) : Option PyData := if SeqAt.shaped d && SeqAt.shaped e then some (.bool (!PyData.eqv d e)) else strsE d e not
theorem shaped_lay {d : PyData} (h : SeqAt.shaped d = true) : d.canLay0 = true := SeqAt.canLay_of_shaped h
theorem op_eqD' (hu : X.A.units + 64 < cLine) : OpR X (compareOp .Eq) (rD2 X.K eqD) := by
  intro pins s σ H x y v u Q I rx ry ⟨g, w, d, e, z, hK, r, dx, dy, hz, q⟩
  unfold eqD at hz
  split at hz
  · rename_i hs
    cases hz
    rw [Bool.and_eq_true] at hs
    exact op_eqD hu pins s σ H x y v u Q I rx ry ⟨d, e, hK ▸ dx.dp r.fro _ _ (shaped_lay hs.1), hK ▸ dy.dp r.fro _ _ (shaped_lay hs.2), hs.1, hs.2, q _ H g (Xt.refl g) r (.bl _)⟩
  · unfold strsE at hz
    split at hz
    · cases dx; cases dy; cases hz
      obtain ⟨t, rfl⟩ := rx
      obtain ⟨t', rfl⟩ := ry
      exact PySem.P.eq_str ⟨.bl _, H, I, rfl, q _ H g (Xt.refl g) r (.bl _)⟩
    · cases hz
theorem op_neD' (hu : X.A.units + 64 < cLine) : OpR X (compareOp .NotEq) (rD2 X.K neD) := by
  intro pins s σ H x y v u Q I rx ry ⟨g, w, d, e, z, hK, r, dx, dy, hz, q⟩
  unfold neD at hz
  split at hz
  · rename_i hs
    cases hz
    rw [Bool.and_eq_true] at hs
    exact op_neD hu pins s σ H x y v u Q I rx ry ⟨d, e, hK ▸ dx.dp r.fro _ _ (shaped_lay hs.1), hK ▸ dy.dp r.fro _ _ (shaped_lay hs.2), hs.1, hs.2, q _ H g (Xt.refl g) r (.bl _)⟩
  · unfold strsE at hz
    split at hz
    · cases dx; cases dy; cases hz
      obtain ⟨t, rfl⟩ := rx
      obtain ⟨t', rfl⟩ := ry
      exact PySem.P.ne_str ⟨.bl _, H, I, rfl, q _ H g (Xt.refl g) r (.bl _)⟩
    · cases hz
end
end Td

set_option Elab.async false
set_option linter.all false
set_option maxRecDepth 100000
set_option maxHeartbeats 4000000
namespace Td
open PySem L2
section
variable {X : Cx} {W : WX}
/-! ### in, not in -/
def strIn (a b : Str) : Bool := match a.cps.toList with
  | [c] => decide (c ∈ b.cps.toList)
  | _ => !(Builtin.Str.occurrences b a 0 b.length 1).isEmpty
def isIn (w : Ws) : PyData → PyData → Option Bool
  | .str a, .str b => some (strIn a b)
  | d, .tuple ds => if SeqAt.shaped d && SeqAt.shaped (.tuple ds) then some (ds.any fun z => PyData.eqv z d) else none
  | d, e => match lstOf w e with
    | some ds => if SeqAt.shaped d && SeqAt.shaped (.list ds) then some (ds.any fun z => PyData.eqv z d) else none
    | none => none
def inD (w : Ws) (d e : PyData) : Option PyData := (isIn w d e).map .bool
def niD (w : Ws) (d e : PyData) : Option PyData := (isIn w d e).map fun b => .bool (!b)
theorem str_one {a : Str} {c : Nat} (h : a.cps.toList = [c]) : a = ⟨#[c]⟩ := by
  obtain ⟨cps⟩ := a
  have : cps = #[c] := by
    have h' : cps.toList = [c] := h
    rw [← Array.toList_inj]; exact h'
  rw [this]
theorem op_inX (hu : X.A.units + 65 < cLine) : OpR X (compareOp .In) (rD2 X.K inD) := by
  intro pins s σ H x y v u Q I rx ry ⟨g, w, d, e, z, hK, r, dx, dy, hz, q⟩
  obtain ⟨b, hb, rfl⟩ := Option.map_eq_some_iff.mp hz
  clear hz
  have q := q _ H g (Xt.refl g) r (.bl b)
  unfold isIn at hb
  split at hb
  · cases dx; cases dy
    cases hb
    unfold strIn at q
    split at q
    · rename_i c hc
      rw [str_one hc] at rx
      exact op_in_sign pins s σ H _ _ v u Q I rx ry ⟨c, _, rfl, rfl, q⟩
    · exact op_in_str pins s σ H _ _ v u Q I rx ry ⟨_, _, rfl, rfl, q⟩
  · split at hb
    · rename_i hs
      cases hb
      rw [Bool.and_eq_true] at hs
      obtain ⟨as, r1⟩ := Dp.reads I _ _ v (hK ▸ dx.dp r.fro _ _ (shaped_lay hs.1)) rx
      obtain ⟨bs, r2⟩ := Dp.reads I _ _ u (hK ▸ dy.dp r.fro _ _ (shaped_lay hs.2)) ry
      exact SeqAt.in_tuple_reads r2 r1 (SeqAt.canLay_of_shaped hs.2) (SeqAt.canLay_of_shaped hs.1) (PyProof.Rows.room_in_shaped hs.1 hu) ⟨.bl _, H, I, rfl, q⟩
    · cases hb
  · split at hb
    · rename_i ds hl
      split at hb
      · rename_i hs
        cases hb
        rw [Bool.and_eq_true] at hs
        obtain ⟨a, xs, rfl, sq, da⟩ := lstOf_ok r dy hl
        have lay : PyData.canLayAll0 ds = true := by simpa [PyData.canLay0] using shaped_lay hs.2
        exact op_inD hu pins s σ H _ _ v u Q I rx ry ⟨d, ds, hK ▸ dx.dp r.fro _ _ (shaped_lay hs.1), hK ▸ .lst sq (da.dp r.fro _ _ lay), hs.1, hs.2, q⟩
      · cases hb
    · cases hb
theorem op_niX (hu : X.A.units + 65 < cLine) : OpR X (compareOp .NotIn) (rD2 X.K niD) := by
  intro pins s σ H x y v u Q I rx ry ⟨g, w, d, e, z, hK, r, dx, dy, hz, q⟩
  obtain ⟨b, hb, rfl⟩ := Option.map_eq_some_iff.mp hz
  clear hz
  have q := q _ H g (Xt.refl g) r (.bl (!b))
  unfold isIn at hb
  split at hb
  · cases dx; cases dy
    cases hb
    unfold strIn at q
    split at q
    · rename_i c hc
      rw [str_one hc] at rx
      exact op_notIn_sign pins s σ H _ _ v u Q I rx ry ⟨c, _, rfl, rfl, q⟩
    · exact op_notIn_str pins s σ H _ _ v u Q I rx ry ⟨_, _, rfl, rfl, q⟩
  · split at hb
    · rename_i hs
      cases hb
      rw [Bool.and_eq_true] at hs
      obtain ⟨as, r1⟩ := Dp.reads I _ _ v (hK ▸ dx.dp r.fro _ _ (shaped_lay hs.1)) rx
      obtain ⟨bs, r2⟩ := Dp.reads I _ _ u (hK ▸ dy.dp r.fro _ _ (shaped_lay hs.2)) ry
      exact SeqAt.notIn_tuple_reads r2 r1 (SeqAt.canLay_of_shaped hs.2) (SeqAt.canLay_of_shaped hs.1) (PyProof.Rows.room_in_shaped hs.1 hu) ⟨.bl _, H, I, rfl, q⟩
    · cases hb
  · split at hb
    · rename_i ds hl
      split at hb
      · rename_i hs
        cases hb
        rw [Bool.and_eq_true] at hs
        obtain ⟨a, xs, rfl, sq, da⟩ := lstOf_ok r dy hl
        have lay : PyData.canLayAll0 ds = true := by simpa [PyData.canLay0] using shaped_lay hs.2
        exact op_notInD hu pins s σ H _ _ v u Q I rx ry ⟨d, ds, hK ▸ dx.dp r.fro _ _ (shaped_lay hs.1), hK ▸ .lst sq (da.dp r.fro _ _ lay), hs.1, hs.2, q⟩
      · cases hb
    · cases hb

/-! ### xs[i] -/
def ixD (w : Ws) : PyData → PyData → Option PyData
  | .str z, .int i => if szOk z.length then (atI z.cps.toList i).map fun c => .str ⟨#[c]⟩ else none
  | .tuple ds, .int i => atI ds i
  | d, .int i => match lstOf w d with
    | some ds => atI ds i
    | none => none
  | _, _ => none
theorem DqA.atI {g : Gd} {vs : List V} {ds : List PyData} (h : DqA g vs ds) {i : Int} {d : PyData} (e : L2.atI ds i = some d) : ∃ v, L2.atI vs i = some v ∧ Dq g v d := by
  unfold L2.atI at e ⊢
  rw [h.length]
  cases hx : ixN ds.length i with
  | none => rw [hx] at e; cases e
  | some j =>
    rw [hx] at e
    exact h.get e
theorem ix_D : IxR X (rD2 X.K ixD) := by
  intro vl sl pins s σ H x y v u Q I rx ry ⟨g, w, d, e, z, hK, r, dx, dy, hz, q⟩ hsb
  unfold ixD at hz
  split at hz
  · cases dx; cases dy
    split at hz
    · rename_i hs
      obtain ⟨c, hc, rfl⟩ := Option.map_eq_some_iff.mp hz
      exact ix_seq vl sl pins s σ H _ _ v u Q I rx ry (.inr (.inr ⟨_, _, c, rfl, rfl, of_decide_eq_true hs, hc, q _ H g (Xt.refl g) r (.str _)⟩)) hsb
    · cases hz
  · cases dx; cases dy
    rename_i a1 b1 s1 d1
    obtain ⟨v1, hv, dv⟩ := d1.atI hz
    exact ix_seq vl sl pins s σ H _ _ v u Q I rx ry (.inr (.inl ⟨_, _, _, v1, rfl, rfl, hK ▸ r.sqT s1, hv, q _ H g (Xt.refl g) r dv⟩)) hsb
  · cases dy
    split at hz
    · rename_i ds hl
      obtain ⟨a, xs, rfl, sq, da⟩ := lstOf_ok r dx hl
      obtain ⟨v1, hv, dv⟩ := da.atI hz
      exact ix_seq vl sl pins s σ H _ _ v u Q I rx ry (.inl ⟨_, _, _, v1, rfl, rfl, hK ▸ sq, hv, q _ H g (Xt.refl g) r dv⟩) hsb
    · cases hz
  · cases hz
theorem pf_ix {a b : Expr} {fa fb : FE} {pos : Pos} (ha : PF X W a fa) (hb : PF X W b fb) (hs : PlainIx b := by exact fun _ _ => rfl) : PF X W (.Subscript a b pos) (eB ixD fa fb) := pe_imp (pe_ix ix_D ha hb hs) tOp_of

/-! ### xs[lo:hi] -/
abbrev FO := Ev → Ws → Oc (Option Int)
abbrev lO (K : PySem.W.Frag) (W : WX) (f : FO) : TO := lX K W (fun _ (b c : Option Int) => b = c) f
theorem po_imp {o : Option Expr} {t t' : TO} (h : PO X o t) (i : ∀ σ H Q, t' σ H Q → t σ H Q) : PO X o t' := ⟨fun pins s σ H Q I q => h.run pins s σ H Q I (i σ H Q q)⟩
def oN : FO := fun _ w => .ok none w
def oS (f : FE) : FO := fun ρ w => (f ρ w).bind fun d w1 => match d with
  | .int i => .ok (some i) w1
  | _ => .no
theorem pof_none : PO X none (lO X.K W oN) := po_imp po_none fun σ H Q ⟨g, ρ, w, hK, r, e, q⟩ => q _ H g (Xt.refl g) r rfl
theorem pof_some {e : Expr} {f : FE} (h : PF X W e f) : PO X (some e) (lO X.K W (oS f)) := by
  refine po_imp (po_some h) fun σ H Q ⟨g, ρ, w, hK, r, e, q⟩ => ?_
  refine lX_bind hK r e q fun v H1 g1 d w1 x r1 e1 dv z => ?_
  cases dv with
  | int i => exact ⟨i, rfl, z _ _ _ (Xt.refl _) r1 rfl⟩
  | _ => exact z.elim
def cutL {α : Type} (xs : List α) (lo hi : Option Int) : List α := (xs.drop (HT.sIx xs.length 0 lo)).take (HT.sIx xs.length xs.length hi - HT.sIx xs.length 0 lo)
def cutD (w : Ws) (d : PyData) (lo hi : Option Int) : Option PyData := match d with
  | .str z => if szOk z.length then some (.str (cutS z lo hi)) else none
  | .tuple ds => some (.tuple (cutL ds lo hi))
  | d => match lstOf w d with
    | some ds => some (.list (cutL ds lo hi))
    | none => none
theorem DqA.cut {g : Gd} {vs : List V} {ds : List PyData} (h : DqA g vs ds) (lo hi : Option Int) : DqA g (cutV vs lo hi) (cutL ds lo hi) := by
  unfold cutV cutL
  rw [h.length]
  exact (h.drop _).take _
def rCut (K : PySem.W.Frag) : V → Option Int → Option Int → Hp → VK → Prop := fun x lo hi H Q => ∃ g w d z, g.K = K ∧ Rp g H w ∧ Dq g x d ∧ cutD w d lo hi = some z ∧ ∀ v H' g', Xt g g' → Rp g' H' w → Dq g' v z → Q v H'
theorem sl_D : SlR X (rCut X.K) := by
  intro pins s σ H x v vl vu lo hi sl Q I rx hs pl pu ⟨g, w, d, z, hK, r, dx, hz, q⟩
  unfold cutD at hz
  split at hz
  · cases dx
    split at hz
    · rename_i hs'
      cases hz
      exact sl_str pins s σ H _ v vl vu lo hi sl Q I rx hs pl pu ⟨_, rfl, of_decide_eq_true hs', q _ H g (Xt.refl g) r (.str _)⟩
    · cases hz
  · cases dx
    cases hz
    rename_i a1 b1 s1 d1
    refine sl_tupA pins s σ H _ v vl vu lo hi sl Q I rx hs pl pu ⟨_, _, rfl, hK ▸ r.sqT s1, fun hw => ?_, fun _ p hp => ?_⟩
    · refine q _ H g (Xt.refl g) r (.tup s1 ?_)
      rw [d1.length] at hw
      unfold cutL
      rw [hw.1, hw.2, List.drop_zero, Nat.sub_zero, List.take_length]
      exact d1
    · exact q _ _ _ (Xt.put (r.fnone hp)) (r.put hp) (newT r hp (d1.cut lo hi))
  · split at hz
    · rename_i ds hl
      cases hz
      obtain ⟨a, xs, rfl, sq, da⟩ := lstOf_ok r dx hl
      exact sl_list pins s σ H _ v vl vu lo hi sl Q I rx hs pl pu ⟨_, _, rfl, hK ▸ sq, fun p hp => q _ _ _ (Xt.put (r.fnone hp)) (r.put hp) (newL r hp (da.cut lo hi))⟩
    · cases hz
def eSl (f : FE) (fl fh : FO) : FE := fun ρ w => (f ρ w).bind fun d w1 => (fl ρ w1).bind fun l w2 => (fh ρ w2).bind fun h w3 => Oc.of (cutD w3 d l h) w3
theorem pf_slice {e : Expr} {lo hi : Option Expr} {p2 pos : Pos} {f : FE} {fl fh : FO} (he : PF X W e f) (hl : PO X lo (lO X.K W fl)) (hh : PO X hi (lO X.K W fh)) : PF X W (.Subscript e (.Slice lo hi none p2) pos) (eSl f fl fh) := by
  refine pe_imp (pe_slice sl_D he hl hh) fun σ H Q ⟨g, ρ, w, hK, r, e, q⟩ => ?_
  refine lX_bind hK r e q fun v H1 g1 d w1 x r1 e1 dv z => ?_
  refine lX_bind (x.k.trans hK) r1 e1 z fun l H2 g2 l' w2 x2 r2 e2 hl2 z2 => ?_
  refine lX_bind (x2.k.trans (x.k.trans hK)) r2 e2 z2 fun h H3 g3 h' w3 x3 r3 e3 hh3 z3 => ?_
  subst hl2 hh3
  cases hz : cutD w3 d l h with
  | none => rw [hz] at z3; exact z3.elim
  | some y =>
    rw [hz] at z3
    exact ⟨g3, w3, d, y, x3.k.trans (x2.k.trans (x.k.trans hK)), r3, dv.mono (x2.trans x3) _ _, hz, z3⟩

/-! ### calls of what is built in -/
def rDN (K : PySem.W.Frag) (f : Ws → List PyData → Option PyData) : List V → Hp → VK → Prop := fun vs H Q =>
  ∃ g w ds z, g.K = K ∧ Rp g H w ∧ DqA g vs ds ∧ f w ds = some z ∧ ∀ v H' g', Xt g g' → Rp g' H' w → Dq g' v z → Q v H'
def eCb (f : Ws → List PyData → Option PyData) (fa : FA) : FE := fun ρ w => (fa ρ w).bind fun ds w1 => Oc.of (f w1 ds) w1
theorem tCB_of {f : Ws → List PyData → Option PyData} {fa : FA} {K : PySem.W.Frag} : ∀ σ H Q, lE K W (eCb f fa) σ H Q → tCB (rDN K f) (lA K W fa) σ H Q := fun σ H Q ⟨g, ρ, w, hK, r, e, q⟩ => by
  refine lX_bind hK r e q fun v H1 g1 d w1 x r1 e1 dv z => ?_
  cases hz : f w1 d with
  | none => rw [hz] at z; exact z.elim
  | some y =>
    rw [hz] at z
    exact ⟨g1, w1, d, y, x.k.trans hK, r1, dv, hz, z⟩
theorem pf_callB {f : Ws → List PyData → Option PyData} {id : String} {x : Str} {e : Expr} {es : List Expr} {fa : FA} {p pos : Pos} (hc : CallR X (.builtin id) (rDN X.K f)) (hg : Gl X x) (hm : X.mg x = none) (hv : bootBuiltins x = some (.builtin id)) (ha : PAf X W (e :: es) fa)
    (hn : x ≠ "__name__" := by decide) (hdb : (x == ("__debug__" : Str)) = false := by decide) (hs : starEach (e :: es) X.env = (false, eval e X.env) :: starEach es X.env := by rfl) (hpl : (backTo pos (starEach es X.env)).any (·.1) = false := by rfl) :
    PF X W (.Call (.Name x p) (e :: es) [] pos) (eCb f fa) := pe_imp (pe_callB hc hg hm hv ha hn hdb hs hpl) tCB_of
theorem pf_callTy {f : Ws → List PyData → Option PyData} {id : String} {x : Str} {e : Expr} {es : List Expr} {fa : FA} {p pos : Pos} (hc : CallR X (.type id) (rDN X.K f)) (hg : Gl X x) (hm : X.mg x = none) (hv : bootBuiltins x = some (.type id)) (ha : PAf X W (e :: es) fa)
    (hn : x ≠ "__name__" := by decide) (hdb : (x == ("__debug__" : Str)) = false := by decide) (hs : starEach (e :: es) X.env = (false, eval e X.env) :: starEach es X.env := by rfl) (hpl : (backTo pos (starEach es X.env)).any (·.1) = false := by rfl) :
    PF X W (.Call (.Name x p) (e :: es) [] pos) (eCb f fa) := pe_imp (pe_callTy hc hg hm hv ha hn hdb hs hpl) tCB_of

def lenD (w : Ws) : List PyData → Option PyData
  | [.str z] => if szOk z.length then some (.int z.length) else none
  | [.tuple ds] => some (.int ds.length)
  | [d] => (lstOf w d).map fun ds => .int ds.length
  | _ => none
theorem call_lenX : CallR X (.builtin "len") (rDN X.K lenD) := by
  intro pins s σ H xs us Q I rv ⟨g, w, ds, z, hK, r, dx, hz, q⟩
  unfold lenD at hz
  split at hz
  · cases dx with
    | cons d0 dn =>
      cases dn; cases d0
      split at hz
      · rename_i hs
        cases hz
        exact call_len pins s σ H _ us Q I rv ⟨_, _, rfl, ⟨of_decide_eq_true hs, rfl⟩, q _ H g (Xt.refl g) r (.int _)⟩
      · cases hz
  · cases dx with
    | cons d0 dn =>
      cases dn
      cases d0 with
      | tup s1 d1 =>
        cases hz
        exact call_len pins s σ H _ us Q I rv ⟨_, _, rfl, .inr ⟨_, hK ▸ r.sqT s1, rfl⟩, by rw [d1.length]; exact q _ H g (Xt.refl g) r (.int _)⟩
  · cases dx with
    | cons d0 dn =>
      cases dn
      obtain ⟨l, hl, rfl⟩ := Option.map_eq_some_iff.mp hz
      obtain ⟨a, xs, rfl, sq, da⟩ := lstOf_ok r d0 hl
      exact call_len pins s σ H _ us Q I rv ⟨_, _, rfl, .inl ⟨_, hK ▸ sq, rfl⟩, by rw [da.length]; exact q _ H g (Xt.refl g) r (.int _)⟩
  · cases hz
/-- all, any of a list of True, False -/
def boolsOf : List PyData → Option (List Bool)
  | [] => some []
  | .bool b :: r => (boolsOf r).map (b :: ·)
  | _ :: _ => none
theorem boolsOf_ok {g : Gd} : ∀ {vs : List V} {ds : List PyData} {bs : List Bool}, DqA g vs ds → boolsOf ds = some bs → vs = bs.map V.bl
  | _, _, _, .nil, e => by cases e; rfl
  | _, _, _, .cons h t, e => by
    cases h with
    | bl b =>
      obtain ⟨bs, hb, rfl⟩ := Option.map_eq_some_iff.mp e
      rw [boolsOf_ok t hb]
      rfl
    | _ => cases e
def qD (f : List Bool → Bool) (w : Ws) : List PyData → Option PyData
  | [d] => ((lstOf w d).bind boolsOf).map fun bs => .bool (f bs)
  | _ => none
abbrev allD := qD (fun bs => bs.all id)
abbrev anyD := qD (fun bs => bs.any id)
theorem call_qX {fn : Value} {f : List Bool → Bool} (h : CallR X fn (fun vs H Q => ∃ (a : Addr) (bs : List Bool), vs = [V.ref a] ∧ SqL X.K H a (bs.map V.bl) ∧ Q (.bl (f bs)) H)) : CallR X fn (rDN X.K (qD f)) := by
  intro pins s σ H xs us Q I rv ⟨g, w, ds, z, hK, r, dx, hz, q⟩
  unfold qD at hz
  split at hz
  · cases dx with
    | cons d0 dn =>
      cases dn
      obtain ⟨bs, hb, rfl⟩ := Option.map_eq_some_iff.mp hz
      obtain ⟨l, hl, hb⟩ := Option.bind_eq_some_iff.mp hb
      obtain ⟨a, xs, rfl, sq, da⟩ := lstOf_ok r d0 hl
      have e := boolsOf_ok da hb
      subst e
      exact h pins s σ H _ us Q I rv ⟨a, bs, rfl, hK ▸ sq, q _ H g (Xt.refl g) r (.bl _)⟩
  · cases hz
theorem call_allX (hc : X.calm = true) : CallR X (.builtin "all") (rDN X.K allD) := call_qX (cr_all hc)
theorem call_anyX (hc : X.calm = true) : CallR X (.builtin "any") (rDN X.K anyD) := call_qX (cr_any hc)
/-- list(x), tuple(x) -/
def listD (w : Ws) : List PyData → Option PyData
  | [.tuple ds] => some (.list ds)
  | [d] => (lstOf w d).map fun ds => .list ds
  | _ => none
theorem call_listX : CallR X (.type "list") (rDN X.K listD) := by
  intro pins s σ H xs us Q I rv ⟨g, w, ds, z, hK, r, dx, hz, q⟩
  unfold listD at hz
  split at hz
  · cases dx with
    | cons d0 dn =>
      cases dn
      cases d0 with
      | tup s1 d1 =>
        cases hz
        exact call_list_of pins s σ H _ us Q I rv ⟨_, _, rfl, .inr (hK ▸ r.sqT s1), fun p hp => q _ _ _ (Xt.put (r.fnone hp)) (r.put hp) (newL r hp d1)⟩
  · cases dx with
    | cons d0 dn =>
      cases dn
      obtain ⟨l, hl, rfl⟩ := Option.map_eq_some_iff.mp hz
      obtain ⟨a, xs, rfl, sq, da⟩ := lstOf_ok r d0 hl
      exact call_list_of pins s σ H _ us Q I rv ⟨_, _, rfl, .inl (hK ▸ sq), fun p hp => q _ _ _ (Xt.put (r.fnone hp)) (r.put hp) (newL r hp da)⟩
  · cases hz
def tupleD (w : Ws) : List PyData → Option PyData
  | [.tuple ds] => some (.tuple ds)
  | [d] => (lstOf w d).map fun ds => .tuple ds
  | _ => none
theorem call_tupleX : CallR X (.type "tuple") (rDN X.K tupleD) := by
  intro pins s σ H xs us Q I rv ⟨g, w, ds, z, hK, r, dx, hz, q⟩
  unfold tupleD at hz
  split at hz
  · cases dx with
    | cons d0 dn =>
      cases dn
      cases d0 with
      | tup s1 d1 =>
        cases hz
        exact call_tuple_of pins s σ H _ us Q I rv ⟨_, _, rfl, .inr ⟨hK ▸ r.sqT s1, q _ H g (Xt.refl g) r (.tup s1 d1)⟩⟩
  · cases dx with
    | cons d0 dn =>
      cases dn
      obtain ⟨l, hl, rfl⟩ := Option.map_eq_some_iff.mp hz
      obtain ⟨a, xs, rfl, sq, da⟩ := lstOf_ok r d0 hl
      exact call_tuple_of pins s σ H _ us Q I rv ⟨_, _, rfl, .inl ⟨hK ▸ sq, fun p hp => q _ _ _ (Xt.put (r.fnone hp)) (r.put hp) (newT r hp da)⟩⟩
  · cases hz
/-- int(n), str(n) -/
def toInt (_ : Ws) : List PyData → Option PyData
  | [.int i] => some (.int i)
  | [.bool b] => some (.int (if b = true then 1 else 0))
  | _ => none
theorem call_intX : CallR X (.type "int") (rDN X.K toInt) := by
  intro pins s σ H xs us Q I rv ⟨g, w, ds, z, hK, r, dx, hz, q⟩
  unfold toInt at hz
  split at hz
  · cases dx with
    | cons d0 dn =>
      cases dn; cases d0; cases hz
      exact call_int1 pins s σ H _ us Q I rv (.inl ⟨_, rfl, q _ H g (Xt.refl g) r (.int _)⟩)
  · cases dx with
    | cons d0 dn =>
      cases dn; cases d0; cases hz
      exact call_int1 pins s σ H _ us Q I rv (.inr ⟨_, rfl, q _ H g (Xt.refl g) r (.int _)⟩)
  · cases hz
def toStr (_ : Ws) : List PyData → Option PyData
  | [.int i] => if decide (i.natAbs.log2 < 1920) then some (.str (toString i)) else none
  | [.bool b] => some (.str (if b then "True" else "False"))
  | _ => none
theorem call_strX : CallR X (.type "str") (rDN X.K toStr) := by
  intro pins s σ H xs us Q I rv ⟨g, w, ds, z, hK, r, dx, hz, q⟩
  unfold toStr at hz
  split at hz
  · cases dx with
    | cons d0 dn =>
      cases dn; cases d0
      split at hz
      · rename_i hs
        cases hz
        exact call_str_int pins s σ H _ us Q I rv ⟨_, rfl, of_decide_eq_true hs, q _ H g (Xt.refl g) r (.str _)⟩
      · cases hz
  · cases dx with
    | cons d0 dn =>
      cases dn; cases d0
      cases hz
      obtain ⟨u, rfl, rb⟩ := vals1 rv
      cases rb
      exact PySem.P.str_of_bool ⟨.str _, H, I.tok _, ⟨_, rfl⟩, q _ H g (Xt.refl g) r (.str _)⟩
  · cases hz
/-- isinstance(x, T), T built in -/
def tyD (w : Ws) : PyData → Option String
  | .none => some "NoneType"
  | .bool _ => some "bool"
  | .int _ => some "int"
  | .str _ => some "str"
  | .list _ => some "list"
  | .tuple _ => some "tuple"
  | d => match dkOf w d with
    | some _ => some "dict"
    | none => (lstOf w d).map fun _ => "list"
theorem tyD_ok {g : Gd} {H : Hp} {w : Ws} (r : Rp g H w) {v : V} {d : PyData} (h : Dq g v d) {T : String} (e : tyD w d = some T) : TyX g.K H v (.type T) := by
  cases h with
  | non => cases e; exact .base (.non)
  | bl => cases e; exact .base (.bl _)
  | int => cases e; exact .base (.int _)
  | str => cases e; exact .base (.str _)
  | lst a da =>
    cases e
    rcases r.sqL a with (h | ⟨o, h⟩) | ⟨o, _, _, h, hc, _⟩
    · exact .base (.lst h)
    · exact .base (.frz h)
    · exact .kList h hc
  | tup a da =>
    cases e
    rcases r.sqT a with (h | ⟨o, h⟩) | ⟨o, _, _, h, hc, _⟩
    · exact .base (.tup h)
    · exact .fTuple h
    · exact .kTuple h hc
  | @ref l hl =>
    unfold tyD at e
    split at e <;> (try (rename_i hq; cases hq; done))
    split at e
    · rename_i ks hk
      cases e
      obtain ⟨l', xs, e1, _, _, _, hH, _⟩ := dkOf_ok r (.ref hl) hk
      rw [e1]
      exact .base (.dK hH)
    · obtain ⟨l2, hl2, rfl⟩ := Option.map_eq_some_iff.mp e
      obtain ⟨a, xs, e1, sq, da⟩ := lstOf_ok r (.ref hl) hl2
      rw [e1]
      rcases sq with (h | ⟨o, h⟩) | ⟨o, _, _, h, hc, _⟩
      · exact .base (.lst h)
      · exact .base (.frz h)
      · exact .kList h hc
def eIsi (T : String) (fa : FE) : FE := fun ρ w => (fa ρ w).bind fun d w1 => match (tyD w1 d).bind fun t => kitB t T with
  | some b => .ok (.bool b) w1
  | none => .no
theorem pf_isi {T : String} {x : Str} {a : Expr} {fa : FE} {p p2 pos : Pos} (ha : PF X W a fa) (hg : Gl X "isinstance") (hm : X.mg "isinstance" = none) (hgT : Gl X x) (hmT : X.mg x = none) (hv : bootBuiltins x = some (.type T)) (hn : x ≠ "__name__" := by decide) (hd : (x == ("__debug__" : Str)) = false := by decide)
    (hs1 : starEach [a, .Name x p2] X.env = (false, eval a X.env) :: starEach [.Name x p2] X.env := by rfl) (hs2 : starEach [.Name x p2] X.env = (false, eval (.Name x p2) X.env) :: starEach [] X.env := by rfl) (hpl : (backTo pos (starEach [.Name x p2] X.env)).any (·.1) = false := by rfl) :
    PF X W (.Call (.Name "isinstance" p) [a, .Name x p2] [] pos) (eIsi T fa) := by
  refine pe_imp (pe_callB call_isi hg hm (by decide +kernel) (pa_cons ha (pa_cons (pe_bltn (v := .ty T) hgT hmT hv rfl hn hd) pa_nil hs2) hs1) (by decide) (by decide) hs1 hpl) fun σ H Q ⟨g, ρ, w, hK, r, e, q⟩ => ?_
  refine lX_bind hK r e q fun v H1 g1 d w1 y r1 e1 dv z => ?_
  split at z
  · rename_i b hb
    obtain ⟨t, ht, hk⟩ := Option.bind_eq_some_iff.mp hb
    exact ⟨v, .ty T, .type t, .type T, b, rfl, .ty T, hK ▸ y.k ▸ tyD_ok r1 dv ht, kit_ty hk, z _ _ _ (Xt.refl _) r1 (.bl _)⟩
  · exact z.elim
end
end Td

set_option Elab.async false
set_option linter.all false
set_option maxRecDepth 100000
set_option maxHeartbeats 4000000
namespace Td
open PySem L2
/-! ### statements -/
def oSt (W : WX) (g : Gd) (D : Ends) : Os → Prop
  | .nx ρ w => ∀ σ H g', Xt g g' → Rp g' H w → EnR g' σ ρ → D.nx σ H
  | .rt d w => ∀ v H g', Xt g g' → Rp g' H w → Dq g' v d → D.rt v H
  | .bk ρ w => ∀ σ H g', Xt g g' → Rp g' H w → EnR g' σ ρ → D.bk σ H
  | .ct ρ w => ∀ σ H g', Xt g g' → Rp g' H w → EnR g' σ ρ → D.ct σ H
  | .ex ρ c fs w => ∀ dd σ H g', Xt g g' → Rp g' H w → EnR g' σ ρ → XdR g' H fs dd → W c dd σ H
  | .no => False
def lS (K : PySem.W.Frag) (W : WX) (f : FS) : TS := fun D σ H => ∃ g ρ w, g.K = K ∧ Rp g H w ∧ EnR g σ ρ ∧ oSt W g D (f ρ w)
abbrev PSf (X : Cx) (W : WX) (st : Stmt) (f : FS) : Prop := PS X st (lS X.K W f)
abbrev PSsf (X : Cx) (W : WX) (st : List Stmt) (f : FS) : Prop := PSs X st (lS X.K W f)
theorem oSt.mono {W : WX} {g g' : Gd} {D : Ends} (x : Xt g g') : ∀ {o : Os}, oSt W g D o → oSt W g' D o
  | .nx _ _, h => fun σ H g2 y r e => h σ H g2 (x.trans y) r e
  | .rt _ _, h => fun σ H g2 y r e => h σ H g2 (x.trans y) r e
  | .bk _ _, h => fun σ H g2 y r e => h σ H g2 (x.trans y) r e
  | .ct _ _, h => fun σ H g2 y r e => h σ H g2 (x.trans y) r e
  | .ex _ _ _ _, h => fun d σ H g2 y r e q => h d σ H g2 (x.trans y) r e q
  | .no, h => h
/-- an expression first -/
def Oc.thenS {α : Type} (x : Oc α) (ρ : Ev) (k : α → Ws → Os) : Os := match x with
  | .ok a w => k a w
  | .ex c fs w => .ex ρ c fs w
  | .no => .no
theorem lX_then {α β : Type} {W : WX} {R : Gd → β → α → Prop} {f : Ev → Ws → Oc α} {k : α → Ws → Os} {σ : St} {H : Hp} {g : Gd} {ρ : Ev} {w : Ws} {D : Ends} {T : β → Hp → Prop}
    {K : PySem.W.Frag} (hK : g.K = K) (r : Rp g H w) (e : EnR g σ ρ) (h : oSt W g D ((f ρ w).thenS ρ k))
    (hT : ∀ v H1 g1 d w1, Xt g g1 → Rp g1 H1 w1 → EnR g1 σ ρ → R g1 v d → oSt W g1 D (k d w1) → T v H1) : lX K W R f σ H T := by
  refine ⟨g, ρ, w, hK, r, e, ?_⟩
  cases q : f ρ w with
  | ok d w1 =>
    rw [q] at h
    exact fun v H1 g1 x r1 z => hT v H1 g1 d w1 x r1 (e.mono x) z (oSt.mono x h)
  | ex c fs w1 =>
    rw [q] at h
    exact fun dd H1 g1 x r1 z => h dd σ H1 g1 x r1 (e.mono x) z
  | no =>
    rw [q] at h
    exact h
section
variable {X : Cx} {W : WX}
def sNil : FS := fun ρ w => .nx ρ w
def sSeq (f k : FS) : FS := fun ρ w => match f ρ w with
  | .nx ρ1 w1 => k ρ1 w1
  | o => o
theorem pssf_nil : PSsf X W [] sNil := pss_imp pss_nil fun D σ H ⟨g, ρ, w, hK, r, e, q⟩ => q σ H g (Xt.refl g) r e
theorem pssf_cons {st : Stmt} {rest : List Stmt} {f k : FS} (h1 : PSf X W st f) (h2 : PSsf X W rest k) : PSsf X W (st :: rest) (sSeq f k) := by
  refine pss_imp (pss_cons h1 h2) fun D σ H ⟨g, ρ, w, hK, r, e, q⟩ => ?_
  refine ⟨g, ρ, w, hK, r, e, ?_⟩
  unfold sSeq at q
  cases z : f ρ w with
  | nx ρ1 w1 =>
    rw [z] at q
    exact fun σ' H' g' x r' e' => ⟨g', ρ1, w1, x.k.trans hK, r', e', oSt.mono x q⟩
  | rt d w1 => rw [z] at q; exact q
  | bk ρ1 w1 => rw [z] at q; exact q
  | ct ρ1 w1 => rw [z] at q; exact q
  | ex ρ1 c fs w1 => rw [z] at q; exact q
  | no => rw [z] at q; exact q
theorem pssf_one {st : Stmt} {f : FS} (h1 : PSf X W st f) : PSsf X W [st] f := pss_one h1
def sRet (f : FE) : FS := fun ρ w => (f ρ w).thenS ρ fun d w1 => .rt d w1
theorem psf_ret {e : Expr} {pos : Pos} {f : FE} (he : PF X W e f) : PSf X W (.Return (some e) pos) (sRet f) := by
  refine ps_imp (ps_ret he) fun D σ H ⟨g, ρ, w, hK, r, e, q⟩ => ?_
  exact lX_then hK r e q fun v H1 g1 d w1 x r1 e1 dv z => z v H1 g1 (Xt.refl _) r1 dv
def sExp (f : FE) : FS := fun ρ w => (f ρ w).thenS ρ fun _ w1 => .nx ρ w1
theorem psf_expr {e : Expr} {pos : Pos} {f : FE} (he : PF X W e f) (hs : swapsWith e none pos.line X.env = pure false := by rfl) : PSf X W (.Expr e pos) (sExp f) := by
  refine ps_imp (ps_expr he hs) fun D σ H ⟨g, ρ, w, hK, r, e, q⟩ => ?_
  exact lX_then hK r e q fun v H1 g1 d w1 x r1 e1 dv z => z σ H1 g1 (Xt.refl _) r1 e1
def sPass : FS := fun ρ w => .nx ρ w
theorem psf_pass {pos : Pos} : PSf X W (.Pass pos) sPass := ps_imp ps_pass fun D σ H ⟨g, ρ, w, hK, r, e, q⟩ => q σ H g (Xt.refl g) r e
def sBrk : FS := fun ρ w => .bk ρ w
theorem psf_break {pos : Pos} : PSf X W (.Break pos) sBrk := ps_imp ps_break fun D σ H ⟨g, ρ, w, hK, r, e, q⟩ => q σ H g (Xt.refl g) r e
def sCnt : FS := fun ρ w => .ct ρ w
theorem psf_continue {pos : Pos} : PSf X W (.Continue pos) sCnt := ps_imp ps_continue fun D σ H ⟨g, ρ, w, hK, r, e, q⟩ => q σ H g (Xt.refl g) r e
def sIf (t : FT) (f k : FS) : FS := fun ρ w => (t ρ w).thenS ρ fun b w1 => cond b (f ρ w1) (k ρ w1)
theorem psf_if {c : Expr} {a b : List Stmt} {pos : Pos} {t : FT} {f k : FS} (hc : PTf X W c t) (ha : PSsf X W a f) (hb : PSsf X W b k) : PSf X W (.If c a b pos) (sIf t f k) := by
  refine ps_imp (ps_if hc ha hb) fun D σ H ⟨g, ρ, w, hK, r, e, q⟩ => ?_
  refine lX_then hK r e q fun v H1 g1 d w1 x r1 e1 dv z => ?_
  subst dv
  cases v with
  | true => exact iteT ⟨g1, ρ, w1, x.k.trans hK, r1, e1, z⟩
  | false => exact iteF ⟨g1, ρ, w1, x.k.trans hK, r1, e1, z⟩

/-! ### targets -/
abbrev FG := PyData → Ev → Ws → Oc Ev
def Sm (is : List Nat) (σ σ' : St) : Prop := σ'.length = σ.length ∧ ∀ j, j ∉ is → σ'[j]? = σ[j]?
theorem Sm.refl (is : List Nat) (σ : St) : Sm is σ σ := ⟨rfl, fun _ _ => rfl⟩
theorem Sm.trans {is js : List Nat} {σ σ1 σ2 : St} (a : Sm is σ σ1) (b : Sm js σ1 σ2) : Sm (is ++ js) σ σ2 :=
  ⟨b.1.trans a.1, fun j h => (b.2 j fun z => h (List.mem_append_right _ z)).trans (a.2 j fun z => h (List.mem_append_left _ z))⟩
def lG (K : PySem.W.Frag) (is : List Nat) (f : FG) : TG := fun v σ H Q => ∃ g ρ w d, g.K = K ∧ Rp g H w ∧ EnR g σ ρ ∧ Dq g v d ∧ match f d ρ w with
  | .ok ρ' w' => ∀ σ' H' g', Xt g g' → Rp g' H' w' → EnR g' σ' ρ' → Sm is σ σ' → Q σ' H'
  | _ => False
theorem pg_imp {e : Expr} {t t' : TG} (h : PG X e t) (i : ∀ v σ H Q, t' v σ H Q → t v σ H Q) : PG X e t' := ⟨fun pins s σ H v u Q I r q => h.run pins s σ H v u Q I r (i v σ H Q q)⟩
abbrev PGf (X : Cx) (is : List Nat) (tg : Expr) (f : FG) : Prop := PG X tg (lG X.K is f)
def gN (i : Nat) : FG := fun d ρ w => .ok (ρ.set i (some d)) w
theorem pgf_name {i : Nat} {x : Str} {pos : Pos} (hN : X.N.Nodup) (hi : X.N[i]? = some x) (hx : Loc X.env.scope x) (hf : X.fn x = true ∨ X.env.scope.names.lookup x = some .local := by first | exact .inl rfl | exact .inr rfl) : PGf X [i] (.Name x pos) (gN i) := by
  refine pg_imp (pg_name hN hi hx hf) fun v σ H Q ⟨g, ρ, w, d, hK, r, e, dv, q⟩ => ?_
  refine q _ H g (Xt.refl g) r (e.set i dv) ⟨List.length_set, fun j hj => ?_⟩
  rw [List.getElem?_set_ne]
  exact fun z => hj (by rw [z]; exact List.mem_singleton.mpr rfl)
/-- a, b = .. : a tuple taken apart -/
abbrev FGs := List PyData → Ev → Ws → Oc Ev
def lGs (K : PySem.W.Frag) (is : List Nat) (f : FGs) : TGs := fun vs σ H Q => ∃ g ρ w ds, g.K = K ∧ Rp g H w ∧ EnR g σ ρ ∧ DqA g vs ds ∧ match f ds ρ w with
  | .ok ρ' w' => ∀ σ' H' g', Xt g g' → Rp g' H' w' → EnR g' σ' ρ' → Sm is σ σ' → Q σ' H'
  | _ => False
def gZ : FGs := fun ds ρ w => match ds with
  | [] => .ok ρ w
  | _ => .no
def gC (f : FG) (k : FGs) : FGs := fun ds ρ w => match ds with
  | d :: r => (f d ρ w).bind fun ρ1 w1 => k r ρ1 w1
  | [] => .no
def gT (n : Nat) (f : FGs) : FG := fun d ρ w => match d with
  | .tuple ds => if ds.length = n then f ds ρ w else .no
  | _ => .no
theorem pgs_imp {e : List Expr} {t t' : TGs} (h : PGs X e t) (i : ∀ v σ H Q, t' v σ H Q → t v σ H Q) : PGs X e t' := ⟨fun pins s σ H v u Q I r q => h.run pins s σ H v u Q I r (i v σ H Q q)⟩

theorem pgsf_nil : PGs X [] (lGs X.K [] gZ) := by
  refine pgs_imp pgs_nil fun vs σ H Q ⟨g, ρ, w, ds, hK, r, e, dv, q⟩ => ?_
  cases dv with
  | nil => exact ⟨rfl, q σ H g (Xt.refl g) r e (Sm.refl _ _)⟩
  | cons a b => exact q.elim
theorem pgsf_cons {e : Expr} {es : List Expr} {is js : List Nat} {f : FG} {k : FGs} (h1 : PGf X is e f) (h2 : PGs X es (lGs X.K js k))
    (hs : List.map (fun x => x.snd) (assignEach (e :: es) X.env) = assign e X.env :: List.map (fun x => x.snd) (assignEach es X.env) := by rfl) : PGs X (e :: es) (lGs X.K (is ++ js) (gC f k)) := by
  refine pgs_imp (pgs_cons h1 h2 hs) fun vs σ H Q ⟨g, ρ, w, ds, hK, r, e, dv, q⟩ => ?_
  cases dv with
  | nil => exact q.elim
  | @cons v vs d ds a b =>
    refine ⟨v, vs, rfl, g, ρ, w, d, hK, r, e, a, ?_⟩
    simp only [gC] at q
    cases z : f d ρ w with
    | ok ρ1 w1 =>
      rw [z] at q
      refine fun σ' H' g' x r' e' sm => ⟨g', ρ1, w1, ds, x.k.trans hK, r', e', b.mono x _ _, ?_⟩
      have q : (match k ds ρ1 w1 with
        | .ok ρ' w' => ∀ σ' H' g', Xt g g' → Rp g' H' w' → EnR g' σ' ρ' → Sm (is ++ js) σ σ' → Q σ' H'
        | _ => False) := q
      split at q
      · exact fun σ2 H2 g2 x2 r2 e2 sm2 => q σ2 H2 g2 (x.trans x2) r2 e2 (sm.trans sm2)
      · exact q.elim
    | ex c fs w1 => rw [z] at q; exact q.elim
    | no => rw [z] at q; exact q.elim
theorem pgf_tup {es : List Expr} {k n : Nat} {pos : Pos} {is : List Nat} {f : FGs} (hc : X.calm = true) (h : PGs X es (lGs X.K is f)) (hl : (assignEach es X.env).length = n := by rfl) (hf : List.findIdx? (fun x => x.fst) (assignEach es X.env) = none := by rfl) : PGf X is (.Tuple es k pos) (gT n f) := by
  refine pg_imp (pg_tup hc h hl hf) fun v σ H Q ⟨g, ρ, w, d, hK, r, e, dv, q⟩ => ?_
  unfold gT at q
  cases dv with
  | @tup a xs ds sq da =>
    by_cases hn : ds.length = n
    · simp only [if_pos hn] at q
      exact ⟨_, _, rfl, hK ▸ r.sqT sq, by rw [da.length]; exact hn, g, ρ, w, _, hK, r, e, da, q⟩
    · simp only [if_neg hn] at q
  | _ => exact q.elim
/-! ### assignments -/
def sAsg (f : FE) (gt : FG) : FS := fun ρ w => (f ρ w).thenS ρ fun d w1 => match gt d ρ w1 with
  | .ok ρ' w' => .nx ρ' w'
  | _ => .no
theorem asg_of {f : FE} {gt : FG} {is : List Nat} {K : PySem.W.Frag} : ∀ D σ H, lS K W (sAsg f gt) D σ H → tAsg (lE K W f) (lG K is gt) D σ H := fun D σ H ⟨g, ρ, w, hK, r, e, q⟩ => by
  refine lX_then hK r e q fun v H1 g1 d w1 x r1 e1 dv z => ?_
  refine ⟨g1, ρ, w1, d, x.k.trans hK, r1, e1, dv, ?_⟩
  cases y : gt d ρ w1 with
  | ok ρ' w' =>
    rw [y] at z
    exact fun σ' H' g' x' r' e' _ => z σ' H' g' x' r' e'
  | ex c fs w2 => rw [y] at z; exact z.elim
  | no => rw [y] at z; exact z.elim
theorem psf_asg {tg e : Expr} {pos : Pos} {f : FE} {gt : FG} {is : List Nat} (he : PF X W e f) (hg : PGf X is tg gt) (hs : swapsWithSole [tg] e pos.line X.env = pure false := by rfl) (hw : swappedStores [tg] e X.env = pure none := by rfl) (h1 : (assignEach [tg] X.env).map (·.2) = [assign tg X.env] := by rfl) : PSf X W (.Assign [tg] e pos) (sAsg f gt) :=
  ps_imp (ps_asg he hg hs hw h1) asg_of
theorem psf_set {i : Nat} {x : Str} {e : Expr} {pos' pos : Pos} {f : FE} (hN : X.N.Nodup) (hi : X.N[i]? = some x) (hx : Loc X.env.scope x) (he : PF X W e f) (hs : swapsWith e (some (.Name x pos')) pos.line X.env = pure false := by rfl) (hf : X.fn x = true ∨ X.env.scope.names.lookup x = some .local := by first | exact .inl rfl | exact .inr rfl) :
    PSf X W (.Assign [.Name x pos'] e pos) (sAsg f (gN i)) := by
  refine ps_imp (ps_set hN hi hx he hs hf) fun D σ H ⟨g, ρ, w, hK, r, e, q⟩ => ?_
  exact lX_then hK r e q fun v H1 g1 d w1 x r1 e1 dv z => z _ H1 g1 (Xt.refl _) r1 (e1.set i dv)
/-- a, b = e1, e2 -/
def sPar (i j : Nat) (fa : FA) : FS := fun ρ w => (fa ρ w).thenS ρ fun ds w1 => match ds with
  | [a, b] => .nx ((ρ.set i (some a)).set j (some b)) w1
  | _ => .no
theorem par_of {i j : Nat} {fa : FA} {K : PySem.W.Frag} : ∀ D σ H, lS K W (sPar i j fa) D σ H → tPar i j (lA K W fa) D σ H := fun D σ H ⟨g, ρ, w, hK, r, e, q⟩ => by
  refine lX_then hK r e q fun v H1 g1 d w1 x r1 e1 dv z => ?_
  split at z
  · cases dv with
    | cons d0 dn =>
      cases dn with
      | cons d1 dn =>
        cases dn
        exact ⟨_, _, rfl, z _ H1 g1 (Xt.refl _) r1 ((e1.set i d0).set j d1)⟩
  · exact z.elim

/-! ### what is walked -/
structure WkD (J : It) (g : Gd) (ds : List PyData) : Prop where
  stop : ∀ g' H w, Xt0 g g' → Rp g' H w → J.stop ds.length H
  go : ∀ g' H w i, Xt0 g g' → Rp g' H w → i < ds.length → J.go i H
  yld : ∀ g' H w i x H2, Xt0 g g' → Rp g' H w → i < ds.length → J.yld i H x H2 → ∃ g2 d, ds[i]? = some d ∧ Xt g' g2 ∧ Rp g2 H2 w ∧ Dq g2 x d
theorem WkD.mono {J : It} {g g' : Gd} {ds : List PyData} (k : WkD J g ds) (x : Xt0 g g') : WkD J g' ds :=
  ⟨fun a b c y r => k.stop a b c (x.trans y) r, fun a b c i y r h => k.go a b c i (x.trans y) r h, fun a b c i v d y r h z => k.yld a b c i v d (x.trans y) r h z⟩
def lI (K : PySem.W.Frag) (W : WX) (f : FA) : TI := lX K W (fun g J ds => WkD J g ds) f
theorem pi_imp {tg e : Expr} {t t' : TI} (h : PI X tg e t) (i : ∀ σ H R, t' σ H R → t σ H R) : PI X tg e t' := ⟨fun pins s σ H R I q => h.run pins s σ H R I (i σ H R q)⟩
abbrev PIf (X : Cx) (W : WX) (tg e : Expr) (f : FA) : Prop := PI X tg e (lI X.K W f)
theorem wk_list {g : Gd} {a : Addr} {xs : List V} {ds : List PyData} (h : SqL g.K g.F a xs) (d : DqA g xs ds) : WkD (Itl g.K a) g ds where
  stop := fun g' H w x r => ⟨xs, x.k ▸ r.sqL (x.sqL h), by rw [d.length]; exact Nat.le_refl _⟩
  go := fun g' H w i x r hi => by
    have hi' : i < xs.length := by rw [d.length]; exact hi
    exact ⟨xs, xs[i], x.k ▸ r.sqL (x.sqL h), List.getElem?_eq_getElem hi'⟩
  yld := fun g' H w i v H2 x r hi y => by
    obtain ⟨e, y⟩ := y
    subst e
    have hv := y xs (x.k ▸ r.sqL (x.sqL h))
    obtain ⟨v', h1, h2⟩ := d.get (List.getElem?_eq_getElem hi)
    rw [hv] at h1
    cases h1
    exact ⟨g', ds[i], List.getElem?_eq_getElem hi, Xt.refl _, r, h2.mono x _ _⟩
theorem wk_tup {g : Gd} {a : Addr} {xs : List V} {ds : List PyData} (h : SqT g.K g.F a xs) (d : DqA g xs ds) : WkD (Itt g.K a) g ds where
  stop := fun g' H w x r => ⟨xs, x.k ▸ r.sqT (x.sqT h), by rw [d.length]; exact Nat.le_refl _⟩
  go := fun g' H w i x r hi => by
    have hi' : i < xs.length := by rw [d.length]; exact hi
    exact ⟨xs, xs[i], x.k ▸ r.sqT (x.sqT h), List.getElem?_eq_getElem hi'⟩
  yld := fun g' H w i v H2 x r hi y => by
    obtain ⟨e, y⟩ := y
    subst e
    have hv := y xs (x.k ▸ r.sqT (x.sqT h))
    obtain ⟨v', h1, h2⟩ := d.get (List.getElem?_eq_getElem hi)
    rw [hv] at h1
    cases h1
    exact ⟨g', ds[i], List.getElem?_eq_getElem hi, Xt.refl _, r, h2.mono x _ _⟩
def chD (z : Str) : List PyData := z.cps.toList.map fun c => .str ⟨#[c]⟩
theorem wk_str {g : Gd} {z : Str} : WkD (Its z) g (chD z) where
  stop := fun g' H w x r => by show z.cps.size ≤ _; simp [chD]
  go := fun g' H w i x r hi => by show i < z.cps.size; simpa [chD] using hi
  yld := fun g' H w i v H2 x r hi y => by
    obtain ⟨e, c, hc, rfl⟩ := y
    subst e
    exact ⟨g', .str ⟨#[c]⟩, by simp [chD, hc], Xt.refl _, r, .str _⟩
theorem walk_zipT {K : PySem.W.Frag} {a b : Addr} {xs ys : List V} : Walk (RZ.ItzT K a b) (min xs.length ys.length) (fun H => SqT K H a xs ∧ SqT K H b ys) (YPair (fun i => xs[i]?) (fun i => ys[i]?)) where
  goes := fun i H hi g => ⟨xs, ys, xs[i]'(by omega), ys[i]'(by omega), g.1, g.2, List.getElem?_eq_getElem (by omega), List.getElem?_eq_getElem (by omega)⟩
  stops := fun H g => ⟨xs, ys, g.1, g.2, by omega⟩
  yields := fun i H x H' hi g y => by
    obtain ⟨T, u, v, e, hT, e2, h1, h2⟩ := y
    exact ⟨T, u, v, e, hT, e2, h1 xs g.1, h2 ys g.2⟩
/-- for x in e: a list, a tuple, a text -/
def itD : PyData → Option (List PyData)
  | .list ds => some ds
  | .tuple ds => some ds
  | .str z => some (chD z)
  | _ => none
def iE (f : FE) : FA := fun ρ w => (f ρ w).bind fun d w1 => Oc.of (itD d) w1
def iAny (K : PySem.W.Frag) (te : TE) : TI := fun σ H R => te σ H fun x H1 => (∃ a xs, x = .ref a ∧ SqL K H1 a xs ∧ R (Itl K a) H1) ∨ (∃ a xs, x = .ref a ∧ SqT K H1 a xs ∧ R (Itt K a) H1) ∨ ∃ z, x = .str z ∧ R (Its z) H1
theorem pi_any {tg e : Expr} {te : TE} (he : PE X e te) : PI X tg e (iAny X.K te) := by
  refine ⟨fun pins s σ H R I h => thn (he.run pins s σ H _ I h) fun v s1 ⟨y, H1, I1, r1, q⟩ => ?_⟩
  rcases q with ⟨a, xs, rfl, sq, q⟩ | ⟨a, xs, rfl, sq, q⟩ | ⟨z, rfl, q⟩
  · cases r1
    obtain ⟨its, _, pl, _⟩ := I1.list sq
    exact wpAny_pyIter_list pl.isList (pi_one (tk := s1.toks) I1 _ (turn_list a _) ⟨_, Heap.get?_push_size _ rfl, rfl, rfl⟩ q)
  · cases r1
    obtain ⟨its, _, pl, _⟩ := I1.tuple sq
    exact wpAny_pyIter_tuple pl (pi_one (tk := s1.toks) I1 _ (turn_tuple a _) ⟨_, Heap.get?_push_size _ rfl, rfl, rfl⟩ q)
  · obtain ⟨t, rfl⟩ := r1
    cases hq : z.cps.all fun c => c < 128 with
    | false => exact wpAny_pyIter_wide hq (pi_one (tk := s1.toks) I1 _ (turn_str _ z t "str_iterator" (Or.inr rfl)) ⟨_, Heap.get?_push_size _ rfl, rfl, rfl⟩ q)
    | true => exact wpAny_pyIter_ascii hq (pi_one (tk := s1.toks) I1 _ (turn_str _ z t "str_ascii_iterator" (Or.inl rfl)) ⟨_, Heap.get?_push_size _ rfl, rfl, rfl⟩ q)
theorem pif_any {tg e : Expr} {f : FE} (he : PF X W e f) : PIf X W tg e (iE f) := by
  refine pi_imp (pi_any he) fun σ H R ⟨g, ρ, w, hK, r, e, q⟩ => ?_
  refine lX_bind hK r e q fun v H1 g1 d w1 x r1 e1 dv z => ?_
  have hK1 := x.k.trans hK
  cases dv with
  | lst sq da => exact .inl ⟨_, _, rfl, hK1 ▸ r1.sqL sq, hK1 ▸ z _ H1 g1 (Xt.refl _) r1 (wk_list sq da)⟩
  | tup sq da => exact .inr (.inl ⟨_, _, rfl, hK1 ▸ r1.sqT sq, hK1 ▸ z _ H1 g1 (Xt.refl _) r1 (wk_tup sq da)⟩)
  | str y => exact .inr (.inr ⟨_, rfl, z _ H1 g1 (Xt.refl _) r1 wk_str⟩)
  | _ => exact z.elim
/-- range(n), range(a, b) -/
def rgD (lo hi : Int) : List PyData := (List.range (hi - lo).toNat).map fun i => .int (lo + (i : Nat))
theorem wk_rng {g : Gd} {lo hi : Int} : WkD (Itr lo (hi - lo).toNat) g (rgD lo hi) where
  stop := fun g' H w x r => by show (hi - lo).toNat ≤ _; simp [rgD]
  go := fun g' H w i x r hi' => by show i < (hi - lo).toNat; simpa [rgD] using hi'
  yld := fun g' H w i v H2 x r hi' y => by
    obtain ⟨e, rfl⟩ := y
    subst e
    have hi2 : i < (hi - lo).toNat := by simpa [rgD] using hi'
    exact ⟨g', .int (lo + (i : Nat)), by simp [rgD, hi2], Xt.refl _, r, .int _⟩
def c62 (i : Int) : Bool := decide (i.natAbs < 2 ^ 61)
def iR1 (fa : FA) : FA := fun ρ w => (fa ρ w).bind fun ds w1 => match ds with
  | [.int j] => Oc.on (c62 j) (.ok (rgD 0 j) w1)
  | _ => .no
def iR2 (fa : FA) : FA := fun ρ w => (fa ρ w).bind fun ds w1 => match ds with
  | [.int i, .int j] => Oc.on (c62 i && c62 j) (.ok (rgD i j) w1)
  | _ => .no
theorem pif_range1 {tg a : Expr} {fa : FA} {p pos : Pos} (hg : Gl X "range") (hm : X.mg "range" = none) (ha : PAf X W [a] fa) (hs : starEach [a] X.env = [(false, eval a X.env)] := by rfl) : PIf X W tg (.Call (.Name "range" p) [a] [] pos) (iR1 fa) := by
  refine pi_imp (pi_range1 hg hm ha hs) fun σ H R ⟨g, ρ, w, hK, r, e, q⟩ => ?_
  refine lX_bind hK r e q fun v H1 g1 d w1 x r1 e1 dv z => ?_
  split at z
  · cases dv with
    | cons d0 dn =>
      cases dn; cases d0
      obtain ⟨hb, z⟩ := z.on
      have hb := of_decide_eq_true hb
      refine ⟨_, rfl, by omega, by omega, ?_⟩
      have := z _ H1 g1 (Xt.refl _) r1 (wk_rng (lo := 0))
      rw [Int.sub_zero] at this
      exact this
  · exact z.elim
theorem pif_range2 {tg a b : Expr} {fa : FA} {p pos : Pos} (hg : Gl X "range") (hm : X.mg "range" = none) (ha : PAf X W [a, b] fa) (hs : starEach [a, b] X.env = [(false, eval a X.env), (false, eval b X.env)] := by rfl) (hs2 : starEach [b] X.env = [(false, eval b X.env)] := by rfl) : PIf X W tg (.Call (.Name "range" p) [a, b] [] pos) (iR2 fa) := by
  refine pi_imp (pi_range2 hg hm ha hs hs2) fun σ H R ⟨g, ρ, w, hK, r, e, q⟩ => ?_
  refine lX_bind hK r e q fun v H1 g1 d w1 x r1 e1 dv z => ?_
  split at z
  · cases dv with
    | cons d0 dn =>
      cases d0
      cases dn with
      | cons d1 dn =>
        cases dn; cases d1
        obtain ⟨hb, z⟩ := z.on
        rw [Bool.and_eq_true] at hb
        have h1 := of_decide_eq_true hb.1
        have h2 := of_decide_eq_true hb.2
        exact ⟨_, _, rfl, ⟨by omega, by omega, by omega, by omega⟩, z _ H1 g1 (Xt.refl _) r1 wk_rng⟩
  · exact z.elim
/-- zip(xs, ys): two lists, two tuples -/
def zipD : List PyData → List PyData → List PyData
  | a :: as, b :: bs => .tuple [a, b] :: zipD as bs
  | _, _ => []
theorem zipD_len : ∀ (as bs : List PyData), (zipD as bs).length = min as.length bs.length
  | [], _ => by simp [zipD]
  | _ :: _, [] => by simp [zipD]
  | _ :: as, _ :: bs => by simp [zipD, zipD_len as bs]
theorem zipD_get : ∀ {as bs : List PyData} {i : Nat} {a b : PyData}, as[i]? = some a → bs[i]? = some b → (zipD as bs)[i]? = some (.tuple [a, b])
  | [], _, _, _, _, h, _ => by simp at h
  | _ :: _, [], _, _, _, _, h => by simp at h
  | _ :: _, _ :: _, 0, _, _, h1, h2 => by simp at h1 h2; simp [zipD, h1, h2]
  | _ :: as, _ :: bs, i + 1, a, b, h1, h2 => by
    simp only [List.getElem?_cons_succ, zipD] at h1 h2 ⊢
    exact zipD_get h1 h2
theorem wk_pair {J : It} {g : Gd} {xs ys : List V} {as bs : List PyData} {G : Hp → Prop} (k : Walk J (min xs.length ys.length) G (YPair (fun i => xs[i]?) (fun i => ys[i]?))) (hG : ∀ g' H w, Xt0 g g' → Rp g' H w → G H) (da : DqA g xs as) (db : DqA g ys bs) : WkD J g (zipD as bs) where
  stop := fun g' H w x r => by
    rw [zipD_len, ← da.length, ← db.length]
    exact k.stops H (hG g' H w x r)
  go := fun g' H w i x r hi => k.goes i H (by rw [zipD_len, ← da.length, ← db.length] at hi; exact hi) (hG g' H w x r)
  yld := fun g' H w i v H2 x r hi y => by
    rw [zipD_len] at hi
    obtain ⟨T, a, b, rfl, hT, rfl, ha, hb⟩ := k.yields i H v H2 (by rw [da.length, db.length]; exact hi) (hG g' H w x r) y
    have ha' := List.getElem?_eq_getElem (show i < as.length by omega)
    have hb' := List.getElem?_eq_getElem (show i < bs.length by omega)
    obtain ⟨a', h1, h2⟩ := da.get ha'
    obtain ⟨b', h3, h4⟩ := db.get hb'
    have ha : xs[i]? = some a := ha
    have hb : ys[i]? = some b := hb
    rw [ha] at h1
    rw [hb] at h3
    cases h1
    cases h3
    exact ⟨g'.put T (.tup [a, b]), _, zipD_get ha' hb', Xt.put (r.fnone hT), r.put hT, newT r hT (.cons (h2.mono x _ _) (.cons (h4.mono x _ _) .nil))⟩
def iZ (fa : FA) : FA := fun ρ w => (fa ρ w).bind fun ds w1 => match ds with
  | [.list as, .list bs] => .ok (zipD as bs) w1
  | [.tuple as, .tuple bs] => .ok (zipD as bs) w1
  | _ => .no
theorem pif_zip {a b : Expr} {fa : FA} {p pos tpos : Pos} {elts : List Expr} {kk : Nat} (hg : Gl X "zip") (hm : X.mg "zip" = none) (ha : PAf X W [a, b] fa) (hs : starEach [a, b] X.env = (false, eval a X.env) :: starEach [b] X.env := by rfl) (hpl : (backTo pos (starEach [b] X.env)).any (·.1) = false := by rfl) :
    PIf X W (.Tuple elts kk tpos) (.Call (.Name "zip" p) [a, b] [] pos) (iZ fa) := by
  refine pi_imp (RZ.pi_zipA hg hm ha hs hpl) fun σ H R ⟨g, ρ, w, hK, r, e, q⟩ => ?_
  refine lX_bind hK r e q fun v H1 g1 d w1 x r1 e1 dv z => ?_
  have hK1 := x.k.trans hK
  split at z
  · cases dv with
    | cons d0 dn =>
      cases dn with
      | cons d1 dn =>
        cases dn
        cases d0 with
        | lst s0 a0 =>
          cases d1 with
          | lst s1 a1 =>
            refine ⟨_, _, _, _, rfl, .inl ⟨hK1 ▸ r1.sqL s0, hK1 ▸ r1.sqL s1, hK1 ▸ z _ H1 g1 (Xt.refl _) r1 (wk_pair (walk_zip rfl) (fun g' H w x r => ?_) a0 a1)⟩⟩
            exact ⟨x.k ▸ r.sqL (x.sqL s0), x.k ▸ r.sqL (x.sqL s1)⟩
  · cases dv with
    | cons d0 dn =>
      cases dn with
      | cons d1 dn =>
        cases dn
        cases d0 with
        | tup s0 a0 =>
          cases d1 with
          | tup s1 a1 =>
            refine ⟨_, _, _, _, rfl, .inr ⟨hK1 ▸ r1.sqT s0, hK1 ▸ r1.sqT s1, hK1 ▸ z _ H1 g1 (Xt.refl _) r1 (wk_pair walk_zipT (fun g' H w x r => ?_) a0 a1)⟩⟩
            exact ⟨x.k ▸ r.sqT (x.sqT s0), x.k ▸ r.sqT (x.sqT s1)⟩
  · exact z.elim

/-! ### for -/
def forL (gt : FG) (body : FS) : List PyData → Ev → Ws → Os
  | [], ρ, w => .nx ρ w
  | d :: ds, ρ, w => match gt d ρ w with
    | .ok ρ1 w1 => match body ρ1 w1 with
      | .nx ρ2 w2 => forL gt body ds ρ2 w2
      | .ct ρ2 w2 => forL gt body ds ρ2 w2
      | .bk ρ2 w2 => .nx ρ2 w2
      | o => o
    | _ => .no
def sFor (fi : FA) (gt : FG) (body : FS) : FS := fun ρ w => (fi ρ w).thenS ρ fun ds w1 => forL gt body ds ρ w1
theorem psf_for {tg iter : Expr} {body : List Stmt} {pos : Pos} {fi : FA} {gt : FG} {is : List Nat} {fb : FS} (hp : PassesOwn (model X.prog X.w) X.A X.env X.xe) (hc : X.calm = true) (hi : PIf X W tg iter fi) (hg : PGf X is tg gt) (hb : PSsf X W body fb)
    (hs : ∀ x, foldedSetIterable iter X.env x = pure x := by intro _; rfl) : PSf X W (.For tg iter body [] pos) (sFor fi gt fb) := by
  refine ps_imp (ps_for hp hc hi hg hb hs) fun D σ H ⟨g, ρ, w, hK, r, e, q⟩ => ?_
  refine lX_then hK r e q fun J H1 g1 ds w1 x r1 e1 wk z => ?_
  refine ⟨fun i m σ' H' => m = ds.length - i ∧ i ≤ ds.length ∧ ∃ g' ρ' w', Xt g1 g' ∧ Rp g' H' w' ∧ EnR g' σ' ρ' ∧ oSt W g' D (forL gt fb (ds.drop i) ρ' w'), ⟨ds.length, by simp, Nat.zero_le _, g1, ρ, w1, Xt.refl _, r1, e1, z⟩, ?_⟩
  rintro i m σ' H' ⟨rfl, hi, g', ρ', w', x', r', e', z'⟩
  by_cases hlt : i < ds.length
  · refine .inr ⟨wk.go g' H' w' i x'.toXt0 r' hlt, fun σ2 H2 => i + 1 ≤ ds.length ∧ ∃ g2 ρ2 w2, Xt g1 g2 ∧ Rp g2 H2 w2 ∧ EnR g2 σ2 ρ2 ∧ oSt W g2 D (forL gt fb (ds.drop (i + 1)) ρ2 w2), fun σ2 H2 n => ⟨ds.length - (i + 1), by omega, rfl, n⟩, fun v H2 y => ?_⟩
    obtain ⟨g2, d, hd, x2, r2, dv⟩ := wk.yld g' H' w' i v H2 x'.toXt0 r' hlt y
    have ed : ds.drop i = d :: ds.drop (i + 1) := by
      rw [List.drop_eq_getElem_cons hlt]
      rw [List.getElem?_eq_getElem hlt] at hd
      rw [Option.some.inj hd]
    rw [ed, forL] at z'
    refine ⟨g2, ρ', w', d, x2.k.trans (x'.k.trans (x.k.trans hK)), r2, e'.mono x2, dv, ?_⟩
    cases hgt : gt d ρ' w' with
    | ok ρ1 w1' =>
      rw [hgt] at z'
      refine fun σ3 H3 g3 x3 r3 e3 _ => ⟨g3, ρ1, w1', x3.k.trans (x2.k.trans (x'.k.trans (x.k.trans hK))), r3, e3, ?_⟩
      have z' := oSt.mono (x2.trans x3) z'
      have up : Xt g1 g3 := x'.trans (x2.trans x3)
      simp only at z'
      cases hb' : fb ρ1 w1' with
      | nx ρ2 w2 =>
        rw [hb'] at z'
        exact fun σ4 H4 g4 x4 r4 e4 => ⟨hlt, g4, ρ2, w2, up.trans x4, r4, e4, oSt.mono x4 z'⟩
      | ct ρ2 w2 =>
        rw [hb'] at z'
        exact fun σ4 H4 g4 x4 r4 e4 => ⟨hlt, g4, ρ2, w2, up.trans x4, r4, e4, oSt.mono x4 z'⟩
      | bk ρ2 w2 => rw [hb'] at z'; exact z'
      | rt d w2 => rw [hb'] at z'; exact z'
      | ex ρ2 c fs w2 => rw [hb'] at z'; exact z'
      | no => rw [hb'] at z'; exact z'
    | ex c fs w2 => rw [hgt] at z'; exact z'.elim
    | no => rw [hgt] at z'; exact z'.elim
  · have ei : i = ds.length := by omega
    subst ei
    rw [List.drop_length, forL] at z'
    exact .inl ⟨wk.stop g' H' w' x'.toXt0 r', z' σ' H' g' (Xt.refl _) r' e'⟩
end
end Td

set_option Elab.async false
set_option linter.all false
set_option maxRecDepth 100000
set_option maxHeartbeats 4000000
namespace Td
open PySem L2
/-! ### comprehensions -/
def wipeE (ρ : Ev) : List Nat → Ev
  | [] => ρ
  | v :: vs => (wipeE ρ vs).set v none
theorem wipeE_len (ρ : Ev) : ∀ vs, (wipeE ρ vs).length = ρ.length
  | [] => rfl
  | v :: vs => by unfold wipeE; rw [List.length_set, wipeE_len ρ vs]
theorem wipe_get (σ : St) (j : Nat) : ∀ vs, j ∉ vs → (wipe σ vs)[j]? = σ[j]?
  | [], _ => rfl
  | v :: vs, h => by
    unfold wipe
    rw [List.getElem?_set_ne (fun e => h (by rw [e]; exact List.mem_cons_self))]
    exact wipe_get σ j vs fun z => h (List.mem_cons_of_mem _ z)
theorem wipe_at (σ : St) (j : Nat) : ∀ vs, j ∈ vs → j < σ.length → (wipe σ vs)[j]? = some none
  | v :: vs, h, hl => by
    unfold wipe
    by_cases e : v = j
    · subst e
      rw [List.getElem?_set_self (by rw [wipe_length]; exact hl)]
    · rw [List.getElem?_set_ne e]
      rcases List.mem_cons.mp h with z | z
      · exact absurd z.symm e
      · exact wipe_at σ j vs z hl
theorem EnR.wipe {g : Gd} {σ : St} {ρ : Ev} (e : EnR g σ ρ) : ∀ vs, EnR g (wipe σ vs) (wipeE ρ vs)
  | [] => e
  | v :: vs => by
    have h := EnR.wipe e vs
    refine ⟨by unfold L2.wipe wipeE; rw [List.length_set, List.length_set]; exact h.len, fun j c hj => ?_⟩
    unfold wipeE at hj
    by_cases q : v = j
    · subst q
      by_cases z : v < (wipeE ρ vs).length
      · rw [List.getElem?_set_self z] at hj; cases hj
      · rw [List.getElem?_eq_none (by rw [List.length_set]; omega)] at hj; cases hj
    · rw [List.getElem?_set_ne q] at hj
      unfold L2.wipe
      rw [List.getElem?_set_ne q]
      exact h.at_ j c hj
theorem wipe_of_sm {is vs : List Nat} {σ σ' : St} (h : Sm is (wipe σ vs) σ') (hs : ∀ i ∈ is, i ∈ vs) : wipe σ' vs = wipe σ vs := by
  have hl : σ'.length = σ.length := h.1.trans (wipe_length σ vs)
  refine List.ext_getElem? fun j => ?_
  by_cases hj : j ∈ vs
  · by_cases hb : j < σ.length
    · rw [wipe_at σ' j vs hj (by omega), wipe_at σ j vs hj hb]
    · rw [List.getElem?_eq_none (by rw [wipe_length]; omega), List.getElem?_eq_none (by rw [wipe_length]; omega)]
  · rw [wipe_get σ' j vs hj, h.2 j fun z => hj (hs j z)]
def lcL (gt : FG) (tt : FT) (fe : FE) (ρ : Ev) : List PyData → Ws → List PyData → Oc (List PyData)
  | [], w, acc => .ok acc w
  | d :: ds, w, acc => match gt d ρ w with
    | .ok ρ1 w1 => match tt ρ1 w1 with
      | .ok true w2 => match fe ρ1 w2 with
        | .ok y w3 => if acc.length < sizeLine then lcL gt tt fe ρ ds w3 (acc ++ [y]) else .no
        | _ => .no
      | .ok false w2 => lcL gt tt fe ρ ds w2 acc
      | _ => .no
    | _ => .no
def eLc (fi : FA) (gt : FG) (tt : FT) (fe : FE) (vs : List Nat) : FE := fun ρ w => (fi ρ w).bind fun ds w1 => (lcL gt tt fe (wipeE ρ vs) ds w1 []).bind fun acc w2 => .ok (.list acc) w2
def W0 : WX := fun _ _ _ _ => False
def Gd.pn (g : Gd) (P : Hp) : Gd := { g with P := P }
theorem Gd.pn_xt (g : Gd) (P : Hp) : Xt0 g (g.pn P) := ⟨rfl, fun _ _ h => h, fun _ _ => rfl, Nat.le_refl _⟩
theorem Gd.pn_xt' (g : Gd) (P : Hp) : Xt0 (g.pn P) g := ⟨rfl, fun _ _ h => h, fun _ _ => rfl, Nat.le_refl _⟩
theorem tests_imp {X : Cx} {e : List Expr} {t t' : TT} (h : PTs X e t) (i : ∀ σ H Q, t' σ H Q → t σ H Q) : PTs X e t' := ⟨fun pins s σ H Q I q => h.run pins s σ H Q I (i σ H Q q)⟩
def tYs : FT := fun _ w => .ok true w
section
variable {X : Cx} {W : WX}
theorem ptsf_nil : PTs X [] (lT X.K W tYs) := tests_imp pts_nil fun σ H Q ⟨g, ρ, w, hK, r, e, q⟩ => q true H g (Xt.refl g) r rfl
theorem ptsf_one {e : Expr} {t : FT} (h : PTf X W e t) : PTs X [e] (lT X.K W t) := pts_one h
/-- the new list at D, which others hold -/
theorem pin_new {g : Gd} {H : Hp} {w : Ws} (r : Rp g H w) {D : Addr} (hD : H D = none) (o : HO) : Rp (g.pn (upd g.P D o)) (upd H D o) w where
  fro := fun a u e => by
    have e : g.F a = some u := e
    rw [upd_ne (ne_of_none e (r.fnone hD))]
    exact r.fro a u e
  len := r.len
  cell := fun l ob e => (r.cell l ob e).new (g.pn_xt _) fun b hb => by
    have nb : b ≠ D := fun z => by subst z; rw [hD] at hb; cases hb
    exact ⟨rfl, upd_ne nb⟩
  inj := r.inj
  pin := fun a u e => by
    have e : upd g.P D o a = some u := e
    by_cases q : a = D
    · subst q
      rw [upd_same] at e ⊢
      refine ⟨e, r.fnone hD, fun l hl z => ?_⟩
      have hlw : l < w.length := by rw [← r.len]; exact hl
      obtain ⟨o', ho⟩ := (r.cell l _ (List.getElem?_eq_getElem hlw)).there
      have z : g.μ l = a := z
      rw [z, hD] at ho
      cases ho
    · rw [upd_ne q] at e ⊢
      exact r.pin a u e
/-- it grows -/
theorem pin_set {g : Gd} {H : Hp} {w : Ws} {P : Hp} {D : Addr} {o o' : HO} (r : Rp g H w) (hP : g.P = upd P D o) (hno : ∀ a, o ≠ .own a) : Rp (g.pn (upd P D o')) (upd H D o') w := by
  obtain ⟨h1, h2, h3⟩ := r.pin D o (by rw [hP]; exact upd_same)
  refine ⟨fun a u e => ?_, r.len, fun l ob e => ?_, r.inj, fun a u e => ?_⟩
  · have e : g.F a = some u := e
    rw [upd_ne (ne_of_none e h2)]
    exact r.fro a u e
  · have hl : l < g.n := by rw [r.len]; exact (List.getElem?_eq_some_iff.mp e).1
    have nD := h3 l hl
    have c := r.cell l ob e
    cases ob with
    | lst ds =>
      obtain ⟨hn, xs, h, d⟩ := c
      exact ⟨hn, xs, (upd_ne nD).trans h, d.mono (g.pn_xt _) _ _⟩
    | dK kvs =>
      obtain ⟨hn, ks, h, d⟩ := c
      exact ⟨hn, ks, (upd_ne nD).trans h, d.mono (g.pn_xt _)⟩
    | ins C fs =>
      obtain ⟨hn, dx, gs, h, hd, hn2, d⟩ := c
      have nx : dx ≠ D := fun z => by rw [z, h1] at hd; exact hno _ (Option.some.inj hd)
      exact ⟨hn, dx, gs, (upd_ne nD).trans h, (upd_ne nx).trans hd, hn2, d.mono (g.pn_xt _)⟩
    | dead =>
      obtain ⟨o2, h⟩ := c
      exact ⟨o2, (upd_ne nD).trans h⟩
  · have e : upd P D o' a = some u := e
    by_cases q : a = D
    · subst q
      rw [upd_same] at e ⊢
      exact ⟨e, h2, h3⟩
    · rw [upd_ne q] at e ⊢
      exact r.pin a u (by rw [hP, upd_ne q]; exact e)
/-- it is given out -/
theorem pin_out {g : Gd} {H : Hp} {w : Ws} {P : Hp} {D : Addr} {o : HO} (r : Rp g H w) (hP : g.P = upd P D o) (hno : ∀ a, o ≠ .own a) (hD : P D = none) : Rp { g with P := P, F := upd g.F D o } H w := by
  obtain ⟨h1, h2, h3⟩ := r.pin D o (by rw [hP]; exact upd_same)
  have x : Xt0 g { g with P := P, F := upd g.F D o } := ⟨rfl, fun a u e => (upd_ne (ne_of_none e h2)).trans e, fun _ _ => rfl, Nat.le_refl _⟩
  refine ⟨fun a u e => ?_, r.len, fun l ob e => ?_, r.inj, fun a u e => ?_⟩
  · have e : upd g.F D o a = some u := e
    by_cases q : a = D
    · subst q
      rw [upd_same] at e
      exact h1.trans e
    · rw [upd_ne q] at e
      exact r.fro a u e
  · have hl : l < g.n := by rw [r.len]; exact (List.getElem?_eq_some_iff.mp e).1
    have nD := h3 l hl
    have c := r.cell l ob e
    cases ob with
    | lst ds =>
      obtain ⟨hn, xs, h, d⟩ := c
      exact ⟨(upd_ne nD).trans hn, xs, h, d.mono x _ _⟩
    | dK kvs =>
      obtain ⟨hn, ks, h, d⟩ := c
      exact ⟨(upd_ne nD).trans hn, ks, h, d.mono x⟩
    | ins C fs =>
      obtain ⟨hn, dx, gs, h, hd, hn2, d⟩ := c
      have nx : dx ≠ D := fun z => by rw [z, h1] at hd; exact hno _ (Option.some.inj hd)
      exact ⟨(upd_ne nD).trans hn, dx, gs, h, hd, (upd_ne nx).trans hn2, d.mono x⟩
    | dead =>
      obtain ⟨o2, h⟩ := c
      exact ⟨o2, h⟩
  · have e : P a = some u := e
    have na : a ≠ D := fun z => by rw [z, hD] at e; cases e
    obtain ⟨q1, q2, q3⟩ := r.pin a u (by rw [hP, upd_ne na]; exact e)
    exact ⟨q1, (upd_ne na).trans q2, q3⟩
theorem lc_of {fi : FA} {gt : FG} {tt : FT} {fe : FE} {vs is : List Nat} {K : PySem.W.Frag} (hs : ∀ i ∈ is, i ∈ vs) : ∀ σ H Q, lE K W (eLc fi gt tt fe vs) σ H Q → tLc (lI K W fi) (lG K is gt) (lT K W0 tt) (lE K W0 fe) vs σ H Q := fun σ H Q ⟨g, ρ, w, hK, r, e, q⟩ => by
  refine lX_bind hK r e q fun J H1 g1 ds w1 x r1 e1 wk z => ?_
  intro D hD
  have hK1 := x.k.trans hK
  have pD : g1.P D = none := by
    cases h : g1.P D with
    | none => rfl
    | some o => rw [(r1.pin D o h).1] at hD; cases hD
  have r0 := pin_new r1 hD (.lst [])
  refine ⟨fun i m H' => m = ds.length - i ∧ i ≤ ds.length ∧ ∃ g' w' acc dacc, Xt0 g1 g' ∧ g'.P = upd g1.P D (.lst acc) ∧ Rp g' H' w' ∧ DqA g' acc dacc ∧ lcL gt tt fe (wipeE ρ vs) (ds.drop i) w' dacc = lcL gt tt fe (wipeE ρ vs) ds w1 [],
    ⟨ds.length, by simp, Nat.zero_le _, _, w1, [], [], g1.pn_xt _, rfl, r0, .nil, rfl⟩, ?_⟩
  rintro i m H' ⟨rfl, hi, g', w', acc, dacc, x', hP, r', da, z'⟩
  by_cases hlt : i < ds.length
  · refine .inr ⟨wk.go g' H' w' i x' r' hlt, fun H2 => i + 1 ≤ ds.length ∧ ∃ g' w' acc dacc, Xt0 g1 g' ∧ g'.P = upd g1.P D (.lst acc) ∧ Rp g' H2 w' ∧ DqA g' acc dacc ∧ lcL gt tt fe (wipeE ρ vs) (ds.drop (i + 1)) w' dacc = lcL gt tt fe (wipeE ρ vs) ds w1 [],
      fun H2 n => ⟨ds.length - (i + 1), by omega, rfl, n⟩, fun v H2 y => ?_⟩
    obtain ⟨g2, d, hd, x2, r2, dv⟩ := wk.yld g' H' w' i v H2 x' r' hlt y
    have ed : ds.drop i = d :: ds.drop (i + 1) := by
      rw [List.drop_eq_getElem_cons hlt]
      rw [List.getElem?_eq_getElem hlt] at hd
      rw [Option.some.inj hd]
    rw [ed, lcL] at z'
    rw [← z'] at z
    refine ⟨g2, wipeE ρ vs, w', d, x2.k.trans (x'.k.trans hK1), r2, (e1.mono (x'.trans x2.toXt0)).wipe vs, dv, ?_⟩
    cases hgt : gt d (wipeE ρ vs) w' with
    | ok ρ1 w1' =>
      rw [hgt] at z z'
      refine fun σ3 H3 g3 x3 r3 e3 sm => ⟨wipe_of_sm sm hs, g3, ρ1, w1', x3.k.trans (x2.k.trans (x'.k.trans hK1)), r3, e3, ?_⟩
      simp only at z z'
      cases htt : tt ρ1 w1' with
      | ok b w2 =>
        rw [htt] at z z'
        intro b' H4 g4 x4 r4 eb
        subst eb
        have P4 : g4.P = upd g1.P D (.lst acc) := x4.p.trans (x3.p.trans (x2.p.trans hP))
        have y4 : Xt0 g1 g4 := x'.trans (x2.toXt0.trans (x3.toXt0.trans x4.toXt0))
        have da4 : DqA g4 acc dacc := da.mono (x2.toXt0.trans (x3.toXt0.trans x4.toXt0)) _ _
        cases b' with
        | false => exact iteF ⟨hlt, g4, w2, acc, dacc, y4, P4, r4, da4, z'⟩
        | true =>
          refine iteT ⟨g4, ρ1, w2, y4.k.trans hK1, r4, e3.mono x4.toXt0, ?_⟩
          simp only at z z'
          cases hfe : fe ρ1 w2 with
          | ok d5 w3 =>
            rw [hfe] at z z'
            intro v5 H5 g5 x5 r5 dv5
            simp only at z z'
            have P5 : g5.P = upd g1.P D (.lst acc) := x5.p.trans P4
            by_cases hsz : dacc.length < sizeLine
            · rw [if_pos hsz] at z'
              have pD5 := r5.pin D (.lst acc) (by rw [P5]; exact upd_same)
              refine ⟨acc, pD5.1, by rw [da.length]; exact hsz, hlt, g5.pn (upd g1.P D (.lst (acc ++ [v5]))), w3, acc ++ [v5], dacc ++ [d5], (y4.trans x5.toXt0).trans (g5.pn_xt _), rfl, pin_set r5 P5 (fun a z => nomatch z), ?_, z'⟩
              exact (da4.mono (x5.toXt0.trans (g5.pn_xt _)) _ _).append (.cons (dv5.mono (g5.pn_xt _) _ _) .nil)
            · rw [if_neg hsz] at z
              exact z.elim
          | ex c fs w3 => rw [hfe] at z; exact z.elim
          | no => rw [hfe] at z; exact z.elim
      | ex c fs w2 => rw [htt] at z; exact z.elim
      | no => rw [htt] at z; exact z.elim
    | ex c fs w2 => rw [hgt] at z; exact z.elim
    | no => rw [hgt] at z; exact z.elim
  · have ei : i = ds.length := by omega
    subst ei
    rw [List.drop_length, lcL] at z'
    rw [← z'] at z
    refine .inl ⟨wk.stop g' H' w' x' r', ?_⟩
    have pD' := r'.pin D (.lst acc) (by rw [hP]; exact upd_same)
    have xo : Xt0 g' { g' with P := g1.P, F := upd g'.F D (.lst acc) } := ⟨rfl, fun a u e => (upd_ne (ne_of_none e pD'.2.1)).trans e, fun _ _ => rfl, Nat.le_refl _⟩
    exact z _ H' { g' with P := g1.P, F := upd g'.F D (.lst acc) } ⟨x'.trans xo, rfl⟩ (pin_out r' hP (fun a z => nomatch z) pD) (.lst (SqL.of upd_same) (da.mono xo _ _))
theorem pf_lc {elt tg iter : Expr} {ifs : List Expr} {scope : Scope} {own : List (Str × Nat)} {pos : Pos} {fi : FA} {gt : FG} {tt : FT} {fe : FE} {is : List Nat} (hc : X.calm = true) (hN : X.N.Nodup) (hi : PIf X W tg iter fi) (ok : BlkOk X.N X.env.scope scope own)
    (hg : ∀ (s : Shared) (H : Hp) (C : Addr) (cl : List (Str × Addr)) (fp : List Addr), PGf (X.blk s H scope (compEnvC scope cl C X.env) fp) is tg gt)
    (ht : ∀ (s : Shared) (H : Hp) (C : Addr) (cl : List (Str × Addr)) (fp : List Addr), PTs (X.blk s H scope (compEnvC scope cl C X.env) fp) ifs (lT X.K W0 tt))
    (he : ∀ (s : Shared) (H : Hp) (C : Addr) (cl : List (Str × Addr)) (fp : List Addr), PF (X.blk s H scope (compEnvC scope cl C X.env) fp) W0 elt fe)
    (hs : ∀ x, foldedSetIterable iter X.env x = pure x := by intro _; rfl) (his : ∀ i ∈ is, i ∈ own.map (·.2) := by decide) :
    PF X W (.ListComp elt [⟨tg, iter, ifs, 0⟩] scope pos) (eLc fi gt tt fe (own.map (·.2))) := pe_imp (pe_lc hc hN hi ok hg ht he hs) (lc_of his)
theorem psf_setLc {i : Nat} {y : Str} {py : Pos} {elt tg iter : Expr} {ifs : List Expr} {scope : Scope} {own : List (Str × Nat)} {pos spos : Pos} {fi : FA} {gt : FG} {tt : FT} {fe : FE} {is : List Nat} (hc : X.calm = true) (hN : X.N.Nodup) (hy : X.N[i]? = some y) (hyl : X.env.scope.names.lookup y = some .local)
    (hsw : swapsWith (.ListComp elt [⟨tg, iter, ifs, 0⟩] scope pos) (some (.Name y py)) spos.line X.env = pure true) (hi : PIf X W tg iter fi) (ok : BlkOk X.N X.env.scope scope own)
    (hg : ∀ (s : Shared) (H : Hp) (C : Addr) (cl : List (Str × Addr)) (fp : List Addr), PGf (X.blk s H scope (compEnvC scope cl C X.env) fp) is tg gt)
    (ht : ∀ (s : Shared) (H : Hp) (C : Addr) (cl : List (Str × Addr)) (fp : List Addr), PTs (X.blk s H scope (compEnvC scope cl C X.env) fp) ifs (lT X.K W0 tt))
    (he : ∀ (s : Shared) (H : Hp) (C : Addr) (cl : List (Str × Addr)) (fp : List Addr), PF (X.blk s H scope (compEnvC scope cl C X.env) fp) W0 elt fe)
    (hs : ∀ x, foldedSetIterable iter X.env x = pure x := by intro _; rfl) (his : ∀ i ∈ is, i ∈ own.map (·.2) := by decide) :
    PSf X W (.Assign [.Name y py] (.ListComp elt [⟨tg, iter, ifs, 0⟩] scope pos) spos) (sAsg (eLc fi gt tt fe (own.map (·.2))) (gN i)) := by
  refine ps_imp (ps_setLc (g := lG X.K is gt) (tt := lT X.K W0 tt) (te := lE X.K W0 fe) hc hN hy hyl hsw hi ok hg ht he hs) fun D σ H q => ?_
  obtain ⟨g, ρ, w, hK, r, e, q⟩ := q
  refine lc_of (W := W) his σ H _ ?_
  exact lX_then hK r e q fun v H1 g1 d w1 x r1 e1 dv z => z _ H1 g1 (Xt.refl _) r1 (e1.set i dv)
end
end Td

set_option Elab.async false
set_option linter.all false
set_option maxRecDepth 100000
set_option maxHeartbeats 4000000
namespace Td
open PySem L2
/-! ### dicts of the store -/
def valD (kvs : List (Key × PyData)) (k : Key) : Option PyData := (kvs.find? fun kv => decide (kv.1 = k)).map (·.2)
def putD (kvs : List (Key × PyData)) (k : Key) (v : PyData) : List (Key × PyData) :=
  if (kvs.any fun kv => decide (kv.1 = k)) = true then kvs.map (fun kv => if kv.1 = k then (kv.1, v) else kv) else kvs ++ [(k, v)]
def mergeD (kvs more : List (Key × PyData)) : List (Key × PyData) := more.foldl (fun acc kv => putD acc kv.1 kv.2) kvs
def keyD : PyData → Option Key
  | .int i => some (.inl i)
  | .str x => some (.inr x)
  | _ => none
theorem keyD_ok {g : Gd} {v : V} {d : PyData} (h : Dq g v d) {k : Key} (e : keyD d = some k) : v = kV k := by
  cases h <;> cases e <;> rfl
theorem KvR.val {g : Gd} : ∀ {ks : List (Key × V)} {kvs : List (Key × PyData)} {k : Key} {d : PyData}, KvR g ks kvs → valD kvs k = some d → ∃ v, valV ks k = some v ∧ Dq g v d
  | _, _, _, _, .nil, e => by simp [valD] at e
  | p :: ks, q :: kvs, k, d, .cons h t, e => by
    have hk : p.1 = q.1 := h.1
    by_cases z : q.1 = k
    · have e' : some q.2 = some d := by simpa [valD, List.find?_cons, z] using e
      cases e'
      exact ⟨p.2, valV_pos (hk.trans z), h.2⟩
    · have e' : valD kvs k = some d := by simpa [valD, List.find?_cons, z] using e
      obtain ⟨v, h1, h2⟩ := KvR.val t e'
      exact ⟨v, by rw [valV_neg (by rw [hk]; exact z)]; exact h1, h2⟩
theorem KvR.any {g : Gd} {k : Key} : ∀ {ks : List (Key × V)} {kvs : List (Key × PyData)}, KvR g ks kvs → (ks.any fun kv => decide (kv.1 = k)) = kvs.any fun kv => decide (kv.1 = k)
  | _, _, .nil => rfl
  | _, _, .cons h t => by rw [List.any_cons, List.any_cons, h.1, KvR.any t]
theorem KvR.map_set {g : Gd} {k : Key} {v : V} {d : PyData} (hd : Dq g v d) : ∀ {ks : List (Key × V)} {kvs : List (Key × PyData)}, KvR g ks kvs → KvR g (ks.map (fun kv => if kv.1 = k then (kv.1, v) else kv)) (kvs.map (fun kv => if kv.1 = k then (kv.1, d) else kv))
  | _, _, .nil => .nil
  | p :: ks, q :: kvs, .cons h t => by
    refine .cons ?_ (KvR.map_set hd t)
    have hk : p.1 = q.1 := h.1
    dsimp only
    by_cases z : q.1 = k
    · rw [if_pos (hk.trans z), if_pos z]; exact ⟨hk, hd⟩
    · rw [if_neg (by rw [hk]; exact z), if_neg z]; exact h
theorem KvR.append {g : Gd} {κ : Type} : ∀ {ks ls : List (κ × V)} {kvs lvs : List (κ × PyData)}, KvR g ks kvs → KvR g ls lvs → KvR g (ks ++ ls) (kvs ++ lvs)
  | _, _, _, _, .nil, s => s
  | _, _, _, _, .cons h t, s => .cons h (KvR.append t s)
theorem KvR.length {g : Gd} {κ : Type} {ks : List (κ × V)} {kvs : List (κ × PyData)} (h : KvR g ks kvs) : ks.length = kvs.length := Paired.length h
theorem KvR.put {g : Gd} {k : Key} {v : V} {d : PyData} {ks : List (Key × V)} {kvs : List (Key × PyData)} (h : KvR g ks kvs) (hd : Dq g v d) : KvR g (putK ks k v) (putD kvs k d) := by
  unfold putK putD
  rw [h.any]
  split
  · exact h.map_set hd
  · exact h.append (.cons ⟨rfl, hd⟩ .nil)
theorem KvR.merge {g : Gd} : ∀ {more : List (Key × V)} {mores : List (Key × PyData)} {ks : List (Key × V)} {kvs : List (Key × PyData)}, KvR g more mores → KvR g ks kvs → KvR g (mergeK ks more) (mergeD kvs mores)
  | _, _, _, _, .nil, s => s
  | p :: _, q :: _, _, _, .cons h t, s => by
    unfold mergeK mergeD
    rw [List.foldl_cons, List.foldl_cons]
    have hk : p.1 = q.1 := h.1
    rw [hk]
    exact KvR.merge t (s.put h.2)
section
variable {X : Cx} {W : WX}
def eDg (fa fb : FE) : FE := fun ρ w => (fa ρ w).bind fun d w1 => (fb ρ w1).bind fun e w2 => Oc.of ((dkOf w2 d).bind fun kvs => (keyD e).bind fun k => valD kvs k) w2
theorem pf_dget {o i : Expr} {pos : Pos} {fa fb : FE} (hu : X.A.units + 1 < cLine) (ho : PF X W o fa) (hi : PF X W i fb) (hs : NoSl i := by exact fun _ _ => rfl) : PF X W (.Subscript o i pos) (eDg fa fb) := by
  refine pe_imp (pe_dget hu ho hi hs) fun σ H Q ⟨g, ρ, w, hK, r, e, q⟩ => ?_
  refine lX_bind hK r e q fun v H1 g1 d w1 x r1 e1 dv z => ?_
  refine lX_bind (x.k.trans hK) r1 e1 z fun u H2 g2 c w2 x2 r2 e2 du z2 => ?_
  cases hz : (dkOf w2 d).bind fun kvs => (keyD c).bind fun k => valD kvs k with
  | none => rw [hz] at z2; exact z2.elim
  | some y =>
    rw [hz] at z2
    obtain ⟨kvs, h1, hz⟩ := Option.bind_eq_some_iff.mp hz
    obtain ⟨k, h2, h3⟩ := Option.bind_eq_some_iff.mp hz
    obtain ⟨l, xs, rfl, _, _, _, hH, kv⟩ := dkOf_ok r2 (dv.mono x2.toXt0 _ _) h1
    obtain ⟨v', h4, h5⟩ := kv.val h3
    have ek := keyD_ok du h2
    subst ek
    refine ⟨_, v', rfl, ?_, z2 _ H2 g2 (Xt.refl _) r2 h5⟩
    rw [← h4]
    exact DGet.k hH
/-- the store's cell l is written -/
theorem Rp.write {g : Gd} {H : Hp} {w : Ws} (r : Rp g H w) {l : Nat} {ob ob' : Ob} {o : HO} (hl : w[l]? = some ob) (hn : g.F (g.μ l) = none) (hno : ∀ a b, H (g.μ l) = some b → b ≠ .own a) (ho : ObR g (upd H (g.μ l) o) (g.μ l) ob') : Rp g (upd H (g.μ l) o) (w.set l ob') := by
  have hlt : l < g.n := by rw [r.len]; exact (List.getElem?_eq_some_iff.mp hl).1
  obtain ⟨o0, h0⟩ := (r.cell l ob hl).there
  refine ⟨fun a u e => ?_, by rw [List.length_set]; exact r.len, fun m ob2 e => ?_, r.inj, fun a u e => ?_⟩
  · rw [upd_ne (ne_of_none e hn)]
    exact r.fro a u e
  · by_cases q : l = m
    · subst q
      rw [List.getElem?_set_self (by rw [← r.len]; exact hlt)] at e
      cases e
      exact ho
    · rw [List.getElem?_set_ne q] at e
      have hm : m < g.n := by rw [r.len]; exact (List.getElem?_eq_some_iff.mp e).1
      have nm : g.μ m ≠ g.μ l := fun z => q (r.inj m l hm hlt z).symm
      have c := r.cell m ob2 e
      cases ob2 with
      | lst ds =>
        obtain ⟨hn, xs, h, d⟩ := c
        exact ⟨hn, xs, (upd_ne nm).trans h, d⟩
      | dK kvs =>
        obtain ⟨hn, ks, h, d⟩ := c
        exact ⟨hn, ks, (upd_ne nm).trans h, d⟩
      | ins C fs =>
        obtain ⟨hn, dx, gs, h, hd, hn2, d⟩ := c
        have nx : dx ≠ g.μ l := fun z => by rw [z] at hd; exact hno _ _ hd rfl
        exact ⟨hn, dx, gs, (upd_ne nm).trans h, (upd_ne nx).trans hd, hn2, d⟩
      | dead =>
        obtain ⟨o2, h⟩ := c
        exact ⟨o2, (upd_ne nm).trans h⟩
  · obtain ⟨q1, q2, q3⟩ := r.pin a u e
    exact ⟨(upd_ne (fun z => q3 l hlt z.symm)).trans q1, q2, q3⟩
/-- d[k] = v -/
def locOf : PyData → Option Nat
  | .dict [(.int l, .none)] => some l.toNat
  | _ => none
def sDp (fa fb fv : FE) : FS := fun ρ w => (fv ρ w).thenS ρ fun v w1 => (fa ρ w1).thenS ρ fun d w2 => (fb ρ w2).thenS ρ fun e w3 =>
  match dkOf w3 d, keyD e, locOf d with
  | some kvs, some k, some l => if kvs.length < sizeLine then .nx ρ (w3.set l (.dK (putD kvs k v))) else .no
  | _, _, _ => .no
theorem psf_dput {o i value : Expr} {pos pos' : Pos} {fa fb fv : FE} (hu : X.A.units + 1 < cLine) (ho : PF X W o fa) (hi : PF X W i fb) (hv : PF X W value fv) (hs : swapsWith value (some (.Subscript o i pos')) pos.line X.env = pure false := by rfl) : PSf X W (.Assign [.Subscript o i pos'] value pos) (sDp fa fb fv) := by
  refine ps_imp (ps_dput hu ho hi hv hs) fun D σ H ⟨g, ρ, w, hK, r, e, q⟩ => ?_
  refine lX_then hK r e q fun v H1 g1 dv w1 x r1 e1 hv' z => ?_
  refine lX_then (x.k.trans hK) r1 e1 z fun a H2 g2 d w2 x2 r2 e2 hd z2 => ?_
  refine lX_then (x2.k.trans (x.k.trans hK)) r2 e2 z2 fun u H3 g3 c w3 x3 r3 e3 hc z3 => ?_
  split at z3
  · rename_i kvs k l h1 h2 h3
    split at z3
    · rename_i hsz
      obtain ⟨l', xs, rfl, hd', hw, hn, hH, kv⟩ := dkOf_ok r3 (hd.mono x3.toXt0 _ _) h1
      have el : l = l' := by rw [hd'] at h3; simp [locOf] at h3; exact h3.symm
      subst el
      have ek := keyD_ok hc h2
      subst ek
      have kv2 := kv.put (k := k) (hv'.mono (x2.toXt0.trans x3.toXt0) _ _)
      refine ⟨_, _, rfl, DPut.k hH (by rw [kv.length]; exact hsz), ?_⟩
      refine z3 σ _ g3 (Xt.refl _) (r3.write hw hn (fun a b hb z => ?_) ⟨hn, _, upd_same, kv2⟩) e3
      rw [hH] at hb
      cases hb
      cases z
    · exact z3.elim
  · exact z3.elim
end
end Td

set_option Elab.async false
set_option linter.all false
set_option maxRecDepth 100000
set_option maxHeartbeats 4000000
namespace Td
open PySem L2
theorem lX_w0 {α β : Type} {K : PySem.W.Frag} {W : WX} {R : Gd → β → α → Prop} {f : Ev → Ws → Oc α} : ∀ σ H Q, lX K W0 R f σ H Q → lX K W R f σ H Q := fun σ H Q ⟨g, ρ, w, hK, r, e, q⟩ => by
  refine ⟨g, ρ, w, hK, r, e, ?_⟩
  cases z : f ρ w with
  | ok d w1 => rw [z] at q; exact q
  | ex c fs w1 =>
    rw [z] at q
    intro dd H1 g1 x r1 y
    exact (q dd H1 g1 x r1 y).elim
  | no => rw [z] at q; exact q.elim
theorem pf_w0 {X : Cx} {W : WX} {e : Expr} {f : FE} (h : PF X W e f) : PF X W0 e f := pe_imp h lX_w0
/-- what others hold goes into the store -/
theorem pin_alloc {g : Gd} {H : Hp} {w : Ws} {P : Hp} {D : Addr} {o o' : HO} {ob : Ob} (r : Rp g H w) (hP : g.P = upd P D o) (hno : ∀ a, o ≠ .own a) (hD : P D = none)
    (ho : ObR { g with P := P, μ := fun l => if l = g.n then D else g.μ l, n := g.n + 1 } (upd H D o') D ob) :
    Rp { g with P := P, μ := fun l => if l = g.n then D else g.μ l, n := g.n + 1 } (upd H D o') (w ++ [ob]) := by
  obtain ⟨h1, h2, h3⟩ := r.pin D o (by rw [hP]; exact upd_same)
  have x : Xt0 g { g with P := P, μ := fun l => if l = g.n then D else g.μ l, n := g.n + 1 } := ⟨rfl, fun a u e => e, fun l hl => if_neg (by omega), Nat.le_succ _⟩
  refine ⟨fun a u e => ?_, ?_, fun l ob2 e => ?_, fun l m hl hm e => ?_, fun a u e => ?_⟩
  · rw [upd_ne (ne_of_none e h2)]
    exact r.fro a u e
  · show g.n + 1 = _
    rw [List.length_append, r.len]
    rfl
  · by_cases q : l = g.n
    · subst q
      rw [List.getElem?_append_right (by rw [r.len]; exact Nat.le_refl _), r.len, Nat.sub_self] at e
      cases e
      show ObR _ _ (if g.n = g.n then D else g.μ g.n) ob
      rw [if_pos rfl]
      exact ho
    · have hl : l < w.length := by
        have := (List.getElem?_eq_some_iff.mp e).1
        rw [List.length_append, List.length_singleton] at this
        rw [← r.len] at this ⊢
        omega
      rw [List.getElem?_append_left hl] at e
      have c := r.cell l ob2 e
      have nD := h3 l (by rw [r.len]; exact hl)
      show ObR _ _ (if l = g.n then D else g.μ l) ob2
      rw [if_neg q]
      cases ob2 with
      | lst ds =>
        obtain ⟨hn, xs, h, d⟩ := c
        exact ⟨hn, xs, (upd_ne nD).trans h, d.mono x _ _⟩
      | dK kvs =>
        obtain ⟨hn, ks, h, d⟩ := c
        exact ⟨hn, ks, (upd_ne nD).trans h, d.mono x⟩
      | ins C fs =>
        obtain ⟨hn, dx, gs, h, hd, hn2, d⟩ := c
        have nx : dx ≠ D := fun z => by rw [z, h1] at hd; exact hno _ (Option.some.inj hd)
        exact ⟨hn, dx, gs, (upd_ne nD).trans h, (upd_ne nx).trans hd, hn2, d.mono x⟩
      | dead =>
        obtain ⟨o2, h⟩ := c
        exact ⟨o2, (upd_ne nD).trans h⟩
  · have hl : l < g.n + 1 := hl
    have hm : m < g.n + 1 := hm
    have e : (if l = g.n then D else g.μ l) = (if m = g.n then D else g.μ m) := e
    by_cases q1 : l = g.n
    · by_cases q2 : m = g.n
      · rw [q1, q2]
      · rw [if_pos q1, if_neg q2] at e
        exact absurd e.symm (h3 m (by omega))
    · by_cases q2 : m = g.n
      · rw [if_neg q1, if_pos q2] at e
        exact absurd e (h3 l (by omega))
      · rw [if_neg q1, if_neg q2] at e
        exact r.inj l m (by omega) (by omega) e
  · have e : P a = some u := e
    have na : a ≠ D := fun z => by rw [z, hD] at e; cases e
    obtain ⟨q1, q2, q3⟩ := r.pin a u (by rw [hP, upd_ne na]; exact e)
    refine ⟨(upd_ne na).trans q1, q2, fun l hl z => ?_⟩
    have hl : l < g.n + 1 := hl
    have z : (if l = g.n then D else g.μ l) = a := z
    by_cases q : l = g.n
    · rw [if_pos q] at z
      exact na z.symm
    · rw [if_neg q] at z
      exact q3 l (by omega) z
theorem alloc_xt {g : Gd} {P : Hp} {D : Addr} : Xt0 g { g with P := P, μ := fun l => if l = g.n then D else g.μ l, n := g.n + 1 } := ⟨rfl, fun a u e => e, fun l hl => if_neg (by omega), Nat.le_succ _⟩
theorem alloc_ref {g : Gd} {P : Hp} {D : Addr} : Dq { g with P := P, μ := fun l => if l = g.n then D else g.μ l, n := g.n + 1 } (.ref D) (rf g.n) := by
  have h : Dq { g with P := P, μ := fun l => if l = g.n then D else g.μ l, n := g.n + 1 } (.ref ((fun l => if l = g.n then D else g.μ l) g.n)) (rf g.n) := .ref (Nat.lt_succ_self _)
  simpa using h
/-! ### {k: v, ..} -/
def pairsF : List (FE × FE) → Ev → Ws → Oc (List (PyData × PyData))
  | [], _, w => .ok [] w
  | (fk, fv) :: r, ρ, w => (fk ρ w).bind fun k w1 => (fv ρ w1).bind fun v w2 => (pairsF r ρ w2).bind fun ps w3 => .ok ((k, v) :: ps) w3
def PrR (g : Gd) : List (V × V) → List (PyData × PyData) → Prop := Paired fun p q => Dq g p.1 q.1 ∧ Dq g p.2 q.2
theorem PrR.mono {g g' : Gd} (x : Xt0 g g') : ∀ {ps : List (V × V)} {qs : List (PyData × PyData)}, PrR g ps qs → PrR g' ps qs
  | _, _, .nil => .nil
  | _, _, .cons h t => .cons ⟨h.1.mono x _ _, h.2.mono x _ _⟩ (PrR.mono x t)
theorem pairs_of {K : PySem.W.Frag} {W : WX} : ∀ (fps : List (FE × FE)) σ H Q, lX K W PrR (pairsF fps) σ H Q → tPairs (fps.map fun p => (lE K W p.1, lE K W p.2)) σ H Q
  | [], σ, H, Q, ⟨g, ρ, w, hK, r, e, q⟩ => q [] H g (Xt.refl g) r .nil
  | (fk, fv) :: rest, σ, H, Q, ⟨g, ρ, w, hK, r, e, q⟩ => by
    refine lX_bind hK r e q fun k H1 g1 dk w1 x1 r1 e1 hk z1 => ?_
    refine lX_bind (x1.k.trans hK) r1 e1 z1 fun v H2 g2 dv w2 x2 r2 e2 hv z2 => ?_
    refine pairs_of rest σ H2 _ ?_
    refine lX_bind (x2.k.trans (x1.k.trans hK)) r2 e2 z2 fun ps H3 g3 dps w3 x3 r3 e3 hps z3 => ?_
    exact z3 _ H3 g3 (Xt.refl _) r3 (.cons ⟨hk.mono (x2.toXt0.trans x3.toXt0) _ _, hv.mono x3.toXt0 _ _⟩ hps)
def keysOf : List (PyData × PyData) → Option (List (Key × PyData))
  | [] => some []
  | (k, v) :: r => match keyD k, keysOf r with
    | some k, some kvs => some ((k, v) :: kvs)
    | _, _ => none
theorem keysOf_ok {g : Gd} : ∀ {ps : List (V × V)} {qs : List (PyData × PyData)} {kvs : List (Key × PyData)}, PrR g ps qs → keysOf qs = some kvs → ∃ ks : List (Key × V), ps = ks.map (fun kv => (kV kv.1, kv.2)) ∧ KvR g ks kvs
  | _, _, _, .nil, e => by cases e; exact ⟨[], rfl, .nil⟩
  | (a, b) :: _, (c, d) :: _, _, .cons h t, e => by
    unfold keysOf at e
    split at e
    · rename_i k kvs h1 h2
      cases e
      obtain ⟨ks, rfl, hk⟩ := keysOf_ok t h2
      have ek := keyD_ok h.1 h1
      have ek : a = kV k := ek
      subst ek
      exact ⟨(k, b) :: ks, rfl, .cons ⟨rfl, h.2⟩ hk⟩
    · cases e
def eDisp (fps : List (FE × FE)) : FE := fun ρ w => match pairsF fps ρ w with
  | .ok ps w1 => match keysOf ps with
    | some kvs => if kvs.length ≤ 15 then .ok (rf w1.length) (w1 ++ [.dK (mergeD [] kvs)]) else .no
    | none => .no
  | _ => .no
theorem pf_disp {X : Cx} {W : WX} {pos : Pos} {keys : List (Option Expr)} {values : List Expr} {fps : List (FE × FE)} (h : PPs X pos keys values (fps.map fun p => (lE X.K W0 p.1, lE X.K W0 p.2))) (hall : keys.all (·.isSome) = true := by rfl) (hl : keys.length = values.length := by rfl) (h0 : keys ≠ [] := by exact fun z => by cases z)
    (h15 : keys.length ≤ 15 := by decide) : PF X W (.Dict keys values pos) (eDisp fps) := by
  refine pe_imp (pe_disp h hall hl h0 h15) fun σ H Q ⟨g, ρ, w, hK, r, e, q⟩ => ?_
  intro p hp
  have pP : g.P p = none := by
    cases h : g.P p with
    | none => rfl
    | some o => rw [(r.pin p o h).1] at hp; cases hp
  have r0 := pin_new r hp (.dK [])
  refine pairs_of fps σ _ _ ⟨g.pn (upd g.P p (.dK [])), ρ, w, hK, r0, e.mono (g.pn_xt _), ?_⟩
  unfold eDisp at q
  cases hz : pairsF fps ρ w with
  | ok ps w1 =>
    rw [hz] at q
    intro vs H1 g1 x r1 hps
    simp only at q
    split at q
    · rename_i kvs hk
      split at q
      · rename_i hlen
        obtain ⟨ks, rfl, kv⟩ := keysOf_ok hps hk
        have hP1 : g1.P = upd g.P p (.dK []) := x.p
        refine ⟨(r1.pin p _ (by rw [hP1]; exact upd_same)).1, ks, rfl, by rw [kv.length]; exact hlen, ?_⟩
        have hn := (r1.pin p _ (by rw [hP1]; exact upd_same)).2.1
        have ra := pin_alloc (o' := .dK (mergeK [] ks)) (ob := .dK (mergeD [] kvs)) r1 hP1 (fun a z => nomatch z) pP ⟨hn, _, upd_same, (KvR.merge kv .nil).mono alloc_xt⟩
        refine q _ _ _ ⟨((g.pn_xt _).trans x.toXt0).trans alloc_xt, rfl⟩ ra ?_
        rw [← r1.len]
        exact alloc_ref
      · exact q.elim
    · exact q.elim
  | ex c fs w1 => rw [hz] at q; exact q.elim
  | no => rw [hz] at q; exact q.elim
theorem ppsf_nil {X : Cx} {pos : Pos} : PPs X pos [] [] (([] : List (FE × FE)).map fun p => (lE X.K W0 p.1, lE X.K W0 p.2)) := pps_nil
theorem ppsf_cons {X : Cx} {pos : Pos} {k v : Expr} {ks : List (Option Expr)} {vs : List Expr} {fk fv : FE} {fps : List (FE × FE)} (hk : PF X W0 k fk) (hv : PF X W0 v fv) (hr : PPs X pos ks vs (fps.map fun p => (lE X.K W0 p.1, lE X.K W0 p.2))) :
    PPs X pos (some k :: ks) (v :: vs) (((fk, fv) :: fps).map fun p => (lE X.K W0 p.1, lE X.K W0 p.2)) := pps_cons hk hv hr

/-! ### repr -/
section
variable {X : Cx} {W : WX}
def reprD (_ : Ws) : List PyData → Option PyData
  | [d] => if SeqAt.shaped d && d.showable && szOk d.shown.length then some (.str d.shown) else none
  | _ => none
theorem call_reprX (hg : X.A.guards = some []) (hu : X.A.units + 70 < cLine) : CallR X (.builtin "repr") (rDN X.K reprD) := by
  intro pins s σ H xs us Q I rv ⟨g, w, ds, z, hK, r, dx, hz, q⟩
  unfold reprD at hz
  split at hz
  · rename_i d
    split at hz
    · rename_i hs
      cases hz
      rw [Bool.and_eq_true, Bool.and_eq_true] at hs
      obtain ⟨⟨h1, h2⟩, h3⟩ := hs
      have h3 := of_decide_eq_true h3
      cases dx with
      | cons d0 dn =>
        cases dn
        cases rv with
        | cons rv0 rvn =>
          cases rvn
          have fin : ∀ t tk, EP X pins σ Q (.str d.shown t) { s with toks := tk } := fun t tk => ⟨.str d.shown, H, I.tok tk, ⟨t, rfl⟩, q _ H g (Xt.refl g) r (.str _)⟩
          cases d0 with
          | non => cases rv0; exact PySem.P.repr_of_none (fin _ _)
          | bl b => cases rv0; exact PySem.P.repr_of_bool (fin _ _)
          | int i =>
            obtain ⟨t, rfl⟩ := rv0
            exact PySem.P.repr_of_int (by simpa [PyData.showable] using h2) (fin _ _)
          | str y =>
            obtain ⟨t, rfl⟩ := rv0
            exact PySem.P.repr_of_str (fin _ _) h3
          | lst sq da =>
            obtain ⟨as, rd⟩ := Dp.reads I _ _ _ (hK ▸ (Dq.lst sq da).dp r.fro _ _ (shaped_lay h1)) rv0
            cases rv0
            have hdep : PyData.depth _ ≤ 64 := of_decide_eq_true ((Bool.and_eq_true _ _).mp h1).2
            refine repr_of_reads' rd h2 (PyData.noDict_hsm (PyData.hasDict_of_canLay _ (shaped_lay h1))) hg (by omega) (fun _ _ e => e) (fun h' u tk hk => ?_) h3
            exact ⟨.str _, H, I.kept hk, ⟨u, rfl⟩, q _ H g (Xt.refl g) r (.str _)⟩
          | tup sq da =>
            obtain ⟨as, rd⟩ := Dp.reads I _ _ _ (hK ▸ (Dq.tup sq da).dp r.fro _ _ (shaped_lay h1)) rv0
            cases rv0
            have hdep : PyData.depth _ ≤ 64 := of_decide_eq_true ((Bool.and_eq_true _ _).mp h1).2
            refine repr_of_reads' rd h2 (PyData.noDict_hsm (PyData.hasDict_of_canLay _ (shaped_lay h1))) hg (by omega) (fun _ _ e => e) (fun h' u tk hk => ?_) h3
            exact ⟨.str _, H, I.kept hk, ⟨u, rfl⟩, q _ H g (Xt.refl g) r (.str _)⟩
          | ref hl =>
            have := shaped_lay h1
            simp [PyData.canLay0] at this
    · cases hz
  · cases hz
end
end Td

set_option Elab.async false
set_option linter.all false
set_option maxRecDepth 100000
set_option maxHeartbeats 4000000
namespace Td
open PySem L2 PySem.Spec PyProof.Rows
/-! ### what leaves a call: objects that nobody sees any more are dropped -/
mutual
def bnd (n : Nat) : PyData → Bool
  | .list xs => bndA n xs
  | .tuple xs => bndA n xs
  | .dict kvs => bndK n kvs
  | _ => true
def bndA (n : Nat) : List PyData → Bool
  | [] => true
  | x :: xs => bnd n x && bndA n xs
def bndK (n : Nat) : List (PyData × PyData) → Bool
  | [(.int l, .none)] => decide (l < n)
  | _ => false
end
def bndO (n : Nat) : Ob → Bool
  | .lst xs => bndA n xs
  | .dK kvs => bndA n (kvs.map (·.2))
  | .ins _ fs => bndA n (fs.map (·.2))
  | .dead => true
def Gd.cut (g : Gd) (n : Nat) : Gd := { g with n := n }
mutual
theorem Dq.cut {g : Gd} {n : Nat} : ∀ (d : PyData) (v : V), bnd n d = true → Dq g v d → Dq (g.cut n) v d
  | .none, _, _, h => by cases h; exact .non
  | .bool _, _, _, h => by cases h; exact .bl _
  | .int _, _, _, h => by cases h; exact .int _
  | .str _, _, _, h => by cases h; exact .str _
  | .list ds, _, c, h => by
    cases h with
    | lst a b => exact .lst a (DqA.cutA ds _ (by simpa [bnd] using c) b)
  | .tuple ds, _, c, h => by
    cases h with
    | tup a b => exact .tup a (DqA.cutA ds _ (by simpa [bnd] using c) b)
  | .dict _, _, c, h => by
    cases h with
    | @ref l hl =>
      have : l < n := by simpa [bnd, bndK] using c
      exact Dq.ref (g := g.cut n) this
theorem DqA.cutA {g : Gd} {n : Nat} : ∀ (ds : List PyData) (vs : List V), bndA n ds = true → DqA g vs ds → DqA (g.cut n) vs ds
  | [], _, _, h => by cases h; exact .nil
  | d :: ds, _, c, h => by
    have c' : bnd n d = true ∧ bndA n ds = true := by simpa [bndA] using c
    cases h with
    | cons a b => exact .cons (Dq.cut d _ c'.1 a) (DqA.cutA ds _ c'.2 b)
end
theorem KvR.cut {κ : Type} {g : Gd} {n : Nat} : ∀ {ks : List (κ × V)} {kvs : List (κ × PyData)}, bndA n (kvs.map (·.2)) = true → KvR g ks kvs → KvR (g.cut n) ks kvs
  | _, _, _, .nil => .nil
  | _, _, c, .cons h t => by
    have c' := c
    simp only [List.map_cons, bndA, Bool.and_eq_true] at c'
    exact .cons ⟨h.1, h.2.cut _ _ c'.1⟩ (KvR.cut c'.2 t)
theorem ObR.cut {g : Gd} {n : Nat} {H : Hp} {a : Addr} {ob : Ob} (c : bndO n ob = true) (h : ObR g H a ob) : ObR (g.cut n) H a ob := by
  cases ob with
  | lst ds =>
    obtain ⟨hn, xs, h, d⟩ := h
    exact ⟨hn, xs, h, d.cutA _ _ c⟩
  | dK kvs =>
    obtain ⟨hn, ks, h, d⟩ := h
    exact ⟨hn, ks, h, d.cut c⟩
  | ins C fs =>
    obtain ⟨hn, dx, gs, h, hd, hn2, d⟩ := h
    exact ⟨hn, dx, gs, h, hd, hn2, d.cut c⟩
  | dead => exact h
theorem Rp.cut {g : Gd} {H : Hp} {w : Ws} {n : Nat} (r : Rp g H w) (hn : n ≤ w.length) (c : (w.take n).all (bndO n) = true) : Rp (g.cut n) H (w.take n) where
  fro := r.fro
  len := by show n = _; rw [List.length_take]; omega
  cell := fun l ob e => by
    have hl : l < n := by
      have := (List.getElem?_eq_some_iff.mp e).1
      rw [List.length_take] at this
      omega
    have e' := e
    rw [List.getElem?_take_of_lt hl] at e
    exact (r.cell l ob e).cut (List.all_eq_true.mp c ob (List.mem_of_getElem? e'))
  inj := fun l m hl hm e => r.inj l m (by rw [r.len]; exact Nat.lt_of_lt_of_le hl hn) (by rw [r.len]; exact Nat.lt_of_lt_of_le hm hn) e
  pin := fun a u e => let ⟨h1, h2, h3⟩ := r.pin a u e; ⟨h1, h2, fun l hl => h3 l (by rw [r.len]; exact Nat.lt_of_lt_of_le hl hn)⟩
abbrev FF := List PyData → Ws → Oc PyData
def trimW (n : Nat) (w : Ws) : Bool := decide (n ≤ w.length) && (w.take n).all (bndO n)
def leave (n : Nat) : Os → Oc PyData
  | .nx _ w => if trimW n w then .ok .none (w.take n) else .ok .none w
  | .rt d w => if trimW n w && bnd n d then .ok d (w.take n) else .ok d w
  | .ex _ c fs w => if trimW n w && bndA n (fs.map (·.2)) then .ex c fs (w.take n) else .ex c fs w
  | _ => .no
def startE (m : Nat) (ds : List PyData) : Ev := ds.map some ++ List.replicate (m - ds.length) none
def defF (m : Nat) (n : Nat) (bf : FS) : FF := fun ds w => if ds.length = n then leave w.length (bf (startE m ds) w) else .no

/-! ### what a def promises -/
def oF (g : Gd) (Q : VK) (E : XK) : Oc PyData → Prop
  | .ok d w => ∀ v H g', Xt g g' → Rp g' H w → Dq g' v d → Q v H
  | .ex c fs w => ∀ dd H g', Xt g g' → Rp g' H w → XdR g' H fs dd → E c dd H
  | .no => False
def spF (K : PySem.W.Frag) (n : Nat) (gf : FF) : Sp := fun vs H Q E => ∃ g w ds, g.K = K ∧ Rp g H w ∧ DqA g vs ds ∧ vs.length = n ∧ oF g Q E (gf ds w)
structure FnG (P : Program) (w : World) (K : PySem.W.Frag) (mg : Str → Option Value) (base : Heap) (k : Nat) (f : Addr) (fd : FuncData) (ps : List Str) (gf : FF) : Prop where
  run : ∀ (A : Around) (outer : List Env) (s : Shared) (H : Hp) (args : Args) (us : List Value) (vs : List V) (Q : VK) (E : XK), Room k A → A.guards = some [] → Env0 P w K mg base A outer s H → BindsTo s fd args (ps.zip us) → Vals vs us → spF K ps.length gf vs H Q E →
    codeAny (model P w) A (.call (.ref f) args) (CR (CX P w) outer P w H s Q E) s
theorem FnG.mono {P : Program} {w : World} {K : PySem.W.Frag} {mg : Str → Option Value} {base : Heap} {j k : Nat} {f : Addr} {fd : FuncData} {ps : List Str} {gf : FF} (F : FnG P w K mg base j f fd ps gf) (h : j ≤ k) : FnG P w K mg base k f fd ps gf :=
  ⟨fun A outer s H args us vs Q E hr => F.run A outer s H args us vs Q E (hr.mono h)⟩
theorem FnG.eq {P : Program} {w : World} {K : PySem.W.Frag} {mg : Str → Option Value} {base : Heap} {k : Nat} {f : Addr} {fd : FuncData} {ps : List Str} {gf gf' : FF} (F : FnG P w K mg base k f fd ps gf) (h : ∀ ds w, gf' ds w = .no ∨ gf ds w = gf' ds w) : FnG P w K mg base k f fd ps gf' :=
  ⟨fun A outer s H args us vs Q E hr hg e0 hb hv ⟨g, w', ds, hK, r, da, hl, q⟩ => F.run A outer s H args us vs Q E hr hg e0 hb hv ⟨g, w', ds, hK, r, da, hl, by
    rcases h ds w' with h | h
    · rw [h] at q; exact q.elim
    · rw [h]; exact q⟩⟩
theorem EnR.begin {g : Gd} {N : List Str} {vs : List V} {ds : List PyData} (h : DqA g vs ds) : EnR g (L2.start N vs) (startE N.length ds) := by
  refine ⟨by unfold L2.start startE; simp [h.length], fun i d e => ?_⟩
  unfold startE at e
  unfold L2.start
  by_cases hi : i < ds.length
  · rw [List.getElem?_append_left (by simpa using hi), List.getElem?_map] at e
    obtain ⟨d', h1, h2⟩ := Option.map_eq_some_iff.mp e
    cases h2
    obtain ⟨v, h3, h4⟩ := h.get h1
    exact ⟨v, by rw [List.getElem?_append_left (by simpa [h.length] using hi), List.getElem?_map, h3]; rfl, h4⟩
  · rw [List.getElem?_append_right (by simpa using hi), List.getElem?_replicate] at e
    split at e <;> cases e
theorem XdR.cut {g : Gd} {n : Nat} {H : Hp} {fs : List (Str × PyData)} {dd : Option Addr} (hn : n ≤ g.n) (c : bndA n (fs.map (·.2)) = true) (h : XdR g H fs dd) : XdR (g.cut n) H fs dd := by
  cases dd with
  | none => exact h
  | some d =>
    obtain ⟨h1, h2, gs, h3, h4⟩ := h
    exact ⟨h1, fun l hl => h2 l (Nat.lt_of_lt_of_le hl hn), gs, h3, h4.cut c⟩
theorem Xt.cut {g g' : Gd} (x : Xt g g') : Xt g (g'.cut g.n) := ⟨⟨x.k, x.ex, x.at_, Nat.le_refl _⟩, x.p⟩
section
variable {P : Program} {w : World} {K : PySem.W.Frag} {mg : Str → Option Value} {base : Heap}
theorem leave_ok {g : Gd} {Q : VK} {E : XK} {H : Hp} {ws : Ws} (r : Rp g H ws) {o : Os} (h : oF g Q E (leave ws.length o)) : oSt (fun c d _ H => E c d H) g { nx := fun _ H' => Q .non H', rt := Q } o := by
  have hn := r.len
  cases o with
  | nx ρ w' =>
    intro σ H' g' x r' e'
    simp only [leave] at h
    split at h
    · rename_i ht
      rw [trimW, Bool.and_eq_true] at ht
      have := h .non H' (g'.cut g.n) x.cut (by rw [hn]; exact r'.cut (of_decide_eq_true ht.1) ht.2) .non
      exact this
    · exact h .non H' g' x r' .non
  | rt d w' =>
    intro v H' g' x r' dv
    simp only [leave] at h
    split at h
    · rename_i ht
      rw [trimW, Bool.and_eq_true, Bool.and_eq_true] at ht
      exact h v H' (g'.cut g.n) x.cut (by rw [hn]; exact r'.cut (of_decide_eq_true ht.1.1) ht.1.2) (by rw [hn]; exact dv.cut _ _ ht.2)
    · exact h v H' g' x r' dv
  | ex ρ c fs w' =>
    intro dd σ H' g' x r' e' xd
    simp only [leave] at h
    split at h
    · rename_i ht
      rw [trimW, Bool.and_eq_true, Bool.and_eq_true] at ht
      exact h dd H' (g'.cut g.n) x.cut (by rw [hn]; exact r'.cut (of_decide_eq_true ht.1.1) ht.1.2) (by rw [hn]; exact xd.cut (by rw [← hn]; exact x.le) ht.2)
    · exact h dd H' g' x r' xd
  | bk ρ w' => exact h.elim
  | ct ρ w' => exact h.elim
  | no => exact h.elim
/-- THE RULE for a def, by its body -/
theorem fnG_of {x qual : Str} {st : Stmt} {f : Addr} {fd : FuncData} {N ps : List Str} {k : Nat} {bf : FS} (F : Fun K x qual st f fd) (S : FnScope N ps (defScope st))
    (hbody : ∀ (cdv : Value) (A : Around) (outer : List Env) (s : Shared) (H : Hp) (E : XK), Room k (A.deeper (envOfC qual (defScope st) s.heap.objs.size f cdv)) → A.guards = some [] →
      PSsf (cxOf (CX P w) P w K mg base N qual (defScope st) f cdv A outer s H E) (fun c d _ H => E c d H) (defBody st) bf) : FnG P w K mg base (k + 1) f fd ps (defF N.length ps.length bf) := by
  obtain ⟨oc, od, kV, doc, pm, an, cdv, ct, osl, rfl, lk, hcd⟩ := F.ex
  refine ⟨fun A outer s H args us vs Q E hr hg e0 hb hv hsp => ?_⟩
  obtain ⟨g, ws, ds, hK, r, da, hl, q⟩ := hsp
  have inK : K.In s.heap := e0.mod.kin.keeps fun b ob z => (e0.bs b ob z).1
  have noLim : s.heap.NoLimit := e0.mod.nolimit.keeps fun b ob z => (e0.bs b ob z).1
  have kinds : ∀ y ∈ ps.zip us, (defScope st).names.lookup y.1 = some .local ∨ ((defScope st).names.lookup y.1 = some .cell ∧ ((cellsFrom (s.heap.objs.size + 1) (defScope st).names []).lookup y.1).isSome = true) := by
    rintro ⟨nm, vl⟩ hy
    rcases S.par nm (List.of_mem_zip hy).1 with z | z
    · exact Or.inl z
    · exact Or.inr ⟨z, PySem.W.cellsFrom_some _ _ _ (Or.inl z)⟩
  refine codeAny_call_function hr.depth (inK _ _ lk) rfl S.co S.gen rfl (PySem.W.codeRec_of inK hcd) (hb _ _ _ _ ?_)
  refine wpAny_newFunctionEnv_cells S.kind kinds ?_
  rintro env rfl s1 nw
  refine ⟨noLim.keeps nw.toInCall.keep, codeAny_func ?_⟩
  have body := hbody cdv A outer s H E (hr.deeper _) hg
  have J0 : Inv (cxOf (CX P w) P w K mg base N qual (defScope st) f cdv A outer s H E) [] (L2.start N vs) H s1 := inv_start S hr.hd e0 hl hv nw
  have want : lS K (fun c d _ H => E c d H) bf { nx := fun _ H' => Q .non H', rt := Q } (L2.start N vs) H := by
    refine ⟨g, startE N.length ds, ws, hK, r, EnR.begin da, leave_ok r ?_⟩
    have hd : ds.length = ps.length := by rw [← da.length]; exact hl
    rw [defF, if_pos hd] at q
    exact q
  refine wpAny_mono (body.run [] s1 _ H _ J0 want) ?_ fun _ _ z => z
  intro fl s' hs
  cases fl with
  | brk => exact hs.elim fun _ z => z.elim fun _ z => z.2.elim
  | cont => exact hs.elim fun _ z => z.elim fun _ z => z.2.elim
  | next =>
    obtain ⟨_, H', J, z⟩ := hs
    exact ⟨.non, H', J.os, J.bare, J.base, J.hok, rfl, z⟩
  | ret u =>
    obtain ⟨v, _, H', J, rv, z⟩ := hs
    exact ⟨v, H', J.os, J.bare, J.base, J.hok, rv, z⟩
end
end Td

set_option Elab.async false
set_option linter.all false
set_option maxRecDepth 100000
set_option maxHeartbeats 4000000
namespace Td
open PySem L2 PySem.Spec PyProof.Rows
section
variable {X : Cx} {W : WX} {k : Nat} {f : Addr} {fd : FuncData} {ps : List Str} {gf : FF} {ds : List Value} {dvs : List V} {des : List PyData}
/-- the callee runs -/
theorem run_G {pins : List (Addr × Obj)} {σ : L2.St} {H : Hp} {s : Shared} {Q : VK} {us : List Value} {vs : List V} (F : FnG X.prog X.w X.K X.mg X.base k f fd ps gf) (hr : Room k X.A) (hgu : X.A.guards = some []) (hb : Binds X.K fd ps ds) (hd : Vals dvs ds) (tk : Takes X W)
    (I : Inv X pins σ H s) (r : Vals vs us) (h : spF X.K ps.length gf (vs ++ dvs) H Q (fun c d H' => W c d σ H')) : wpAny (model X.prog X.w) X.A (call (.ref f) us) (EP X pins σ Q) X.xe s := by
  have all : Vals (vs ++ dvs) (us ++ ds) := r.append hd
  have many : (us ++ ds).length = ps.length := by
    obtain ⟨_, _, _, _, _, _, hl, _⟩ := h
    rw [← all.length]
    exact hl
  refine wpAny_call (codeAny_mono (F.run X.A X.stack s H ⟨us, []⟩ _ _ Q _ hr hgu I.env0 (hb s us I.kIn many) all h) ?_)
  intro res s' hq
  match res, hq with
  | .error e, hq => exact tk e s' (XE.of_call I (fun _ _ _ z => z) hq)
  | .ok (.ret u), hq => exact I.after hq
def eCall (gf : FF) (des : List PyData) (fa : FA) : FE := fun ρ w => (fa ρ w).bind fun as w1 => gf (as ++ des) w1
theorem call_want {σ : L2.St} {H : Hp} {Q : VK} {fa : FA} {K : PySem.W.Frag} {n : Nat} (hdd : ∀ g : Gd, DqA g dvs des) (hlen : ∀ as : List PyData, (as ++ des).length = n ∨ ∀ w, gf (as ++ des) w = .no) (h : lE K W (eCall gf des fa) σ H Q) :
    lA K W fa σ H fun vs H1 => spF K n gf (vs ++ dvs) H1 Q (fun c d H' => W c d σ H') := by
  obtain ⟨g, ρ, w, hK, r, e, q⟩ := h
  refine lX_bind hK r e q fun vs H1 g1 as w1 x r1 e1 dv z => ?_
  have dal : DqA g1 (vs ++ dvs) (as ++ des) := dv.append (hdd g1)
  refine ⟨g1, w1, as ++ des, x.k.trans hK, r1, dal, ?_, ?_⟩
  · rw [dal.length]
    rcases hlen as with h | h
    · exact h
    · rw [h] at z; exact z.elim
  · cases hz : gf (as ++ des) w1 with
    | ok d w2 => rw [hz] at z; exact z
    | ex c fs w2 => rw [hz] at z; exact z
    | no => rw [hz] at z; exact z
/-- f(a, ..), the defaults dvs behind -/
theorem pf_callD {x : Str} {p pos : Pos} {e : Expr} {es : List Expr} {fa : FA} (F : FnG X.prog X.w X.K X.mg X.base k f fd ps gf) (hr : Room k X.A) (hgu : X.A.guards = some []) (hg : Gl X x) (hm : X.mg x = some (.ref f)) (hk : PySem.W.keepIn X.K (.ref f) = true) (hb : Binds X.K fd ps ds) (hd : Vals dvs ds) (hdd : ∀ g : Gd, DqA g dvs des)
    (hlen : ∀ as : List PyData, (as ++ des).length = ps.length ∨ ∀ w, gf (as ++ des) w = .no) (tk : Takes X W) (ha : PAf X W (e :: es) fa) (hdb : (x == ("__debug__" : Str)) = false := by decide) (he : starEach (e :: es) X.env = (false, eval e X.env) :: starEach es X.env := by rfl) (hpl : (backTo pos (starEach es X.env)).any (·.1) = false := by rfl) :
    PF X W (.Call (.Name x p) (e :: es) [] pos) (eCall gf des fa) := by
  refine ⟨fun pins s σ H Q I h => ?_⟩
  have want := call_want hdd hlen h
  refine wpAny_Call_Name_kw (ld_glob I hg hm ?_ hdb)
  refine PySem.W.callWith_K (h₀ := X.base) I.ok.mod.kin hk ?_ he hpl
  exact thn (ha.run pos pins s σ H _ I want) fun us s1 ⟨vs, H1, I1, rv, q⟩ => ⟨I1.kIn, run_G F hr hgu hb hd tk I1 rv q⟩
theorem pf_call {x : Str} {p pos : Pos} {e : Expr} {es : List Expr} {fa : FA} {m : Nat} {bf : FS} (F : FnG X.prog X.w X.K X.mg X.base k f fd ps (defF m ps.length bf)) (hr : Room k X.A) (hgu : X.A.guards = some []) (hg : Gl X x) (hm : X.mg x = some (.ref f)) (hk : PySem.W.keepIn X.K (.ref f) = true) (hb : Binds X.K fd ps [])
    (tk : Takes X W) (ha : PAf X W (e :: es) fa) (hdb : (x == ("__debug__" : Str)) = false := by decide) (he : starEach (e :: es) X.env = (false, eval e X.env) :: starEach es X.env := by rfl) (hpl : (backTo pos (starEach es X.env)).any (·.1) = false := by rfl) :
    PF X W (.Call (.Name x p) (e :: es) [] pos) (eCall (defF m ps.length bf) [] fa) :=
  pf_callD F hr hgu hg hm hk hb .nil (fun _ => .nil) (fun as => by
    by_cases h : (as ++ []).length = ps.length
    · exact Or.inl h
    · exact Or.inr fun w => if_neg h) tk ha hdb he hpl
theorem pf_call0 {x : Str} {p pos : Pos} {m : Nat} {bf : FS} (F : FnG X.prog X.w X.K X.mg X.base k f fd ps (defF m ps.length bf)) (hr : Room k X.A) (hgu : X.A.guards = some []) (hg : Gl X x) (hm : X.mg x = some (.ref f)) (hk : PySem.W.keepIn X.K (.ref f) = true) (hb : Binds X.K fd ps [])
    (tk : Takes X W) (hdb : (x == ("__debug__" : Str)) = false := by decide) :
    PF X W (.Call (.Name x p) [] [] pos) (eCall (defF m ps.length bf) [] aN) := by
  refine ⟨fun pins s σ H Q I h => ?_⟩
  have want := call_want (dvs := []) (des := []) (n := ps.length) (fun _ => .nil) (fun as => by
    by_cases h : (as ++ []).length = ps.length
    · exact Or.inl h
    · exact Or.inr fun w => if_neg h) h
  refine wpAny_Call_Name_kw (ld_glob I hg hm ?_ hdb)
  obtain ⟨g, ρ, w, hK, r, e, q⟩ := want
  exact PySem.W.callWith_K0 I.kIn hk (run_G (us := []) (vs := []) F hr hgu hb .nil tk I .nil (q [] H g (Xt.refl g) r .nil))
end
end Td

set_option Elab.async false
set_option linter.all false
set_option maxRecDepth 100000
set_option maxHeartbeats 4000000
namespace Td
open PySem L2 PySem.Spec PyProof.Rows
/-! ### the law's own call -/
def intsD (ns : List Int) : PyData := .list (ns.map .int)
theorem dqa_ints {g : Gd} : ∀ ns : List Int, DqA g (ns.map V.int) (ns.map PyData.int)
  | [] => .nil
  | n :: ns => .cons (.int n) (dqa_ints ns)
/-- the abstract heap at the law's entry: the script, as it stands, if it is none of the module's own -/
def H00 (K : PySem.W.Frag) (a : Addr) (o : Obj) (ns : List Int) : Hp := fun b => if b = a ∧ K.lookup a = none then some (.frz o (.lst (ns.map V.int))) else none
theorem H00_some {K : PySem.W.Frag} {a b : Addr} {o : Obj} {ns : List Int} {u : HO} (h : H00 K a o ns b = some u) : b = a ∧ K.lookup a = none ∧ u = .frz o (.lst (ns.map V.int)) := by
  unfold H00 at h
  split at h
  · rename_i c
    exact ⟨c.1, c.2, (Option.some.inj h).symm⟩
  · cases h
theorem lawG {P : Program} {w : World} {K : PySem.W.Frag} {mg mb : Str → Option Value} {k : Nat} {fa a : Addr} {fd : FuncData} {x : Str} {gf : FF} {s1 : Shared} {vs : List Value} {ns : List Int} {wf : Ws}
    (inK : K.In s1.heap) (nsG : s1.heap.Ns mainGlobals mg) (nsB : s1.heap.Ns builtinsNs mb) (boot : ∀ y : Str, y ≠ "__name__" → mb y = bootBuiltins y) (lim : s1.heap.NoLimit) (noGen : s1.gens = #[])
    (at_a : s1.heap.get? a = some { cls := .type "list", data := .seq vs.toArray }) (hi : IntsAre vs ns) (hl : ns.length ≤ sizeLine) (hr : Room k callerA)
    (F : ∀ base : Heap, K.In base → base.Ns mainGlobals mg → FnG P w K mg base k fa fd [x] gf) (hbind : ∀ (s : Shared) (u : Value), BindsTo s fd ⟨[u], []⟩ [(x, u)])
    (hv : gf [intsD ns] [] = .ok (.bool true) wf) :
    codeAny (model P w) callerA (.call (.ref fa) ⟨[.ref a], []⟩) (fun r s' => r = .ok (.ret (.bool true)) ∧ OldK s1.heap s'.heap ∧ s'.os = s1.os ∧ AllBare s'.gens) s1 := by
  obtain ⟨ob, hob⟩ : ∃ ob : Obj, ob = { cls := .type "list", data := .seq vs.toArray } := ⟨_, rfl⟩
  rw [← hob] at at_a
  obtain ⟨H, hH⟩ : ∃ H, H = H00 K a ob ns := ⟨_, rfl⟩
  have rv : Vals (ns.map V.int) vs := vals_ints hi
  have who : ∀ {b u}, H b = some u → b = a ∧ K.lookup a = none ∧ u = .frz ob (.lst (ns.map V.int)) := fun h => H00_some (hH ▸ h)
  have sq : SqL K H a (ns.map V.int) := by
    cases q : K.lookup a with
    | none => exact .inl (.inr ⟨ob, by rw [hH, H00, if_pos ⟨rfl, q⟩]⟩)
    | some o =>
      have z := (inK a o q).symm.trans at_a
      cases z
      subst hob
      exact .inr ⟨_, vs.toArray, _, q, rfl, rfl, rfl, by rw [List.size_toArray, hi.length]; exact hl, by simpa using rv⟩
  have hok : HOk P w H s1.heap := fun b u h => by
    obtain ⟨rfl, _, rfl⟩ := who h
    refine ⟨at_a, by rw [List.length_map]; exact hl, vs, 0, rv, at_a.trans ?_⟩
    rw [hob]
  have clear : ∀ {b o}, s1.heap.get? b = some o → (∀ its n, o.data ≠ .seq its n) → H b = none := fun {b o} h nd => by
    cases q : H b with
    | none => rfl
    | some u =>
      obtain ⟨rfl, _, _⟩ := who q
      have z := h.symm.trans at_a
      cases z
      exact absurd (by rw [hob]) (nd vs.toArray _)
  have nsH : ∀ {b m}, s1.heap.Ns b m → (hidT s1.heap H).Ns b m := fun {b m} ⟨o, es, ep, h1, h2, h3⟩ => ⟨o, es, ep, hidT_get h1 (clear h1 fun _ _ z => by rw [h2] at z; cases z), h2, h3⟩
  have inH : K.In (hidT s1.heap H) := fun b o h => by
    refine hidT_get (inK b o h) ?_
    cases q : H b with
    | none => rfl
    | some u =>
      obtain ⟨rfl, z, _⟩ := who q
      rw [z] at h
      cases h
  obtain ⟨mc, l1, l2⟩ := lim
  have e0 : Env0 P w K mg (hidT s1.heap H) callerA [] s1 H := {
    frames := rfl
    mod := ⟨inH, nsH nsG, ⟨mb, nsH nsB, boot⟩, ⟨mc, nsH l1, l2⟩⟩
    bs := fun b o h => of_hidT h
    bsz := Nat.le_of_eq (hidT_size _ _)
    funs := trivial
    frf := fun b h => nomatch h
    hok := hok
    bare := .of_eq noGen }
  have want : spF K 1 gf [.ref a] H (fun v _ => v = .bl true) fun _ _ _ => False := by
    refine ⟨⟨K, H, fun _ => none, fun _ => 0, 0⟩, [], [intsD ns], rfl, ⟨fun _ _ z => z, rfl, fun l ob e => by simp at e, fun l m hl _ _ => absurd hl (Nat.not_lt_zero _), fun a o z => by cases z⟩, .cons (.lst sq (dqa_ints ns)) .nil, rfl, ?_⟩
    rw [hv]
    intro v H' g' _ _ dv
    cases dv
    rfl
  refine codeAny_mono ((F _ inH (nsH nsG)).run callerA [] s1 H ⟨[.ref a], []⟩ [.ref a] [.ref a] _ _ hr rfl e0 (hbind s1 (.ref a)) (.cons rfl .nil) want) ?_
  intro res s' hq
  match res, hq with
  | .error e, hq =>
    obtain ⟨_, _, _, _, _, _, _, _, _, _, _, _, z⟩ := hq
    exact z.elim
  | .ok (.ret u), hq =>
    obtain ⟨v, H', os, bare, un, hok', rr, rfl⟩ := hq
    cases rr
    refine ⟨rfl, OldK.of_keep fun b o h => ?_, os, bare⟩
    cases q : H b with
    | none => exact un.keep b o h q (fun z => nomatch z) (fun z => nomatch z)
    | some u =>
      obtain ⟨rfl, _, rfl⟩ := who q
      have h2 := (hok' _ _ (un.frzs _ _ _ q)).1
      rw [at_a] at h
      cases h
      exact h2
/-- the goal that k_head leaves -/
theorem walkG {l : PySem.W.OpenLaw} {n k : Nat} {q : Program} {loose : List Str} {XP : (Str → Option Value) → Heap → Prop} {YP : World → Heap → Prop} {d : DefRec} {K : Params → PySem.W.Frag} {gf : FF} {x : Str}
    (hn : l.most = some n) (hn2 : n ≤ sizeLine) (hdf : d.params.defaults = []) (hr : Room k callerA) (hY : ∀ (w : World) (h : Heap), YP w h → (K w.params).In h)
    (F : ∀ (w : World) (mg : Str → Option Value) (fa : Addr) (h : Heap), (K w.params).In h → h.Ns mainGlobals mg → mg d.name = some (.ref fa) →
      ∃ fd : FuncData, (∀ (s : Shared) (u : Value), BindsTo s fd ⟨[u], []⟩ [(x, u)]) ∧ ∀ base : Heap, (K w.params).In base → base.Ns mainGlobals mg → FnG l.prog w (K w.params) mg base k fa fd [x] gf)
    (hv : ∀ ns : List Int, ns.length ≤ n → ∃ wf, gf [intsD ns] [] = .ok (.bool true) wf) :
    PySem.W.WalkO q loose XP YP l.row.toRowW d [] (fun f vs => PySem.call f vs) := by
  refine Att.attach_call hn hdf fun w s0 s1 mg mb fa o pm cd doc a vs ns G Y ho hd hcd hmg hobj hints hlen hg => ?_
  obtain ⟨fd, hb, hF⟩ := F w mg fa _ (hY w _ Y) G.T.g hmg
  obtain ⟨wf, hwf⟩ := hv ns hlen
  exact lawG (hY w _ Y) G.T.g G.T.b G.T.builtins G.T.nolimit hg hobj hints (Nat.le_trans hlen hn2) hr hF hb hwf
end Td

set_option Elab.async false
set_option linter.all false
set_option maxRecDepth 100000
set_option maxHeartbeats 4000000
namespace Td
open PySem L2 PySem.Spec PyProof.Rows
theorem hu1 {k : Nat} {A : Around} (hr : Room k A) : A.units + 1 < cLine := by have := hr.un; omega
theorem hu64 {k : Nat} {A : Around} (hr : Room k A) : A.units + 64 < cLine := by have := hr.un; omega
theorem hu65 {k : Nat} {A : Around} (hr : Room k A) : A.units + 65 < cLine := by have := hr.un; omega
theorem hu70 {k : Nat} {A : Around} (hr : Room k A) : A.units + 70 < cLine := by have := hr.un; omega
theorem takesW0 {X : Cx} : Takes X W0 := fun _ _ x => by
  obtain ⟨_, _, _, _, _, _, _, _, _, _, _, _, _, _, _, _, z⟩ := x
  exact z.elim
/-- a def of the text, where it stands -/
structure DefAt (K : PySem.W.Frag) (mg : Str → Option Value) (x : Str) (st : Stmt) (ps : List Str) where
  f : Addr
  fd : FuncData
  fn : Fun K x x st f fd
  at_ : mg x = some (.ref f)
  bd : Binds K fd ps []
structure Gx (P : Program) (w : World) (K : PySem.W.Frag) (mg : Str → Option Value) (base : Heap) (k : Nat) {x : Str} {st : Stmt} {ps : List Str} (D : DefAt K mg x st ps) (gf : FF) : Prop where
  fn : FnG P w K mg base k D.f D.fd ps gf
  len : ∀ as w, as.length ≠ ps.length → gf as w = .no
section
variable {X : Cx} {W : WX} {k : Nat} {ps : List Str} {gf : FF} {x : Str} {st : Stmt} {p pos : Pos}
theorem pf_callR {D : DefAt X.K X.mg x st ps} {e : Expr} {es : List Expr} {fa : FA} (G : Gx X.prog X.w X.K X.mg X.base k D gf) (hr : Room k X.A) (hgu : X.A.guards = some []) (hgl : Gl X x) (tk : Takes X W) (ha : PAf X W (e :: es) fa)
    (hdb : (x == ("__debug__" : Str)) = false := by decide) (he : starEach (e :: es) X.env = (false, eval e X.env) :: starEach es X.env := by rfl) (hpl : (backTo pos (starEach es X.env)).any (·.1) = false := by rfl) :
    PF X W (.Call (.Name x p) (e :: es) [] pos) (eCall gf [] fa) :=
  pf_callD G.fn hr hgu hgl D.at_ D.fn.kp D.bd .nil (fun _ => .nil) (fun as => by
    by_cases h : (as ++ []).length = ps.length
    · exact Or.inl h
    · exact Or.inr fun w => G.len _ w h) tk ha hdb he hpl
theorem pf_callR0 {D : DefAt X.K X.mg x st ps} (G : Gx X.prog X.w X.K X.mg X.base k D gf) (hr : Room k X.A) (hgu : X.A.guards = some []) (hgl : Gl X x) (tk : Takes X W)
    (hdb : (x == ("__debug__" : Str)) = false := by decide) : PF X W (.Call (.Name x p) [] [] pos) (eCall gf [] aN) := by
  refine ⟨fun pins s σ H Q I h => ?_⟩
  have want := call_want (dvs := []) (des := []) (n := ps.length) (fun _ => .nil) (fun as => by
    by_cases h : (as ++ []).length = ps.length
    · exact Or.inl h
    · exact Or.inr fun w => G.len _ w h) h
  refine wpAny_Call_Name_kw (ld_glob I hgl D.at_ ?_ hdb)
  obtain ⟨g, ρ, w, hK, r, e, q⟩ := want
  exact PySem.W.callWith_K0 I.kIn D.fn.kp (run_G (us := []) (vs := []) G.fn hr hgu D.bd .nil tk I .nil (q [] H g (Xt.refl g) r .nil))
/-- a, b = e1, e2 -/
theorem psf_par {i j : Nat} {x y : Str} {a b : Expr} {fa : FA} {px py pt : Pos} {kt k2 : Nat} {pt2 : Pos} (hc : X.calm = true) (hN : X.N.Nodup) (hi : X.N[i]? = some x) (hj : X.N[j]? = some y) (hij : i ≠ j) (hx : X.env.scope.names.lookup x = some .local) (hy : X.env.scope.names.lookup y = some .local)
    (ha : PAf X W [a, b] fa) (hw : swappedStores [.Tuple [.Name x px, .Name y py] kt pt] (.Tuple [a, b] k2 pt2) X.env = pure (some [x, y])) (hs : swapsWithSole [.Tuple [.Name x px, .Name y py] kt pt] (.Tuple [a, b] k2 pt2) pos.line X.env = pure false := by rfl) :
    PSf X W (.Assign [.Tuple [.Name x px, .Name y py] kt pt] (.Tuple [a, b] k2 pt2) pos) (sPar i j fa) := ps_imp (ps_par hc hN hi hj hij hx hy ha hw hs) par_of
/-- s.upper() -/
def upD (_ : Ws) : PyData → Option PyData
  | .str a => if decide (a.length ≤ 5592405) then some (.str (Txt.upper a)) else none
  | _ => none
theorem pf_upper {o : Expr} {fo : FE} {apos : Pos} (ho : PF X W o fo) (hbase : attributeBase o "upper" X.env (eval o X.env) = eval o X.env := by rfl) (hline : (apos.endLine == pos.line) = true := by rfl) :
    PF X W (.Call (.Attribute o "upper" apos) [] [] pos) (eU upD fo) := by
  refine pe_imp (pe_upper ho hbase hline) fun σ H Q ⟨g, ρ, w, hK, r, e, q⟩ => ?_
  refine lX_bind hK r e q fun v H1 g1 d w1 x r1 e1 dv z => ?_
  cases dv with
  | str a =>
    simp only [upD] at z
    split at z
    · rename_i hs
      exact ⟨⟨_, rfl⟩, _, rfl, rfl, of_decide_eq_true hs, z _ H1 g1 (Xt.refl _) r1 (.str _)⟩
    · exact z.elim
  | _ => exact z.elim
end
section
variable {P : Program} {w : World} {K : PySem.W.Frag} {mg : Str → Option Value} {base : Heap}
/-- a def by its body -/
theorem gx_of {x : Str} {st : Stmt} {N ps : List Str} {k : Nat} {bf : FS} (D : DefAt K mg x st ps) (S : FnScope N ps (defScope st))
    (hbody : ∀ (cdv : Value) (A : Around) (outer : List Env) (s : Shared) (H : Hp) (E : XK), Room k (A.deeper (envOfC x (defScope st) s.heap.objs.size D.f cdv)) → A.guards = some [] →
      PSsf (cxOf (CX P w) P w K mg base N x (defScope st) D.f cdv A outer s H E) (fun c d _ H => E c d H) (defBody st) bf) : Gx P w K mg base (k + 1) D (defF N.length ps.length bf) :=
  ⟨fnG_of D.fn S hbody, fun as w h => if_neg h⟩
theorem Gx.mono {x : Str} {st : Stmt} {ps : List Str} {j k : Nat} {D : DefAt K mg x st ps} {gf : FF} (G : Gx P w K mg base j D gf) (h : j ≤ k) : Gx P w K mg base k D gf := ⟨G.fn.mono h, G.len⟩
theorem gx_no {x : Str} {st : Stmt} {ps : List Str} {k : Nat} (D : DefAt K mg x st ps) : Gx P w K mg base k D (fun _ _ => .no) :=
  ⟨⟨fun A outer s H args us vs Q E hr hg e0 hb hv ⟨g, w', ds, hK, r, da, hl, q⟩ => q.elim⟩, fun _ _ _ => rfl⟩
theorem tkX {x : Str} {st : Stmt} {N : List Str} {f : Addr} {cdv : Value} {A : Around} {outer : List Env} {s : Shared} {H : Hp} {E : XK} : Takes (cxOf (CX P w) P w K mg base N x (defScope st) f cdv A outer s H E) (fun c d _ H => E c d H) := takes_of rfl rfl rfl rfl
theorem poX {x : Str} {st : Stmt} {N : List Str} {f : Addr} {cdv : Value} {A : Around} {outer : List Env} {s : Shared} {H : Hp} {E : XK} : PassesOwn (model P w) (cxOf (CX P w) P w K mg base N x (defScope st) f cdv A outer s H E).A (cxOf (CX P w) P w K mg base N x (defScope st) f cdv A outer s H E).env (cxOf (CX P w) P w K mg base N x (defScope st) f cdv A outer s H E).xe := passes_of rfl
def defAt_mk {h : Heap} {x : Str} {st : Stmt} {ps : List Str} {f : Addr} {oc : Value} {od an : Option Addr} {osl : Array (Option Value)} {kV doc pm cdv ct : Value} (X : K.In h) (G : h.Ns mainGlobals mg) (a : PySem.W.nsIn K mainGlobals x = some (some (.ref f)))
    (l : K.lookup f = some ⟨oc, od, .func (PySem.W.fnOf x x (defArgs st) (defBody st) (defScope st) .none kV doc pm an cdv ct), osl⟩) (c : PySem.W.codeIn K cdv x = true) (k : PySem.W.keepIn K (.ref f) = true)
    (hb : ∀ (kV doc pm : Value) (an : Option Addr) (cdv ct : Value) (us : List Value), us.length = ps.length → bindArgs (PySem.W.fnOf x x (defArgs st) (defBody st) (defScope st) .none kV doc pm an cdv ct) ⟨us, []⟩ = pure (ps.zip us)) : DefAt K mg x st ps :=
  ⟨f, _, fun_mk l c k, PySem.W.mg_of X G a, (fun_mk l c k).binds hb⟩
end
end Td

set_option Elab.async false
set_option linter.all false
set_option maxRecDepth 100000
set_option maxHeartbeats 4000000
namespace Td
open PySem L2 PyProof.Rows
/-! ### texts: rising, each once -/
def leS (a b : Str) : Bool := !(PySem.Spec.ltCps b.cps.toList a.cps.toList)
def putS (x : Str) : List Str → List Str
  | [] => [x]
  | y :: l => cond (leS x y) (x :: y :: l) (y :: putS x l)
def srtS (xs : List Str) : List Str := xs.foldr putS []
def addS (L : List Str) (x : Str) : List Str := cond (decide (x ∈ L)) L (L ++ [x])
def ddS (xs : List Str) : List Str := xs.foldl addS []
theorem leS_iff {a b : Str} : leS a b = true ↔ a.cps.toList ≤ b.cps.toList := by
  unfold leS
  rw [ltCps_eq, Bool.not_eq_true', decide_eq_false_iff_not]
  exact Iff.rfl
theorem leS_tot (a b : Str) : leS a b = true ∨ leS b a = true := by
  rw [leS_iff, leS_iff]
  exact List.le_total ..
theorem leS_tr {a b c : Str} (h1 : leS a b = true) (h2 : leS b c = true) : leS a c = true := by
  rw [leS_iff] at *
  exact List.le_trans h1 h2
theorem leS_anti {a b : Str} (h1 : leS a b = true) (h2 : leS b a = true) : a = b := by
  rw [leS_iff] at *
  have e := List.le_antisymm h1 h2
  obtain ⟨⟨x⟩⟩ := a
  obtain ⟨⟨y⟩⟩ := b
  cases e
  rfl
theorem putS_perm (x : Str) : ∀ l, (putS x l).Perm (x :: l)
  | [] => List.Perm.refl _
  | y :: l => by
    unfold putS
    cases leS x y with
    | true => exact List.Perm.refl _
    | false => exact ((putS_perm x l).cons y).trans (List.Perm.swap x y l)
theorem putS_srt (x : Str) : ∀ l, l.Pairwise (leS · · = true) → (putS x l).Pairwise (leS · · = true)
  | [], _ => List.pairwise_singleton ..
  | y :: l, h => by
    obtain ⟨h1, h2⟩ := List.pairwise_cons.mp h
    unfold putS
    cases c : leS x y with
    | true =>
      refine List.pairwise_cons.mpr ⟨fun z hz => ?_, h⟩
      rcases List.mem_cons.mp hz with rfl | hz
      · exact c
      · exact leS_tr c (h1 z hz)
    | false =>
      refine List.pairwise_cons.mpr ⟨fun z hz => ?_, putS_srt x l h2⟩
      rcases List.mem_cons.mp ((putS_perm x l).mem_iff.mp hz) with rfl | hz
      · rcases leS_tot z y with q | q
        · rw [c] at q; cases q
        · exact q
      · exact h1 z hz
theorem srtS_perm : ∀ l, (srtS l).Perm l
  | [] => List.Perm.refl _
  | x :: l => (putS_perm x (srtS l)).trans ((srtS_perm l).cons x)
theorem srtS_srt : ∀ l, (srtS l).Pairwise (leS · · = true)
  | [] => List.Pairwise.nil
  | x :: l => putS_srt x _ (srtS_srt l)
theorem pw_of_risingS : ∀ (p : Str) (l : List Str), risingS p l = true → (p :: l).Pairwise (leS · · = true)
  | p, [], _ => List.pairwise_singleton ..
  | p, x :: r, h => by
    have h' : (!PySem.Spec.ltCps x.cps.toList p.cps.toList && risingS x r) = true := h
    rw [Bool.and_eq_true] at h'
    have ih := pw_of_risingS x r h'.2
    refine List.pairwise_cons.mpr ⟨fun z hz => ?_, ih⟩
    rcases List.mem_cons.mp hz with rfl | hz
    · exact h'.1
    · exact leS_tr h'.1 ((List.pairwise_cons.mp ih).1 z hz)
theorem srtS_one {ys xs : List Str} (hp : ys.Perm xs) (hs : sortedS ys = true) : ys = srtS xs := by
  have h1 : ys.Pairwise (leS · · = true) := by
    cases ys with
    | nil => exact List.Pairwise.nil
    | cons p l => exact pw_of_risingS p l hs
  exact List.Perm.eq_of_pairwise (fun a b _ _ => leS_anti) h1 (srtS_srt xs) (hp.trans (srtS_perm xs).symm)
theorem ddS_snoc (xs : List Str) (x : Str) : ddS (xs ++ [x]) = addS (ddS xs) x := by
  unfold ddS
  rw [List.foldl_append]
  rfl
theorem addS_len (L : List Str) (x : Str) : (addS L x).length ≤ L.length + 1 := by
  unfold addS
  cases decide (x ∈ L) with
  | true => exact Nat.le_succ _
  | false => rw [cond_false, List.length_append]; exact Nat.le_refl _
/-! ### the set of texts in the heap -/
def keyT (e : Int × Value) : Str := strOf e.2
def Tx1 (w : World) (e : Int × Value) : Prop := ∃ k u, e = (hashStr w k, Value.str k u)
structure TxS (w : World) (h : Heap) (a : Addr) (L : List Str) : Prop where
  ex : ∃ o es ep t, h.get? a = some o ∧ o.ExactSet ∧ o.data = .set es ep t ∧ (∀ e ∈ es.toList, Tx1 w e) ∧ (es.toList.map keyT).Perm L ∧ L.Nodup ∧ es.size < scanBound ∧ t.fits es.size = true ∧ Ris t.place.toList ∧ (w.params.followText "set-order" = true ∨ t.led = true)
theorem TxS.at {w : World} {h h' : Heap} {a : Addr} {L : List Str} (R : TxS w h a L) (k : ∀ o, h.get? a = some o → h'.get? a = some o) : TxS w h' a L := by
  obtain ⟨o, es, ep, t, ho, r⟩ := R.ex
  exact ⟨⟨o, es, ep, t, k o ho, r⟩⟩
theorem TxS.new {w : World} {h : Heap} {a : Addr} (ho : h.get? a = some { cls := .type "set", dict := none, data := .set #[] 0 (.fresh 0 0 (!w.params.followText "set-order")) }) : TxS w h a [] :=
  ⟨⟨_, #[], 0, _, ho, ⟨rfl, rfl, rfl⟩, rfl, (fun e he => by simp at he), .nil, .nil, (by decide), (by rfl), List.Pairwise.nil, by
    show _ ∨ (!w.params.followText "set-order") = true
    cases w.params.followText "set-order"
    · exact .inr rfl
    · exact .inl rfl⟩⟩
section
variable {P : Program} {w : World} {A : Around} {E : Value → Shared → Prop} {s : Shared} {a : Addr} {L : List Str}
theorem tx1_key {e : Int × Value} (g : Tx1 w e) (k : Str) : (PySem.strKind P w).is k e.2 = true ↔ keyT e = k := by
  obtain ⟨k0, u, rfl⟩ := g
  show Value.isStrOf k (.str k0 u) = true ↔ k0 = k
  simp [Value.isStrOf]
theorem tx1_elems {l : List (Int × Value)} (g : ∀ e ∈ l, Tx1 w e) : ElemsOf (PySem.strKind P w) l := fun e he => by
  obtain ⟨k, u, rfl⟩ := g e he
  exact ⟨⟨k, strKind_is P w k u, rfl⟩, rfl⟩
theorem tx_tail {g : Bool → Sem Unit} (hg : ∀ (b : Bool) (s₁ : Shared) (Q' : Unit → Shared → Prop), Q' () s₁ → wpAny (model P w) A (g b) Q' E s₁)
    {o : Obj} {es : Array (Int × Value)} {ep : Nat} {t : SetTable} (ho : s.heap.get? a = some o) (hex : o.ExactSet) (hd : o.data = .set es ep t)
    {es1 : Array (Int × Value)} {t2 : SetTable} (g1 : ∀ e ∈ es1.toList, Tx1 w e) (p1 : (es1.toList.map keyT).Perm L) (nd : L.Nodup)
    (hb1 : es1.size < scanBound) (hf2 : t2.fits es1.size = true) (hr : Ris t2.place.toList) (hl : w.params.followText "set-order" = true ∨ t2.led = true) {wasDummy : Bool} {R : Option Bool → Shared → Prop}
    (hR : ∀ h', Heap.SameBut a s.heap h' → TxS w h' a L → R (some true) { s with heap := h' }) :
    wpAny (model P w) A (do
        storeSet a es1 t2
        if (!wasDummy && t2.tooFull) = true then do
            g (relayAll t2 es1 (SetTable.grown es1.size)).2.2
            storeSet a (relayAll t2 es1 (SetTable.grown es1.size)).1 (relayAll t2 es1 (SetTable.grown es1.size)).2.1
            pure (some true)
          else pure (some true)) R E s := by
  refine wpAny_bind (wpAny_storeSet_of ho hd ?_ (fits_of_scanBound hb1))
  have ho1 := store_at (es' := es1) (t' := t2) ho hd
  have sb1 := Heap.SameBut.update s.heap a (Obj.putSet es1 t2)
  split
  · obtain ⟨Z, hZ⟩ : ∃ Z, Z = relayAll t2 es1 (SetTable.grown es1.size) := ⟨_, rfl⟩
    have pm : Z.1.toList.Perm es1.toList := hZ ▸ relayAll_perm t2 es1 (SetTable.grown es1.size)
    have hf3 : Z.2.1.fits Z.1.size = true := hZ ▸ relayAll_fits t2 es1 (SetTable.grown es1.size)
    have hr3 : Ris Z.2.1.place.toList := hZ ▸ relayAll_ris t2 es1 (SetTable.grown es1.size)
    have hl3 : Z.2.1.led = t2.led := hZ ▸ relayAll_led t2 es1 (SetTable.grown es1.size)
    rw [← hZ]
    have hsz : Z.1.size = es1.size := by rw [← Array.length_toList, pm.length_eq, Array.length_toList]
    have hb2 : Z.1.size < scanBound := by rw [hsz]; exact hb1
    refine wpAny_bind (hg _ _ _ (wpAny_bind (wpAny_storeSet_of ho1 rfl ?_ (fits_of_scanBound hb2))))
    have ho2 := store_at (es' := Z.1) (t' := Z.2.1) ho1 rfl
    refine wpAny_pure (hR _ (sb1.trans (Heap.SameBut.update _ a _)) ⟨⟨_, Z.1, _, Z.2.1, ho2, hex, rfl, fun e he => g1 e (pm.mem_iff.mp he), (pm.map keyT).trans p1, nd, hb2, hf3, hr3, ?_⟩⟩)
    exact hl.imp id fun z => by rw [hl3]; exact z
  · exact wpAny_pure (hR _ sb1 ⟨⟨_, es1, _, t2, ho1, hex, rfl, g1, p1, nd, hb1, hf2, hr, hl⟩⟩)
theorem tx_add {k : Str} {u : Tok} {Q : Bool → Shared → Prop} (R : TxS w s.heap a L) (room : L.length + 1 < scanBound)
    (hQ : ∀ b h', Heap.SameBut a s.heap h' → TxS w h' a (addS L k) → Q b { s with heap := h' }) : wpAny (model P w) A (setAddHashed a (.str k u) ((PySem.strKind P w).hash k)) Q E s := by
  obtain ⟨o, es, ep, t, ho, hex, hd, g, pL, nd, hb, hf, hr, hl⟩ := R.ex
  have hkey : (PySem.strKind P w).is k (.str k u) = true := strKind_is P w k u
  have hsc : (Value.str k u).scannable = true := rfl
  have hel : ElemsOf (PySem.strKind P w) es.toList := tx1_elems g
  have hesL : es.size = L.length := by rw [← pL.length_eq, List.length_map, Array.length_toList]
  unfold setAddHashed setAddHashedIn
  refine wpAny_holding (wpAny_bind (wpAny_setState_of ho hd hf ?_))
  dsimp only
  rw [byScan_of hsc hb hel]
  simp only [↓reduceIte]
  unfold setAddByScan
  refine wpAny_bind (wpAny_bind (wpAny_rule (wpAny_bind (wpAny_setScan_of hkey ho hd hf hel ?_))))
  cases hfi : List.findIdx? (fun e => (PySem.strKind P w).is k e.2) es.toList with
  | some j =>
    dsimp only
    obtain ⟨hj, pj, _⟩ := List.findIdx?_eq_some_iff_getElem.mp hfi
    have hk : k ∈ L := pL.mem_iff.mp (List.mem_map.mpr ⟨_, List.getElem_mem hj, (tx1_key (g _ (List.getElem_mem hj)) k).mp pj⟩)
    have e : addS L k = L := by unfold addS; rw [decide_eq_true hk]; rfl
    exact wpAny_pure (wpAny_pure (hQ _ s.heap (Heap.SameBut.refl a s.heap) (by rw [e]; exact R)))
  | none =>
    dsimp only
    have hk : k ∉ L := fun z => by
      obtain ⟨e, he, q⟩ := List.mem_map.mp (pL.mem_iff.mpr z)
      have c := List.findIdx?_eq_none_iff.mp hfi e he
      rw [(tx1_key (P := P) (g e he) k).mpr q] at c
      cases c
    have eA : addS L k = L ++ [k] := by unfold addS; rw [decide_eq_false hk]; rfl
    have ndA : (L ++ [k]).Nodup := (List.perm_append_singleton k L).nodup_iff.mpr (List.nodup_cons.mpr ⟨hk, nd⟩)
    obtain ⟨Z, hZ⟩ : ∃ Z, Z = layNew t es ((PySem.strKind P w).hash k) (.str k u) := ⟨_, rfl⟩
    have pm : Z.1.toList.Perm (es.push ((PySem.strKind P w).hash k, .str k u)).toList := hZ ▸ layNew_perm t es ((PySem.strKind P w).hash k) (.str k u)
    have hf1 : Z.2.1.fits Z.1.size = true := hZ ▸ layNew_fits t es ((PySem.strKind P w).hash k) (.str k u)
    have hr1 : Ris Z.2.1.place.toList := hZ ▸ layNew_ris t es ((PySem.strKind P w).hash k) (.str k u) hr
    have hl1 : Z.2.1.led = t.led := hZ ▸ layNew_led t es ((PySem.strKind P w).hash k) (.str k u)
    rw [← hZ]
    obtain ⟨es1, t1, wasD, gave⟩ := Z
    dsimp only at pm hf1 hr1 hl1 ⊢
    rw [Array.toList_push] at pm
    have g1 : ∀ e ∈ es1.toList, Tx1 w e := fun e he => by
      rcases List.mem_append.mp (pm.mem_iff.mp he) with z | z
      · exact g e z
      · exact ⟨k, u, List.mem_singleton.mp z⟩
    have p1 : (es1.toList.map keyT).Perm (L ++ [k]) := by
      have q := pm.map keyT
      rw [List.map_append] at q
      exact q.trans (pL.append_right _)
    have hsz : es1.size = L.length + 1 := by rw [← Array.length_toList, pm.length_eq, List.length_append, Array.length_toList, hesL]; rfl
    have hb1 : es1.size < scanBound := by rw [hsz]; exact room
    have hled : w.params.followText "set-order" = true ∨ t1.led = true := hl.imp id fun z => by rw [hl1]; exact z
    have fin : ∀ h', Heap.SameBut a s.heap h' → TxS w h' a (L ++ [k]) → Q true { s with heap := h' } := fun h' sb r => hQ true h' sb (by rw [eA]; exact r)
    have hgw : ∀ (b : Bool) (s₁ : Shared) (Q' : Unit → Shared → Prop), Q' () s₁ → wpAny (model P w) A (match b with | true => rule "set.scan.the-table-gave-way" | false => pure ()) Q' E s₁ :=
      fun b s₁ Q' q => by cases b <;> first | exact wpAny_pure q | exact wpAny_rule q
    refine wpAny_bind (hgw _ _ _ ?_)
    split
    · refine wpAny_bind ?_
      rw [hashByValue_scannable 8 hsc]
      refine wpAny_pure ?_
      refine tx_tail ?_ ho hex hd g1 p1 ndA hb1 ?_ ?_ ?_ ?_
      · intro b s₁ Q' q; cases b <;> first | exact wpAny_pure q | exact wpAny_rule q
      · first | (split <;> first | exact hf1 | exact SetTable.fits_plain_off hf1) | exact hf1
      · first | (split <;> exact hr1) | exact hr1
      · first | (split <;> exact hled) | exact hled
      · intro h' sb r; dsimp only; exact wpAny_pure (fin h' sb r)
    · refine wpAny_bind (wpAny_pure ?_)
      simp only [↓reduceIte]
      refine tx_tail ?_ ho hex hd g1 p1 ndA hb1 hf1 hr1 hled ?_
      · intro b s₁ Q' q; cases b <;> first | exact wpAny_pure q | exact wpAny_rule q
      · intro h' sb r; dsimp only; exact wpAny_pure (fin h' sb r)
theorem ddS_take {xs : List Str} {i : Nat} {x : Str} (h : xs[i]? = some x) : ddS (xs.take (i + 1)) = addS (ddS (xs.take i)) x := by
  rw [List.take_add_one, h]
  exact ddS_snoc _ _
theorem ddS_len : ∀ (xs : List Str) (i : Nat), i ≤ xs.length → (ddS (xs.take i)).length ≤ i
  | xs, 0, _ => by rw [List.take_zero]; exact Nat.le_refl _
  | xs, i + 1, h => by
    rw [ddS_take (List.getElem?_eq_getElem (by omega : i < xs.length))]
    exact Nat.le_trans (addS_len _ _) (Nat.succ_le_succ (ddS_len xs i (by omega)))
/-- the adds, one by one -/
theorem tx_loop {I : Addr} {fp wr : List Addr} {G : Array GenState → Array GenState → Prop} {n : Nat} {Pv : Nat → Value → Prop} {St : Nat → Shared → Prop} {R : Result → Shared → Prop}
    (W : WalksS P w A.in1 I fp wr G n Pv St) (S : Addr) (hSf : S ∉ fp) (xs : List Str) (hn : n = xs.length) (hb : xs.length + 1 < scanBound) (hval : ∀ i v, Pv i v → ∃ k t, xs[i]? = some k ∧ v = .str k t) :
    ∀ (k i : Nat) (s : Shared), n - i = k → i ≤ n → St i s → TxS w s.heap S (ddS (xs.take i)) →
      (∀ s', Moved (S :: wr) G s s' → TxS w s'.heap S (ddS xs) → R (.ok (.ret .none)) s') →
      codeAny (model P w) A (.builtin "set.update.loop" ⟨[.ref S, .ref I], []⟩) R s := by
  have hSw : S ∉ wr := fun h => hSf (W.sub _ h)
  have hsub : ∀ b ∈ wr, b ∈ S :: wr := fun b hb => List.mem_cons_of_mem _ hb
  intro k
  induction k with
  | zero =>
    intro i s hk' hi hst hS hR
    have hin : i = n := by omega
    subst hin
    refine codeAny_builtin F.entry_set_update_loop ?_
    rw [Around.under_plainId F.plain_set_update_loop _]
    show wpAny _ A.in1 (pyNext (.ref I) >>= _) _ _ s
    refine wpAny_bind (W.done s _ _ hst fun s' hm => ?_)
    show wpAny _ A.in1 (ret Value.none) _ _ s'
    rw [List.take_of_length_le (by omega)] at hS
    exact wpAny_pure (hR s' (hm.mono hsub) (hS.at fun o e => hm.heap S o hSw e))
  | succ k ih =>
    intro i s hk' hi hst hS hR
    have hlt : i < n := by omega
    refine codeAny_builtin F.entry_set_update_loop ?_
    rw [Around.under_plainId F.plain_set_update_loop _]
    show wpAny _ A.in1 (pyNext (.ref I) >>= _) _ _ s
    refine wpAny_bind (W.item i s _ _ hlt hst fun v s' hP hst' hm => ?_)
    obtain ⟨z, t, hz, rfl⟩ := hval i v hP
    have hS' : TxS w s'.heap S (ddS (xs.take i)) := hS.at fun o e => hm.heap S o hSw e
    show wpAny _ A.in1 (holding [Value.str z t] (setAdd S (.str z t)) >>= _) _ _ s'
    refine wpAny_bind (wpAny_holding ?_)
    unfold setAdd
    refine wpAny_holding (wpAny_bind ((PySem.strKind P w).pyHash (k := z) (strKind_is _ _ _ _) ?_))
    refine tx_add (s := { s' with toks := s'.toks + 1 }) hS' (by have := ddS_len xs i (by omega); omega) fun b h' hsb hS2 => ?_
    rw [← ddS_take hz] at hS2
    refine wpAny_pure ⟨plainId_quiet F.plain_set_update_loop _, ih (i + 1) _ (by omega) hlt (W.frame _ s' _ _ hst' (Nat.le_succ _) fun b hb o e => ?_) hS2 fun s'' hm'' hS'' => ?_⟩
    · rw [hsb.2 b (fun h : b = S => hSf (by rw [← h]; exact hb))]; exact e
    · refine hR s'' (Moved.trans W.gtrans ((hm.mono hsub).then_heap (Nat.le_succ _) fun b o hb e => ?_) hm'') hS''
      rw [hsb.2 b (fun h : b = S => hb (by rw [h]; exact List.mem_cons_self))]; exact e
/-- set(xs), xs a list of texts -/
theorem tx_call {l : Addr} {its : Array Value} {xs : List Str} {Q : Value → Shared → Prop} (hh : A.handled = none) (hl : s.heap.IsList l its) (hi : StrsAre its.toList xs) (hfew : xs.length + 1 < scanBound)
    (h : ∀ (h' : Heap) (tk : Nat), TxS w h' s.heap.objs.size (ddS xs) → (∀ b o, s.heap.get? b = some o → h'.get? b = some o) → Q (.ref s.heap.objs.size) { s with heap := h', toks := tk }) :
    wpAny (model P w) A (call (.type "set") [.ref l]) Q E s := by
  obtain ⟨N0, hN0⟩ : ∃ N0 : Obj, N0 = { cls := .type "set", dict := none, data := .set #[] 0 (.fresh 0 0 (!w.params.followText "set-order")) } := ⟨_, rfl⟩
  have hisz : its.size = xs.length := by rw [← StrsAre.len_eq hi, Array.length_toList]
  obtain ⟨c, tl, hmro⟩ := F.called_set.mro
  have hmade := F.called_set.made
  have hsub := F.called_set.sub
  refine wpAny_call (codeAny_of_tree ?_)
  show wpAny _ _ (callAny (.type "set") _) _ _ _
  refine wpAny_pure ⟨Code.quiet_builtin _ (by decide +kernel), codeAny_builtin F.entry_type_call ?_⟩
  rw [Around.under_plain (weight_type_call_type "set" [.ref l] []) rfl]
  have h1 := F.called_set.notType
  have h2 := F.called_set.canCreate
  have hct := F.typeCall_set_1 (.ref l)
  repeat (any_goals (first | assumption | wp_step))
  refine codeAny_mono (code_set_led1 (.ref l) (E := E) (Q₁ := fun obj s₁ => obj = .ref s.heap.objs.size ∧ s₁ = { s with heap := s.heap.push N0 }) ⟨rfl, by rw [hN0]⟩) fun r s₁ hr => ?_
  cases r with
  | error e => exact hr
  | ok fl =>
    cases fl with
    | ret obj =>
      obtain ⟨rfl, rfl⟩ := hr
      have hS : (s.heap.push N0).get? s.heap.objs.size = some N0 := Heap.get?_push_size _ (by rw [hN0]; rfl)
      have hT : Shared.TypeIs { s with heap := s.heap.push N0 } (.ref s.heap.objs.size) "set" := ⟨_, hS, by rw [hN0]⟩
      have hli := F.called_set.init.lookup
      have hbi := F.called_set.init.bind (.ref s.heap.objs.size)
      repeat (any_goals (first | assumption | wp_step))
      refine codeAny_mono (codeAny_call_builtin (R := wants (fun r s₂ => r = .none ∧ ∃ h' tk, s₂ = { s with heap := h', toks := tk } ∧ TxS w h' s.heap.objs.size (ddS xs) ∧
          (∀ b o, s.heap.get? b = some o → h'.get? b = some o)) E) F.called_set.init.plain F.entry_set_init (check_set_init_1 hT ?_)) fun r₂ s₂ hr₂ => ?_
      · obtain ⟨ol, hol, hcl, nl, hdl⟩ := hl
        obtain ⟨ocls, odict, odata, oslots⟩ := ol
        simp only at hcl hdl
        subst hcl; subst hdl
        have hol' : (s.heap.push N0).get? l = some { cls := .type "list", dict := odict, data := .seq its nl, slots := oslots } := Heap.get?_push_of_some _ hol
        have hsls := F.sub_list_set
        have hslf := F.sub_list_frozenset
        have hne : (Value.type "list" == Value.type "dict") = false := by decide
        have hl1 : (s.heap.push N0).IsList l its := ⟨_, hol', rfl, nl, rfl⟩
        have hlS : l < s.heap.objs.size := Heap.lt_size hol
        have hh3 : A.in1.in1.in1.handled = none := by simp [hh]
        have hneI : l ≠ (s.heap.push N0).objs.size := by
          rw [Heap.size_push]; exact Nat.ne_of_lt (Nat.lt_succ_of_lt hlS)
        have hSf : s.heap.objs.size ∉ [(s.heap.push N0).objs.size, l] := by
          rw [Heap.size_push]; simp only [List.mem_cons, List.mem_singleton, List.not_mem_nil, or_false, not_or]
          exact ⟨Nat.ne_of_lt (Nat.lt_succ_self _), Nat.ne_of_gt hlS⟩
        have hval : ∀ (i : Nat) (v : Value), its[i]? = some v → ∃ k t, xs[i]? = some k ∧ v = .str k t := fun i v hv => by
          have hv' : its.toList[i]? = some v := by rw [Array.getElem?_toList]; exact hv
          have hlt : i < xs.length := by rw [← hisz, ← Array.length_toList]; exact (List.getElem?_eq_some_iff.mp hv').1
          obtain ⟨t, e⟩ := SS.strs_at hi i v hv'
          refine ⟨xs[i], t, List.getElem?_eq_getElem hlt, ?_⟩
          rw [e, List.getD_eq_getElem?_getD, List.getElem?_eq_getElem hlt]
          rfl
        have hget : ((s.heap.push N0).push { cls := .type "list_iterator", data := .fields #[.ref l, .int 0 0] }).get? s.heap.objs.size = some N0 := Heap.get?_push_of_some _ hS
        have hb2' : ∀ b, b < s.heap.objs.size → b ≠ (s.heap.push N0).objs.size := fun b hb => by
          rw [Heap.size_push]; exact Nat.ne_of_lt (Nat.lt_succ_of_lt hb)
        subst hN0
        unfold Builtin.«set.__init__» noKeywords Builtin.Frozenset.updateFrom
        generalize hPI : pyIter = PI
        wp_walk
        subst hPI
        refine wpAny_pyIter_list hl1 ?_
        refine wpAny_bind (wpAny_runValue ?_)
        refine tx_loop ((Walks.list hh3 _ l hneI its).toS) s.heap.objs.size hSf xs hisz hfew hval (its.size - 0) 0 _ (by omega) (Nat.zero_le _)
          ⟨⟨_, Heap.get?_push_size _ rfl, rfl, rfl⟩, (hl1.push _)⟩ (TxS.new hget) ?_
        intro s' hm hS'
        obtain ⟨h', g2, d', tk', os'⟩ := s'
        have eg : g2 = s.gens := hm.gens
        have ed : d' = s.drawn := hm.drawn
        have eo : os' = s.os := hm.os
        subst eg; subst ed; subst eo
        show wpAny _ _ _ _ _ _
        refine wpAny_pure ?_
        show wpAny _ _ (ret Value.none) _ _ _
        refine wpAny_pure ⟨rfl, h', tk', rfl, hS', fun b o e => ?_⟩
        have hb := Heap.lt_size e
        have hb1 : b ≠ s.heap.objs.size := Nat.ne_of_lt hb
        have hb2 := hb2' b hb
        exact hm.heap b o (by simp only [List.mem_cons, List.mem_singleton, List.not_mem_nil, or_false, not_or]; exact ⟨hb1, hb2⟩) (Heap.get?_push_of_some _ (Heap.get?_push_of_some _ e))
      · cases r₂ with
        | error e => exact hr₂
        | ok fl₂ =>
          cases fl₂ with
          | ret r =>
            obtain ⟨rfl, h', tk, rfl, hS', hk'⟩ := hr₂
            repeat (any_goals (first | assumption | wp_step))
            exact h _ _ hS' hk'
          | _ => exact hr₂.elim
    | _ => exact hr.elim
/-- sorted(found) -/
theorem tx_sorted {Q : Value → Shared → Prop} (R : TxS w s.heap a L) (hh : A.handled = none)
    (hQ : ∀ s' p (out : Array Value) (c : Nat), (∀ b o, s.heap.get? b = some o → s'.heap.get? b = some o) → s'.gens = s.gens → s'.os = s.os → s.heap.objs.size ≤ p →
      s'.heap.get? p = some (seqObj "list" out c) → StrsAre out.toList (srtS L) → Q (.ref p) s') :
    wpAny (model P w) A (call (.builtin "sorted") [.ref a]) Q E s := by
  obtain ⟨o, es, ep, t, ho, hex, hd, g, pL, nd, hb, hf, hr, hl⟩ := R.ex
  refine Calls.call_function_entry kind_sorted plain_sorted entry_sorted (args_sorted1 _) ?_
  unfold Builtin.«sorted»
  refine wpAny_bind (m := checkCount "sorted" 1 1 _) (wpAny_pure ?_)
  refine wpAny_bind (collect_set (A := A.in1) hh ⟨o, ho, hex.1, hd⟩ hf hb hr hl fun s1 vs k1 hz g1 o1 pm => ?_)
  have hS : StrsAre vs (vs.map strOf) := strsAre_map vs fun v hv => by
    obtain ⟨e, he, q⟩ := List.mem_map.mp (pm.mem_iff.mp hv)
    obtain ⟨k, u, rfl⟩ := g e he
    exact ⟨k, u, q.symm⟩
  have pk : (vs.map strOf).Perm L := by
    have q := pm.map strOf
    rw [List.map_map] at q
    exact q.trans pL
  have hvl : vs.length ≤ sizeLine := by
    rw [pm.length_eq, List.length_map, Array.length_toList]
    exact fits_of_scanBound hb
  refine wpAny_bind (wpAny_newList ?_ hvl)
  have hoL : (s1.heap.push (seqObj "list" vs.toArray 0)).get? s1.heap.objs.size = some (seqObj "list" vs.toArray 0) := Heap.get?_push_size _ rfl
  refine wpAny_bind (wpAny_holding (wpAny_call_entry slot_list_sort ⟨_, hoL, rfl⟩ entry_list_sort (list_sort_treeKAny strKind_oneLt hoL hS.keysOf (fun v₁ v₂ rest e => keyKind_strs (by rw [← e]; exact hS)) hvl fun st' hp hs => ⟨_, rfl, ?_⟩) (args_list_sort _)))
  obtain ⟨ys, q1, q2, q3⟩ := sorted_out_str hS hp hs
  obtain ⟨c, hc⟩ := sortedHeap_at (vs := vs) (out := (arrOf st').map (·.2)) hoL
  rw [srtS_one (q2.trans pk) q3] at q1
  refine wpAny_pure ⟨_, rfl, hQ _ s1.heap.objs.size _ c (fun b u e => ?_) g1 o1 hz hc q1⟩
  have q := k1 b u e
  have hlt := Heap.lt_size q
  show (sortedHeap (s1.heap.push (seqObj "list" vs.toArray 0)) s1.heap.objs.size vs _).get? b = some u
  rw [sortedHeap_old (Nat.ne_of_lt hlt) (by rw [size_push']; exact Nat.lt_succ_of_lt hlt)]
  exact Heap.get?_push_of_some _ q
end
end Td

set_option Elab.async false
set_option linter.all false
set_option maxRecDepth 100000
set_option maxHeartbeats 4000000
namespace Td
open PySem L2 PySem.Spec PyProof.Rows
/-! ### t[::-1] -/
section
variable {prog : Program} {w : World} {A : Around} {E : Value → Shared → Prop} {s : Shared}
theorem rev_adjust (n : Nat) : Builtin.Slice.sliceAdjust none none (-1) (n : Int) = ((n : Int) - 1, -1) := by
  unfold Builtin.Slice.sliceAdjust
  simp
theorem rev_places (n : Nat) : Builtin.Slice.slicePlaces ((n : Int) - 1) (-1) (-1) = n := by
  unfold Builtin.Slice.slicePlaces
  simp
  omega
theorem rev_pick (xs : Array Value) : ((List.range xs.size).filterMap fun (k : Nat) => xs[((xs.size : Int) - 1 + (k : Int) * -1).toNat]?).toArray = xs.toList.reverse.toArray := by
  have e : (List.range xs.size).filterMap (fun (k : Nat) => xs[((xs.size : Int) - 1 + (k : Int) * -1).toNat]?) = ((List.range xs.size).map fun k => xs.size - 1 - k).filterMap (fun k => xs[k]?) := by
    rw [List.filterMap_map]
    have f : (fun (k : Nat) => xs[((xs.size : Int) - 1 + (k : Int) * -1).toNat]?) = (fun k => xs[k]?) ∘ fun k => xs.size - 1 - k := by
      funext k
      show xs[((xs.size : Int) - 1 + (k : Int) * -1).toNat]? = xs[xs.size - 1 - k]?
      have : ((xs.size : Int) - 1 + (k : Int) * -1).toNat = xs.size - 1 - k := by omega
      rw [this]
    rw [f]
  rw [e, PySem.W.krv_range, List.filterMap_reverse, PySem.W.krv_all]
theorem sliceApplied_rev {sl : Addr} {t : Tok} {n : Nat} {Q : Int × Int × Nat → Shared → Prop} (hs : s.heap.IsSliceOf sl .none .none (.int (-1) t)) (h : Q ((n : Int) - 1, -1, n) s) :
    wpAny (model prog w) A (Builtin.Slice.sliceApplied (.ref sl) (pure (n : Int))) Q E s := by
  obtain ⟨os, hos, hcs, hds⟩ := id hs
  unfold Builtin.Slice.sliceApplied Builtin.Slice.sliceFields
  refine wpAny_bind (wpAny_bind (wpAny_field hos hds (x := .none) rfl ?_))
  refine wpAny_bind (wpAny_field hos hds (x := .none) rfl ?_)
  refine wpAny_bind (wpAny_field hos hds (x := .int (-1) t) rfl (wpAny_pure ?_))
  refine wpAny_bind (HT.slicePart_ (.int (-1) t) ?_)
  show wpAny _ _ (if ((-1 : Int) == 0) = true then _ else _) _ _ s
  rw [if_neg (by decide)]
  refine wpAny_bind (HT.slicePart_ .none (wpAny_bind (HT.slicePart_ .none ?_)))
  refine wpAny_bind (wpAny_pure ?_)
  show wpAny _ _ (match Builtin.Slice.sliceAdjust none none (-1) (n : Int) with | (lo, hi) => pure (lo, (-1 : Int), Builtin.Slice.slicePlaces lo hi (-1))) _ _ s
  rw [rev_adjust]
  show wpAny _ _ (pure ((n : Int) - 1, (-1 : Int), Builtin.Slice.slicePlaces ((n : Int) - 1) (-1) (-1))) _ _ s
  rw [rev_places]
  exact wpAny_pure h
theorem getItem_tuple_rev {t sl : Addr} {items : Array Value} {tk : Tok} {Q : Value → Shared → Prop} (ht : IsTup s.heap t items) (hs : s.heap.IsSliceOf sl .none .none (.int (-1) tk))
    (h : Q (.ref s.heap.objs.size) { s with heap := s.heap.push { cls := .type "tuple", data := .seq items.toList.reverse.toArray } }) (hsz : items.size ≤ sizeLine) : wpAny (model prog w) A (getItem (.ref t) (.ref sl)) Q E s := by
  obtain ⟨os, hos, hcs, hds⟩ := id hs
  have hTs : s.TypeIs (.ref sl) "slice" := ⟨os, hos, hcs⟩
  have fits : sizeOk (.seq items.toList.reverse.toArray) := by
    show items.toList.reverse.toArray.size ≤ sizeLine
    rw [List.size_toArray, List.length_reverse, Array.length_toList]
    exact hsz
  unfold getItem
  try with_reducible refine wpAny_holding ?_
  first | refine wpAny_bind (wpAny_pure ?_) | skip
  refine wpAny_bind (wpAny_sequenceKey ht.typeIs (by decide) ?_)
  refine wpAny_bind (wpAny_callSpecial?_slot (name := Str.ofString "__getitem__") ht.typeIs PyProof.Rows.slot_tuple_getitem (wpAny_call_entry PyProof.Rows.slot_tuple_getitem ht.typeIs PyProof.Rows.entry_tuple_getitem ?_ (PyProof.Rows.args_tuple_getitem _ _)))
  show wpAny _ _ (Builtin.Tuple.tupleItemsOf (.ref t) >>= _) _ _ s
  refine wpAny_bind (tupleItemsOf_ ht ?_)
  refine wpAny_bind (wpAny_typeOf hTs ?_)
  rw [if_pos (by decide)]
  refine wpAny_bind (sliceApplied_rev hs ?_)
  have hno : ¬ (((((items.size : Nat) : Int) - 1) == 0 && (-1 : Int) == 1 && items.size == items.size) = true) := by simp
  show wpAny _ _ (if ((((items.size : Nat) : Int) - 1) == 0 && (-1 : Int) == 1 && items.size == items.size) = true then _ else _) _ _ s
  rw [if_neg hno, rev_pick]
  first
    | exact wpAny_bind (m := Builtin.Tuple.tupleExact _) (wpAny_newObj_type (wpAny_pure ⟨_, rfl, wpAny_pure h⟩) fits)
    | exact wpAny_bind (m := Builtin.Tuple.tupleExact _) (wpAny_newObj_type (wpAny_bind (wpAny_pure (wpAny_pure ⟨_, rfl, wpAny_pure h⟩))) fits)
    | exact wpAny_bind (wpAny_bind (m := Builtin.Tuple.tupleExact _) (wpAny_newObj_type (wpAny_pure (wpAny_pure ⟨_, rfl, wpAny_pure h⟩)) fits))
    | exact wpAny_bind (wpAny_bind (m := Builtin.Tuple.tupleExact _) (wpAny_newObj_type (wpAny_pure ⟨_, rfl, wpAny_pure h⟩) fits))
end
section
variable {X : Cx} {W : WX}
def revD (_ : Ws) : PyData → Option PyData
  | .tuple a => some (.tuple a.reverse)
  | _ => none
theorem pf_rev {o : Expr} {fo : FE} {k : Nat} {p2 p3 p4 pos : Pos} (ho : PF X W o fo) : PF X W (.Subscript o (.Slice none none (some (.UnaryOp .USub (.Constant (.int 1) k p3) p4)) p2) pos) (eU revD fo) := by
  refine ⟨fun pins s σ H Q I h => ?_⟩
  obtain ⟨g, ρ, w, hK, r, e, q⟩ := h
  have want : lE X.K W fo σ H fun x H1 => ∃ a xs, x = .ref a ∧ SqT X.K H1 a xs ∧ ∀ p, H1 p = none → Q (.ref p) (upd H1 p (.tup xs.reverse)) := by
    refine lX_bind hK r e q fun v H1 g1 d w1 x r1 e1 dv z => ?_
    cases dv with
    | tup sq da => exact ⟨_, _, rfl, (x.k.trans hK) ▸ r1.sqT sq, fun p hp => z _ _ _ (Xt.put (r1.fnone hp)) (r1.put hp) (newT r1 hp da.reverse)⟩
    | _ => exact z.elim
  refine Subscript_ (thn (ho.run pins s σ H _ I want) fun v s1 ⟨x, H1, I1, r1, a, xs, ex, hx, qq⟩ => ?_)
  subst ex
  cases r1
  have step : PO X (some (.UnaryOp .USub (.Constant (.int 1) k p3) p4)) (tPart (tUn (rU fun i => .int (-i)) (tC (.int 1)))) := po_some (pe_un un_neg pe_int)
  refine wpAny_Slice (thn (po_none.run pins s1 σ H1 (fun o H2 => o = none ∧ H2 = H1) I1 ⟨rfl, rfl⟩) fun vl s2 ⟨l, H2, I2, pl, el, e2⟩ => ?_)
  subst el e2
  refine thn (po_none.run pins s2 σ H2 (fun o H3 => o = none ∧ H3 = H2) I2 ⟨rfl, rfl⟩) fun vu s3 ⟨u, H3, I3, pu, eu, e3⟩ => ?_
  subst eu e3
  refine thn (step.run pins s3 σ H3 (fun o H4 => o = some (-1) ∧ H4 = H3) I3 ⟨1, rfl, -1, rfl, rfl, rfl⟩) fun vs s4 ⟨o, H4, I4, ps, eo, e4⟩ => ?_
  subst eo e4
  cases pl
  cases pu
  cases ps with
  | int i t =>
    obtain ⟨h5, hh5⟩ : ∃ h5 : Heap, h5 = s4.heap.push { cls := .type "slice", data := .fields #[.none, .none, .int (-1) t] } := ⟨_, rfl⟩
    have I5 : Inv X pins σ H4 { s4 with heap := s4.heap.push { cls := .type "slice", data := .fields #[.none, .none, .int (-1) t] } } := I4.kept (t' := s4.toks) fun b ob z => Heap.get?_push_of_some _ z
    obtain ⟨its, rv, ht, hz⟩ := I5.tuple hx
    have hlen := rv.length
    show wpAny (model X.prog X.w) X.A (subscriptTail o (.Slice none none (some (.UnaryOp .USub (.Constant (.int 1) k p3) p4)) p2) (.ref a) (.ref s4.heap.objs.size)) (EP X pins σ Q) X.xe { s4 with heap := s4.heap.push { cls := .type "slice", data := .fields #[.none, .none, .int (-1) t] } }
    refine tail_any (ops := [.ref a, .ref s4.heap.objs.size]) ht.typeIs PyProof.Rows.slot_tuple_getitem.lookup ?_ (by with_unfolding_all rfl)
    refine getItem_tuple_rev ht (Heap.IsSliceOf.new _ .none .none (.int (-1) t)) ?_ (by rw [List.size_toArray]; omega)
    refine ⟨.ref _, _, I5.laid (t' := s4.toks) (o := .tup xs.reverse) (fun b ob z => Heap.get?_push_of_some _ z) (Nat.le_refl _) ?_, rfl, qq _ (I5.hok.fresh (Nat.le_refl _))⟩
    exact ⟨by rw [List.length_reverse]; exact hz, _, rv.reverse, IsTup.new _ _⟩
def strsD : List PyData → Option (List Str)
  | [] => some []
  | .str x :: r => (strsD r).map (x :: ·)
  | _ => none
def sosD (w : Ws) : List PyData → Option PyData
  | [d] => match lstOf w d with
    | some ds => match strsD ds with
      | some xs => if decide (xs.length + 1 < scanBound) then some (.list ((srtS (ddS xs)).map .str)) else none
      | none => none
    | none => none
  | _ => none
theorem strsD_ok {g : Gd} : ∀ {vs : List V} {ds : List PyData} {xs : List Str}, DqA g vs ds → strsD ds = some xs → vs = xs.map V.str
  | _, _, _, .nil, h => by cases h; rfl
  | _, _, _, .cons d0 dr, h => by
    cases d0 with
    | str x =>
      simp only [strsD] at h
      cases e : strsD _ with
      | none => rw [e] at h; cases h
      | some ys =>
        rw [e] at h
        cases h
        rw [strsD_ok dr e]
        rfl
    | _ => simp [strsD] at h
theorem dqA_strs {g : Gd} : ∀ xs : List Str, DqA g (xs.map V.str) (xs.map PyData.str)
  | [] => .nil
  | x :: xs => .cons (.str x) (dqA_strs xs)
theorem inv_strs {pins : List (Addr × Obj)} {s2 s' : Shared} {σ : L2.St} {H1 : Hp} {p : Addr} {out : Array Value} {c : Nat} {ys : List Str} (I2 : Inv X pins σ H1 s2) (k : ∀ b o, s2.heap.get? b = some o → s'.heap.get? b = some o) (gg : s'.gens = s2.gens) (oo : s'.os = s2.os) (hp : s2.heap.objs.size ≤ p)
    (hg' : s'.heap.get? p = some (PyProof.Rows.seqObj "list" out c)) (hlen : (ys.map V.str).length ≤ sizeLine) (hi : PyProof.Rows.StrsAre out.toList ys) : Inv X pins σ (upd H1 p (.lst (ys.map V.str))) s' := by
  have J : Inv X pins σ (upd H1 p (.lst (ys.map V.str))) { s2 with heap := s'.heap, gens := s'.gens, drawn := s'.drawn, toks := s'.toks } :=
    I2.call (ch := []) (Un.laid k hp (I2.hok.fresh hp)) (I2.hok.laid k hp ⟨hlen, out.toList, c, vals_of_strs hi, hg'⟩) (by rw [gg]; exact I2.bare) (fun _ z => nomatch z)
  have e : s' = { s2 with heap := s'.heap, gens := s'.gens, drawn := s'.drawn, toks := s'.toks } := by
    cases s'
    cases s2
    cases oo
    rfl
  rw [e]
  exact J
theorem pf_sortset {e : Expr} {fa : FA} {p1 p2 pos pos2 : Pos} (hc : X.calm = true) (hg : Gl X "sorted") (hm : X.mg "sorted" = none) (hg2 : Gl X "set") (hm2 : X.mg "set" = none) (ha : PAf X W [e] fa)
    (na : starEach [e] X.env = (false, eval e X.env) :: starEach [] X.env := by rfl) : PF X W (.Call (.Name "sorted" p1) [.Call (.Name "set" p2) [e] [] pos2] [] pos) (eCb sosD fa) := by
  refine ⟨fun pins s σ H Q I h => ?_⟩
  obtain ⟨g, ρ, w, hK, r, e0, q⟩ := h
  have want : lA X.K W fa σ H fun vs H1 => ∃ a xs, vs = [.ref a] ∧ SqL X.K H1 a (xs.map V.str) ∧ xs.length + 1 < scanBound ∧ ∀ p, H1 p = none → Q (.ref p) (upd H1 p (.lst ((srtS (ddS xs)).map V.str))) := by
    refine lX_bind hK r e0 q fun v H1 g1 d w1 x r1 e1 dv z => ?_
    cases hz : sosD w1 d with
    | none => rw [hz] at z; exact z.elim
    | some y =>
      rw [hz] at z
      unfold sosD at hz
      split at hz
      · split at hz
        · rename_i ds hds
          split at hz
          · rename_i xs hxs
            split at hz
            · rename_i hs
              cases hz
              cases dv with
              | cons d0 dn =>
                cases dn
                obtain ⟨a, vs, rfl, sq, da⟩ := lstOf_ok r1 d0 hds
                have ev := strsD_ok da hxs
                subst ev
                exact ⟨a, xs, rfl, (x.k.trans hK) ▸ sq, of_decide_eq_true hs, fun p hp => z _ _ _ (Xt.put (r1.fnone hp)) (r1.put hp) (newL r1 hp (dqA_strs _))⟩
            · cases hz
          · cases hz
        · cases hz
      · cases hz
  refine Call_ (ld_blt I hg hm boot_sorted ?_)
  refine PyProof.Rows.callWith_builtin1 (PyProof.Rows.args_cons ?_ rfl) rfl rfl
  refine Call_ (ld_blt I hg2 hm2 boot_set ?_)
  refine PyProof.Rows.callWith_type1 (thn (ha.run pos2 pins s σ H _ I want) fun us s1 ⟨vs, H1, I1, r1, a, xs, ev, sq, hfew, qq⟩ => ?_) na rfl
  subst ev
  rw [Vals.ref1 r1]
  obtain ⟨its, rv, pl, hz⟩ := I1.list sq
  refine tx_call (I1.ok.hd hc) pl.isList (by simpa using strsAre_of rv) hfew fun h' tk hS hk => ?_
  have I2 : Inv X pins σ H1 { s1 with heap := h', toks := tk } := I1.kept hk
  refine PyProof.Rows.args_nil ?_
  refine tx_sorted (s := { s1 with heap := h', toks := tk }) hS (I2.ok.hd hc) fun s' p out c k gg oo hp hg' hi => ?_
  have hn : H1 p = none := I2.hok.fresh hp
  have hlen : ((srtS (ddS xs)).map V.str).length ≤ sizeLine := by
    have h1 := (srtS_perm (ddS xs)).length_eq
    have h2 := ddS_len xs xs.length (Nat.le_refl _)
    rw [List.take_length] at h2
    rw [List.length_map, h1]
    exact Nat.le_trans h2 (fits_of_scanBound (Nat.lt_of_succ_lt hfew))
  exact ⟨.ref p, _, inv_strs I2 k gg oo hp hg' hlen hi, rfl, qq p hn⟩
end
end Td

set_option Elab.async false
set_option linter.all false
set_option maxRecDepth 100000
set_option maxHeartbeats 4000000
namespace Td
open PySem L2
/-! ### what a reading comes to: a small logic -/
inductive wO {α : Type} (Q : α → Ws → Prop) : Oc α → Prop
  | mk {a : α} {w : Ws} (h : Q a w) : wO Q (.ok a w)
/-- N: goes on, R: returns -/
inductive wS (N : Ev → Ws → Prop) (R : PyData → Ws → Prop) : Os → Prop
  | nx {ρ : Ev} {w : Ws} (h : N ρ w) : wS N R (.nx ρ w)
  | rt {d : PyData} {w : Ws} (h : R d w) : wS N R (.rt d w)
theorem wO_ok {α : Type} {Q : α → Ws → Prop} {a : α} {w : Ws} : wO Q (.ok a w) = Q a w := propext ⟨fun h => by cases h; assumption, .mk⟩
theorem wO_xc {α : Type} {Q : α → Ws → Prop} {c : Value} {fs : List (Str × PyData)} {w : Ws} : wO Q (.ex c fs w) = False := propext ⟨fun h => (by cases h), False.elim⟩
theorem wO_no {α : Type} {Q : α → Ws → Prop} : wO Q .no = False := propext ⟨fun h => (by cases h), False.elim⟩
theorem wS_nx {N : Ev → Ws → Prop} {R : PyData → Ws → Prop} {ρ : Ev} {w : Ws} : wS N R (.nx ρ w) = N ρ w := propext ⟨fun h => by cases h; assumption, .nx⟩
theorem wS_rt {N : Ev → Ws → Prop} {R : PyData → Ws → Prop} {d : PyData} {w : Ws} : wS N R (.rt d w) = R d w := propext ⟨fun h => by cases h; assumption, .rt⟩
theorem wS_xc {N : Ev → Ws → Prop} {R : PyData → Ws → Prop} {ρ : Ev} {c : Value} {fs : List (Str × PyData)} {w : Ws} : wS N R (.ex ρ c fs w) = False := propext ⟨fun h => (by cases h), False.elim⟩
theorem wS_no {N : Ev → Ws → Prop} {R : PyData → Ws → Prop} : wS N R .no = False := propext ⟨fun h => (by cases h), False.elim⟩
theorem wO_bind {α β : Type} {Q : β → Ws → Prop} {x : Oc α} {f : α → Ws → Oc β} : wO Q (x.bind f) = wO (fun a w => wO Q (f a w)) x := by cases x <;> simp only [Oc.bind, wO_ok, wO_xc, wO_no]
theorem wO_mono {α : Type} {Q Q' : α → Ws → Prop} {x : Oc α} (h : wO Q x) (i : ∀ a w, Q a w → Q' a w) : wO Q' x := by
  cases h with
  | mk h => exact .mk (i _ _ h)
theorem wO_some {α : Type} {Q : α → Ws → Prop} {a : α} {w : Ws} : wO Q (Oc.of (some a) w) = Q a w := wO_ok
theorem wO_on {α : Type} {Q : α → Ws → Prop} {b : Bool} {x : Oc α} (hb : b = true) (h : wO Q x) : wO Q (Oc.on b x) := by subst hb; exact h
theorem wO_ex {α : Type} {Q : α → Ws → Prop} {x : Oc α} : wO Q x ↔ ∃ a w, x = .ok a w ∧ Q a w := by
  exact ⟨fun h => by cases h with | mk h => exact ⟨_, _, rfl, h⟩, fun ⟨_, _, e, q⟩ => by subst e; exact .mk q⟩
variable {Q : PyData → Ws → Prop} {QA : List PyData → Ws → Prop} {QT : Bool → Ws → Prop} {N : Ev → Ws → Prop} {R : PyData → Ws → Prop} {ρ : Ev} {w : Ws}
theorem wE_C {d : PyData} : wO Q (eC d ρ w) = Q d w := wO_ok
theorem wE_V {i : Nat} {d : PyData} (h : ρ[i]? = some (some d)) : wO Q (eV i ρ w) = Q d w := by unfold eV; rw [h]; exact wO_ok
theorem wE_B {f : Ws → PyData → PyData → Option PyData} {a b : FE} : wO Q (eB f a b ρ w) = wO (fun d w1 => wO (fun e w2 => wO Q (Oc.of (f w2 d e) w2)) (b ρ w1)) (a ρ w) := by simp only [eB, wO_bind]
theorem wE_U {f : Ws → PyData → Option PyData} {a : FE} : wO Q (eU f a ρ w) = wO (fun d w1 => wO Q (Oc.of (f w1 d) w1)) (a ρ w) := by simp only [eU, wO_bind]
theorem wE_Cb {f : Ws → List PyData → Option PyData} {a : FA} : wO Q (eCb f a ρ w) = wO (fun d w1 => wO Q (Oc.of (f w1 d) w1)) (a ρ w) := by simp only [eCb, wO_bind]
theorem wE_Call {f : FF} {ds : List PyData} {a : FA} : wO Q (eCall f ds a ρ w) = wO (fun as w1 => wO Q (f (as ++ ds) w1)) (a ρ w) := by simp only [eCall, wO_bind]
theorem wA_N : wO QA (aN ρ w) = QA [] w := wO_ok
theorem wA_C {f : FE} {k : FA} : wO QA (aC f k ρ w) = wO (fun d w1 => wO (fun ds w2 => QA (d :: ds) w2) (k ρ w1)) (f ρ w) := by simp only [aC, wO_bind, wO_ok]
theorem wE_Tup {a : FA} : wO Q (eTup a ρ w) = wO (fun ds w1 => wO Q (Oc.on (szOk ds.length) (.ok (.tuple ds) w1))) (a ρ w) := by simp only [eTup, wO_bind]
theorem wE_Lst {a : FA} : wO Q (eLst a ρ w) = wO (fun ds w1 => wO Q (Oc.on (szOk ds.length) (.ok (.list ds) w1))) (a ρ w) := by simp only [eLst, wO_bind]
theorem wE_Sl {f : FE} {l h : FO} : wO Q (eSl f l h ρ w) = wO (fun d w1 => wO (fun l w2 => wO (fun h w3 => wO Q (Oc.of (cutD w3 d l h) w3)) (h ρ w2)) (l ρ w1)) (f ρ w) := by simp only [eSl, wO_bind]
theorem wO_N {QO : Option Int → Ws → Prop} : wO QO (oN ρ w) = QO none w := wO_ok
theorem wO_S {QO : Option Int → Ws → Prop} {f : FE} : wO QO (oS f ρ w) = wO (fun d w1 => match d with | .int i => QO (some i) w1 | _ => False) (f ρ w) := by
  simp only [oS, wO_bind]
  congr 1
  funext d w1
  cases d <;> first | exact wO_ok | exact wO_no
theorem wT_B {f : FE} : wO QT (tB' f ρ w) = wO (fun d w1 => match d with | .bool b => QT b w1 | _ => False) (f ρ w) := by
  simp only [tB', wO_bind]
  congr 1
  funext d w1
  cases d <;> first | exact wO_ok | exact wO_no
theorem wT_An {t u : FT} : wO QT (tAn t u ρ w) = wO (fun b w1 => cond b (wO QT (u ρ w1)) (QT false w1)) (t ρ w) := by
  simp only [tAn, wO_bind]
  congr 1
  funext b w1
  cases b <;> first | exact wO_ok | rfl
theorem wT_Or {t u : FT} : wO QT (tOr' t u ρ w) = wO (fun b w1 => cond b (QT true w1) (wO QT (u ρ w1))) (t ρ w) := by
  simp only [tOr', wO_bind]
  congr 1
  funext b w1
  cases b <;> first | exact wO_ok | rfl
theorem wT_No {t : FT} : wO QT (tNo t ρ w) = wO (fun b w1 => QT (!b) w1) (t ρ w) := by simp only [tNo, wO_bind, wO_ok]
theorem wT_Tr {f : FE} : wO QT (tTr f ρ w) = wO (fun d w1 => wO QT (Oc.of (truD d w1) w1)) (f ρ w) := by simp only [tTr, wO_bind]
theorem wS_then {α : Type} {x : Oc α} {k : α → Ws → Os} : wS N R (x.thenS ρ k) = wO (fun a w1 => wS N R (k a w1)) x := by cases x <;> simp only [Oc.thenS, wO_ok, wO_xc, wO_no, wS_xc, wS_no]
theorem wS_Seq {f k : FS} (h : wS (fun ρ1 w1 => wS N R (k ρ1 w1)) R (f ρ w)) : wS N R (sSeq f k ρ w) := by
  unfold sSeq
  cases e : f ρ w with
  | nx ρ1 w1 => rw [e, wS_nx] at h; exact h
  | rt d w1 => rw [e, wS_rt] at h; exact .rt h
  | _ => rw [e] at h; cases h
theorem wS_Nil : wS N R (sNil ρ w) = N ρ w := wS_nx
theorem wS_Ret {f : FE} : wS N R (sRet f ρ w) = wO R (f ρ w) := by simp only [sRet, wS_then, wS_rt]
theorem wS_If {t : FT} {f k : FS} : wS N R (sIf t f k ρ w) = wO (fun b w1 => cond b (wS N R (f ρ w1)) (wS N R (k ρ w1))) (t ρ w) := by
  simp only [sIf, wS_then]
  congr 1
  funext b w1
  cases b <;> rfl
theorem wS_Asg {f : FE} {i : Nat} : wS N R (sAsg f (gN i) ρ w) = wO (fun d w1 => N (ρ.set i (some d)) w1) (f ρ w) := by simp only [sAsg, wS_then, gN, wS_nx]
theorem wS_mono {N' : Ev → Ws → Prop} {R' : PyData → Ws → Prop} {o : Os} (h : wS N R o) (i : ∀ ρ w, N ρ w → N' ρ w) (j : ∀ d w, R d w → R' d w) : wS N' R' o := by
  cases h with
  | nx h => exact .nx (i _ _ h)
  | rt h => exact .rt (j _ _ h)
theorem leave_ret {w' : Ws} {n : Nat} {d : PyData} (h : w'.length = n) : leave n (.rt d w') = .ok d w' := by
  subst h
  simp only [leave]
  split
  · rw [List.take_length]
  · rfl
theorem leave_end {w' : Ws} {n : Nat} {ρ : Ev} (h : w'.length = n) : leave n (.nx ρ w') = .ok .none w' := by
  subst h
  simp only [leave]
  split
  · rw [List.take_length]
  · rfl
theorem wF {m n : Nat} {b : FS} {ds : List PyData} (hn : ds.length = n) (h : wS (fun _ w1 => w1.length = w.length ∧ Q .none w1) (fun d w1 => w1.length = w.length ∧ Q d w1) (b (startE m ds) w)) : wO Q (defF m n b ds w) := by
  unfold defF
  rw [if_pos hn]
  cases e : b (startE m ds) w with
  | nx ρ1 w1 => rw [e, wS_nx] at h; rw [leave_end h.1]; exact .mk h.2
  | rt d w1 => rw [e, wS_rt] at h; rw [leave_ret h.1]; exact .mk h.2
  | _ => rw [e] at h; cases h
/-- a for loop, by what holds before each round -/
theorem wS_forL {gt : FG} {body : FS} (J : Nat → Ev → Ws → Prop) : ∀ (ds : List PyData) (i : Nat) (ρ : Ev) (w : Ws), J i ρ w →
    (∀ j d ρ w, ds[j]? = some d → J (i + j) ρ w → wO (fun ρ1 w1 => wS (J (i + j + 1)) R (body ρ1 w1)) (gt d ρ w)) →
    (∀ ρ w, J (i + ds.length) ρ w → N ρ w) → wS N R (forL gt body ds ρ w)
  | [], i, ρ, w, hJ, _, hN => by unfold forL; exact .nx (hN ρ w hJ)
  | d :: ds, i, ρ, w, hJ, hs, hN => by
    have h0 := hs 0 d ρ w rfl hJ
    unfold forL
    cases e : gt d ρ w with
    | ok ρ1 w1 =>
      rw [e, wO_ok] at h0
      have h0 : wS (J (i + 0 + 1)) R (body ρ1 w1) := h0
      have ih : ∀ ρ2 w2, J (i + 1) ρ2 w2 → wS N R (forL gt body ds ρ2 w2) := fun ρ2 w2 hj => wS_forL J ds (i + 1) ρ2 w2 hj
        (fun j d' ρ' w' hd hj' => by
          have := hs (j + 1) d' ρ' w' hd (by rw [show i + (j + 1) = i + 1 + j by omega]; exact hj')
          rw [show i + (j + 1) + 1 = i + 1 + j + 1 by omega] at this
          exact this)
        (fun ρ' w' hj' => hN ρ' w' (by rw [List.length_cons, show i + (ds.length + 1) = i + 1 + ds.length by omega]; exact hj'))
      cases e2 : body ρ1 w1 with
      | nx ρ2 w2 => rw [e2, wS_nx] at h0; simp only [e2]; exact ih ρ2 w2 h0
      | rt d w2 => rw [e2, wS_rt] at h0; simp only [e2]; exact .rt h0
      | _ => rw [e2] at h0; cases h0
    | _ => rw [e] at h0; cases h0
theorem wS_For {fi : FA} {gt : FG} {body : FS} : wS N R (sFor fi gt body ρ w) = wO (fun ds w1 => wS N R (forL gt body ds ρ w1)) (fi ρ w) := by simp only [sFor, wS_then]
theorem wA_E {f : FE} : wO QA (iE f ρ w) = wO (fun d w1 => wO QA (Oc.of (itD d) w1)) (f ρ w) := by simp only [iE, wO_bind]
theorem wE_Lc {fi : FA} {gt : FG} {tt : FT} {fe : FE} {vs : List Nat} : wO Q (eLc fi gt tt fe vs ρ w) = wO (fun ds w1 => wO (fun acc w2 => Q (.list acc) w2) (lcL gt tt fe (wipeE ρ vs) ds w1 [])) (fi ρ w) := by simp only [eLc, wO_bind, wO_ok]
/-- a comprehension, by what holds of what is gathered -/
theorem wA_lcL {gt : FG} {tt : FT} {fe : FE} (J : Nat → List PyData → Ws → Prop) : ∀ (ds : List PyData) (i : Nat) (w : Ws) (acc : List PyData), acc.length + ds.length ≤ sizeLine → J i acc w →
    (∀ j d acc w, ds[j]? = some d → J (i + j) acc w → wO (fun ρ1 w1 => wO (fun b w2 => cond b (wO (fun y w3 => J (i + j + 1) (acc ++ [y]) w3) (fe ρ1 w2)) (J (i + j + 1) acc w2)) (tt ρ1 w1)) (gt d ρ w)) →
    (∀ acc w, J (i + ds.length) acc w → QA acc w) → wO QA (lcL gt tt fe ρ ds w acc)
  | [], i, w, acc, _, hJ, _, hN => .mk (hN acc w hJ)
  | d :: ds, i, w, acc, hz, hJ, hs, hN => by
    have h0 := hs 0 d acc w rfl hJ
    have hz' : acc.length + (ds.length + 1) ≤ sizeLine := hz
    have ih : ∀ acc2 w2, acc2.length ≤ acc.length + 1 → J (i + 1) acc2 w2 → wO QA (lcL gt tt fe ρ ds w2 acc2) := fun acc2 w2 hl hj => wA_lcL J ds (i + 1) w2 acc2 (by omega) hj
      (fun j d' a' w' hd hj' => by
        have := hs (j + 1) d' a' w' hd (by rw [show i + (j + 1) = i + 1 + j by omega]; exact hj')
        rw [show i + (j + 1) + 1 = i + 1 + j + 1 by omega] at this
        exact this)
      (fun a' w' hj' => hN a' w' (by rw [List.length_cons, show i + (ds.length + 1) = i + 1 + ds.length by omega]; exact hj'))
    unfold lcL
    cases e : gt d ρ w with
    | ok ρ1 w1 =>
      rw [e, wO_ok] at h0
      have h0 : wO (fun b w2 => cond b (wO (fun y w3 => J (i + 1) (acc ++ [y]) w3) (fe ρ1 w2)) (J (i + 1) acc w2)) (tt ρ1 w1) := h0
      cases e2 : tt ρ1 w1 with
      | ok b w2 =>
        rw [e2, wO_ok] at h0
        cases b with
        | true =>
          have h0 : wO (fun y w3 => J (i + 1) (acc ++ [y]) w3) (fe ρ1 w2) := h0
          cases e3 : fe ρ1 w2 with
          | ok y w3 =>
            rw [e3, wO_ok] at h0
            simp only [e2, e3]
            rw [if_pos (by omega)]
            exact ih _ _ (by rw [List.length_append]; exact Nat.le_refl _) h0
          | _ => rw [e3] at h0; cases h0
        | false =>
          simp only [e2]
          exact ih _ _ (by omega) h0
      | _ => rw [e2] at h0; cases h0
    | _ => rw [e] at h0; cases h0
theorem wA_R1 {fa : FA} : wO QA (iR1 fa ρ w) = wO (fun ds w1 => match ds with | [.int j] => wO QA (Oc.on (c62 j) (.ok (rgD 0 j) w1)) | _ => False) (fa ρ w) := by
  simp only [iR1, wO_bind]
  congr 1
  funext ds w1
  match ds with
  | [] => exact wO_no
  | [.int j] => rfl
  | [.none] => exact wO_no
  | [.bool _] => exact wO_no
  | [.str _] => exact wO_no
  | [.list _] => exact wO_no
  | [.tuple _] => exact wO_no
  | [.dict _] => exact wO_no
  | a :: _ :: _ => cases a <;> exact wO_no
theorem rgD_len (n : Nat) : (rgD 0 (n : Int)).length = n := by simp [rgD]
theorem c62_of {n : Int} (h : n.natAbs < 1000000000) : c62 n = true := decide_eq_true (by omega)
end Td

set_option Elab.async false
set_option linter.all false
set_option maxRecDepth 100000
set_option maxHeartbeats 4000000
namespace Tk
open PySem L2 PySem.Spec PyProof.Rows Td
def topS (i : Nat) : Stmt := PySem.Challenge.pw_tidyrules_k01_kinds_of_values.main.body.getD i (.Pass ⟨0, 0, 0, 0⟩)
abbrev s_is_integer : Stmt := topS 5
abbrev N_is_integer : List Str := ["thing"]
abbrev P_is_integer : List Str := ["thing"]
abbrev s_is_number : Stmt := topS 6
abbrev N_is_number : List Str := ["thing"]
abbrev P_is_number : List Str := ["thing"]
abbrev s_is_name : Stmt := topS 7
abbrev N_is_name : List Str := ["thing", "char"]
abbrev P_is_name : List Str := ["thing"]
abbrev s_is_remark : Stmt := topS 8
abbrev N_is_remark : List Str := ["thing"]
abbrev P_is_remark : List Str := ["thing"]
abbrev s_is_note : Stmt := topS 9
abbrev N_is_note : List Str := ["thing"]
abbrev P_is_note : List Str := ["thing"]
abbrev s_is_ascending : Stmt := topS 10
abbrev N_is_ascending : List Str := ["values", "one", "other"]
abbrev P_is_ascending : List Str := ["values"]
abbrev s_is_notes : Stmt := topS 11
abbrev N_is_notes : List Str := ["thing", "one"]
abbrev P_is_notes : List Str := ["thing"]
abbrev s_is_place : Stmt := topS 12
abbrev N_is_place : List Str := ["thing", "one"]
abbrev P_is_place : List Str := ["thing"]
abbrev s__law_reader : Stmt := topS 14
abbrev N__law_reader : List Str := ["_law_script"]
abbrev P__law_reader : List Str := ["_law_script"]
abbrev s__law_draw : Stmt := topS 15
abbrev N__law_draw : List Str := ["_law_reader_here", "_law_many", "_law_calls", "_law_spot", "_law_cells", "_law_cell", "_law_once", "_law_figure"]
abbrev P__law_draw : List Str := ["_law_reader_here", "_law_many"]
abbrev s__law_mutate : Stmt := topS 16
abbrev N__law_mutate : List Str := ["_law_reader_here", "_law_value", "_law_menu", "_law_way", "_law_at", "_law_more", "_law_lots"]
abbrev P__law_mutate : List Str := ["_law_reader_here", "_law_value", "_law_menu"]
abbrev s__law_is_number : Stmt := topS 17
abbrev N__law_is_number : List Str := ["_law_value"]
abbrev P__law_is_number : List Str := ["_law_value"]
abbrev s__law_is_name : Stmt := topS 18
abbrev N__law_is_name : List Str := ["_law_value", "_law_sign"]
abbrev P__law_is_name : List Str := ["_law_value"]
abbrev s__law_is_note : Stmt := topS 19
abbrev N__law_is_note : List Str := ["_law_value"]
abbrev P__law_is_note : List Str := ["_law_value"]
abbrev s__law_rises : Stmt := topS 20
abbrev N__law_rises : List Str := ["_law_some", "_law_k"]
abbrev P__law_rises : List Str := ["_law_some"]
abbrev s__law_are_notes : Stmt := topS 21
abbrev N__law_are_notes : List Str := ["_law_value", "_law_one"]
abbrev P__law_are_notes : List Str := ["_law_value"]
abbrev s__law_due : Stmt := topS 22
abbrev N__law_due : List Str := ["_law_value", "_law_is_int", "_law_due_here", "_law_spots", "_law_one"]
abbrev P__law_due : List Str := ["_law_value"]
abbrev s__law_fixed_values : Stmt := topS 23
abbrev N__law_fixed_values : List Str := ["_law_found", "_law_marks", "_law_far", "_law_signs", "_law_k"]
abbrev P__law_fixed_values : List Str := []
abbrev s_law : Stmt := topS 24
abbrev N_law : List Str := ["_law_script", "_law_reader_here", "_law_menu", "_law_lots", "_law_pool", "_law_turn", "_law_value", "_law_marks", "_law_spots", "_law_saved", "_law_got", "_law_once", "_law_k"]
abbrev P_law : List Str := ["_law_script"]
structure Tx (K : PySem.W.Frag) (mg : Str → Option Value) where
  d_is_integer : DefAt K mg "is_integer" s_is_integer P_is_integer
  d_is_number : DefAt K mg "is_number" s_is_number P_is_number
  d_is_name : DefAt K mg "is_name" s_is_name P_is_name
  d_is_remark : DefAt K mg "is_remark" s_is_remark P_is_remark
  d_is_note : DefAt K mg "is_note" s_is_note P_is_note
  d_is_ascending : DefAt K mg "is_ascending" s_is_ascending P_is_ascending
  d_is_notes : DefAt K mg "is_notes" s_is_notes P_is_notes
  d_is_place : DefAt K mg "is_place" s_is_place P_is_place
  d__law_reader : DefAt K mg "_law_reader" s__law_reader P__law_reader
  d__law_draw : DefAt K mg "_law_draw" s__law_draw P__law_draw
  d__law_mutate : DefAt K mg "_law_mutate" s__law_mutate P__law_mutate
  d__law_is_number : DefAt K mg "_law_is_number" s__law_is_number P__law_is_number
  d__law_is_name : DefAt K mg "_law_is_name" s__law_is_name P__law_is_name
  d__law_is_note : DefAt K mg "_law_is_note" s__law_is_note P__law_is_note
  d__law_rises : DefAt K mg "_law_rises" s__law_rises P__law_rises
  d__law_are_notes : DefAt K mg "_law_are_notes" s__law_are_notes P__law_are_notes
  d__law_due : DefAt K mg "_law_due" s__law_due P__law_due
  d__law_fixed_values : DefAt K mg "_law_fixed_values" s__law_fixed_values P__law_fixed_values
  d_law : DefAt K mg "law" s_law P_law
  b_all : mg "all" = none
  b_bool : mg "bool" = none
  b_int : mg "int" = none
  b_isinstance : mg "isinstance" = none
  b_len : mg "len" = none
  b_list : mg "list" = none
  b_range : mg "range" = none
  b_repr : mg "repr" = none
  b_set : mg "set" = none
  b_sorted : mg "sorted" = none
  b_str : mg "str" = none
  b_tuple : mg "tuple" = none
  b_zip : mg "zip" = none
  c_LETTERS : (t : Tok) ×' mg "LETTERS" = some (.str "abcdefghijklmnopqrstuvwxyz" t)
  c_LONGEST_NAME : (t : Tok) ×' mg "LONGEST_NAME" = some (.int 8 t)
  c_SILENCE : (t : Tok) ×' mg "SILENCE" = some (.str "-" t)
  c_WIDE : (t : Tok) ×' mg "WIDE" = some (.str "=" t)
def b_is_integer : FS :=
    (sRet (eAn (eIsi "int" (eV 0)) (eNo (eIsi "bool" (eV 0)))))
def F_is_integer : FF := defF 1 1 b_is_integer
def b_is_number : FS :=
    (sRet (eAn (eCall F_is_integer [] (aC (eV 0) aN)) (eB geD (eV 0) (eC (.int 0)))))
def F_is_number : FF := defF 1 1 b_is_number
def b_is_name : FS :=
    (sSeq (sIf (tOr' (tNo (tTr (eIsi "str" (eV 0)))) (tNo (tB' (eCh leD leD (eC (.int 1)) (eCb lenD (aC (eV 0) aN)) (eC (.int 8)))))) (sRet (eC (.bool false))) sNil)
    (sRet (eCb allD (aC (eLc (iE (eV 0)) (gN 1) tYs (eB inD (eV 1) (eC (.str "abcdefghijklmnopqrstuvwxyz"))) [1]) aN))))
def F_is_name : FF := defF 2 1 b_is_name
def b_is_remark : FS :=
    (sRet (eCall F_is_name [] (aC (eV 0) aN)))
def F_is_remark : FF := defF 1 1 b_is_remark
def b_is_note : FS :=
    (sSeq (sIf (tAn (tTr (eIsi "str" (eV 0))) (tB' (eB inD (eSl (eV 0) oN (oS (eC (.int 1)))) (eTup (aC (eC (.str "-")) (aC (eC (.str "=")) aN)))))) (sRet (eCall F_is_name [] (aC (eSl (eV 0) (oS (eC (.int 1))) oN) aN))) sNil)
    (sRet (eCall F_is_remark [] (aC (eV 0) aN))))
def F_is_note : FF := defF 1 1 b_is_note
def b_is_ascending : FS :=
    (sRet (eCb allD (aC (eLc (iZ (aC (eV 0) (aC (eSl (eV 0) (oS (eC (.int 1))) oN) aN))) (gT 2 (gC (gN 1) (gC (gN 2) gZ))) tYs (eB ltD (eV 1) (eV 2)) [1, 2]) aN)))
def F_is_ascending : FF := defF 3 1 b_is_ascending
def b_is_notes : FS :=
    (sRet (eAn (eIsi "tuple" (eV 0)) (eAn (eCb allD (aC (eLc (iE (eV 0)) (gN 1) tYs (eCall F_is_note [] (aC (eV 1) aN)) [1]) aN)) (eCall F_is_ascending [] (aC (eV 0) aN)))))
def F_is_notes : FF := defF 2 1 b_is_notes
def b_is_place : FS :=
    (sRet (eAn (eIsi "tuple" (eV 0)) (eCb allD (aC (eLc (iE (eV 0)) (gN 1) tYs (eCall F_is_number [] (aC (eV 1) aN)) [1]) aN))))
def F_is_place : FF := defF 2 1 b_is_place
def b__law_reader : FS :=
    (sRet (eDisp (((eC (.str "cells")), (eCb listD (aC (eSl (eV 0) oN (oS (eC (.int 63)))) aN))) :: (((eC (.str "spot")), (eC (.int 0))) :: (((eC (.str "rest")), (eC (.int 0))) :: (((eC (.str "calls")), (eC (.int 0))) :: []))))))
def F__law_reader : FF := defF 1 1 b__law_reader
def b__law_draw : FS :=
    (sSeq (sAsg (eB addD (eDg (eV 0) (eC (.str "calls"))) (eC (.int 1))) (gN 2))
    (sSeq (sDp (eV 0) (eC (.str "calls")) (eV 2))
    (sSeq (sIf (tB' (eB gtD (eDg (eV 0) (eC (.str "rest"))) (eC (.int 0)))) (sSeq (sAsg (eB modD (eCb toInt (aC (eDg (eV 0) (eC (.str "rest"))) aN)) (eV 1)) (gN 7))
    (sSeq (sDp (eV 0) (eC (.str "rest")) (eB fdvD (eDg (eV 0) (eC (.str "rest"))) (eV 1)))
    (sRet (eV 7)))) sNil)
    (sSeq (sAsg (eDg (eV 0) (eC (.str "spot"))) (gN 3))
    (sSeq (sDp (eV 0) (eC (.str "spot")) (eB addD (eV 3) (eC (.int 1))))
    (sSeq (sAsg (eDg (eV 0) (eC (.str "cells"))) (gN 4))
    (sSeq (sAsg (eIf (tB' (eB gtD (eCb lenD (aC (eV 4) aN)) (eC (.int 0)))) (eB ixD (eV 4) (eB modD (eCb toInt (aC (eV 3) aN)) (eCb lenD (aC (eV 4) aN)))) (eC (.int 17))) (gN 5))
    (sSeq (sIf (tAn (tB' (eB ltD (eV 3) (eCb lenD (aC (eV 4) aN)))) (tB' (eB geD (eV 5) (eB powD (eC (.int 10)) (eC (.int 18)))))) (sSeq (sDp (eV 0) (eC (.str "rest")) (eB fdvD (eV 5) (eV 1)))
    (sRet (eB modD (eCb toInt (aC (eV 5) aN)) (eV 1)))) sNil)
    (sSeq (sAsg (eB modD (eCb toInt (aC (eB powD (eB addD (eB addD (eB modD (eCb toInt (aC (eV 5) aN)) (eC (.int 2147483629))) (eB mulD (eC (.int 6101)) (eV 2))) (eC (.int 37))) (eC (.int 5))) aN)) (eC (.int 2147483647))) (gN 6))
    (sRet (eB modD (eCb toInt (aC (eB fdvD (eB modD (eCb toInt (aC (eB powD (eB addD (eV 6) (eB mulD (eB mulD (eC (.int 4159)) (eV 2)) (eV 2))) (eC (.int 5))) aN)) (eC (.int 2147483587))) (eC (.int 32))) aN)) (eV 1))))))))))))
def F__law_draw : FF := defF 8 2 b__law_draw
def b__law_mutate (g : FF) : FS :=
    (sSeq (sIf (tAn (tTr (eIsi "tuple" (eV 1))) (tAn (tB' (eB neD (eV 1) (eTup aN))) (tB' (eB gtD (eCall F__law_draw [] (aC (eV 0) (aC (eC (.int 4)) aN))) (eC (.int 0)))))) (sSeq (sAsg (eCall F__law_draw [] (aC (eV 0) (aC (eCb lenD (aC (eV 1) aN)) aN))) (gN 4))
    (sRet (eB addD (eB addD (eSl (eV 1) oN (oS (eV 4))) (eTup (aC (eCall g [] (aC (eV 0) (aC (eB ixD (eV 1) (eV 4)) (aC (eV 2) aN)))) aN))) (eSl (eV 1) (oS (eB addD (eV 4) (eC (.int 1)))) oN)))) sNil)
    (sSeq (sAsg (eCall F__law_draw [] (aC (eV 0) (aC (eC (.int 7)) aN))) (gN 3))
    (sSeq (sIf (tAn (tTr (eIsi "tuple" (eV 1))) (tB' (eB ltD (eV 3) (eC (.int 5))))) (sSeq (sAsg (eCall F__law_draw [] (aC (eV 0) (aC (eB addD (eCb lenD (aC (eV 1) aN)) (eC (.int 1))) aN))) (gN 4))
    (sSeq (sAsg (eB ixD (eV 2) (eCall F__law_draw [] (aC (eV 0) (aC (eCb lenD (aC (eV 2) aN)) aN)))) (gN 5))
    (sSeq (sAsg (eLst (aC (eB addD (eSl (eV 1) oN (oS (eV 4))) (eSl (eV 1) (oS (eB addD (eV 4) (eC (.int 1)))) oN)) (aC (eB addD (eB addD (eSl (eV 1) oN (oS (eV 4))) (eSl (eV 1) (oS (eV 4)) (oS (eB addD (eV 4) (eC (.int 1)))))) (eSl (eV 1) (oS (eV 4)) oN)) (aC (eCb listD (aC (eV 1) aN)) aN)))) (gN 6))
    (sRet (eB ixD (eB addD (eV 6) (eLst (aC (eU revD (eV 1)) (aC (eB addD (eB addD (eSl (eV 1) oN (oS (eV 4))) (eTup (aC (eV 5) aN))) (eSl (eV 1) (oS (eV 4)) oN)) aN)))) (eV 3)))))) sNil)
    (sSeq (sIf (tAn (tTr (eIsi "str" (eV 1))) (tB' (eB ltD (eV 3) (eC (.int 4))))) (sRet (eB ixD (eLst (aC (eB addD (eV 1) (eC (.str "a"))) (aC (eSl (eV 1) (oS (eC (.int 1))) oN) (aC (eU upD (eV 1)) (aC (eB addD (eC (.str "-")) (eV 1)) aN))))) (eV 3))) sNil)
    (sSeq (sIf (tAn (tTr (eIsi "int" (eV 1))) (tB' (eB ltD (eV 3) (eC (.int 4))))) (sRet (eB ixD (eLst (aC (eB addD (eV 1) (eC (.int 1))) (aC (eB subD (eV 1) (eC (.int 1))) (aC (eB eqD (eV 1) (eC (.int 0))) (aC (eCb toStr (aC (eV 1) aN)) aN))))) (eV 3))) sNil)
    (sRet (eB ixD (eV 2) (eCall F__law_draw [] (aC (eV 0) (aC (eCb lenD (aC (eV 2) aN)) aN))))))))))
def F__law_mutate : Nat → FF
  | 0 => fun _ _ => .no
  | l + 1 => defF 7 3 (b__law_mutate (F__law_mutate l))
def b__law_is_number : FS :=
    (sRet (eAn (eIsi "int" (eV 0)) (eAn (eNo (eIsi "bool" (eV 0))) (eB geD (eV 0) (eC (.int 0))))))
def F__law_is_number : FF := defF 1 1 b__law_is_number
def b__law_is_name : FS :=
    (sSeq (sIf (tOr' (tNo (tTr (eIsi "str" (eV 0)))) (tOr' (tB' (eB ltD (eCb lenD (aC (eV 0) aN)) (eC (.int 1)))) (tB' (eB gtD (eCb lenD (aC (eV 0) aN)) (eC (.int 8)))))) (sRet (eC (.bool false))) sNil)
    (sRet (eB eqD (eLc (iE (eV 0)) (gN 1) (tB' (eB niD (eV 1) (eC (.str "abcdefghijklmnopqrstuvwxyz")))) (eV 1) [1]) (eLst aN))))
def F__law_is_name : FF := defF 2 1 b__law_is_name
def b__law_is_note : FS :=
    (sSeq (sIf (tNo (tTr (eIsi "str" (eV 0)))) (sRet (eC (.bool false))) sNil)
    (sRet (eOr (eCall F__law_is_name [] (aC (eV 0) aN)) (eAn (eB inD (eSl (eV 0) oN (oS (eC (.int 1)))) (eTup (aC (eC (.str "-")) (aC (eC (.str "=")) aN)))) (eCall F__law_is_name [] (aC (eSl (eV 0) (oS (eC (.int 1))) oN) aN))))))
def F__law_is_note : FF := defF 1 1 b__law_is_note
def b__law_rises : FS :=
    (sRet (eB eqD (eLc (iR2 (aC (eC (.int 1)) (aC (eCb lenD (aC (eV 0) aN)) aN))) (gN 1) (tB' (eB geD (eB ixD (eV 0) (eB subD (eV 1) (eC (.int 1)))) (eB ixD (eV 0) (eV 1)))) (eV 1) [1]) (eLst aN)))
def F__law_rises : FF := defF 2 1 b__law_rises
def b__law_are_notes : FS :=
    (sSeq (sIf (tOr' (tNo (tTr (eIsi "tuple" (eV 0)))) (tB' (eB neD (eLc (iE (eV 0)) (gN 1) (tNo (tTr (eCall F__law_is_note [] (aC (eV 1) aN)))) (eV 1) [1]) (eLst aN)))) (sRet (eC (.bool false))) sNil)
    (sRet (eCall F__law_rises [] (aC (eV 0) aN))))
def F__law_are_notes : FF := defF 2 1 b__law_are_notes
def b__law_due : FS :=
    (sSeq (sAsg (eAn (eIsi "int" (eV 0)) (eNo (eIsi "bool" (eV 0)))) (gN 1))
    (sSeq (sAsg (eLst (aC (eV 1) (aC (eCall F__law_is_number [] (aC (eV 0) aN)) (aC (eCall F__law_is_name [] (aC (eV 0) aN)) (aC (eCall F__law_is_name [] (aC (eV 0) aN)) (aC (eCall F__law_is_note [] (aC (eV 0) aN)) aN)))))) (gN 2))
    (sSeq (sAsg (eAn (eIsi "tuple" (eV 0)) (eB eqD (eLc (iE (eV 0)) (gN 4) (tNo (tTr (eCall F__law_is_number [] (aC (eV 4) aN)))) (eV 4) [4]) (eLst aN))) (gN 3))
    (sRet (eB addD (eV 2) (eLst (aC (eCall F__law_are_notes [] (aC (eV 0) aN)) (aC (eV 3) aN))))))))
def F__law_due : FF := defF 5 1 b__law_due
def b__law_fixed_values : FS :=
    (sSeq (sAsg (eTup (aC (eB powD (eC (.int 10)) (eC (.int 59))) (aC (eC (.str "abcdefghijklmnopqrstuvwxyz")) aN))) (gT 2 (gC (gN 2) (gC (gN 3) gZ))))
    (sSeq (sAsg (eLst (aC (eC .none) (aC (eC (.bool true)) (aC (eC (.bool false)) (aC (eC (.int 0)) (aC (eC (.int 1)) (aC (eU negD (eC (.int 1))) (aC (eV 2) (aC (eU negD (eV 2)) (aC (eC (.str "")) (aC (eC (.str "a")) (aC (eC (.str "z")) aN)))))))))))) (gN 0))
    (sSeq (sAsg (eB addD (eV 0) (eLst (aC (eC (.str "abcdefgh")) (aC (eC (.str "abcdefghi")) (aC (eC (.str "-abcdefgh")) (aC (eC (.str "=abcdefghi")) (aC (eC (.str "-")) (aC (eC (.str "=")) aN)))))))) (gN 0))
    (sSeq (sAsg (eB addD (eV 0) (eLst (aC (eC (.str "--a")) (aC (eC (.str "-=a")) (aC (eC (.str "a-")) (aC (eC (.str "=a=")) (aC (eC (.str "- a")) (aC (eC (.str "-A")) (aC (eC (.str "=a1")) (aC (eC (.str "{")) (aC (eC (.str "backtick~")) (aC (eC (.str "a b")) aN)))))))))))) (gN 0))
    (sSeq (sAsg (eB addD (eV 0) (eLst (aC (eC (.str "a.")) (aC (eC (.str "a,b")) (aC (eB mulD (eC (.str "a")) (eC (.int 4000))) (aC (eB addD (eC (.str "-")) (eB mulD (eC (.str "a")) (eC (.int 3999)))) (aC (eTup aN) (aC (eLst aN) (aC (eTup (aC (eC (.str "a")) aN)) (aC (eLst (aC (eC (.str "a")) aN)) aN)))))))))) (gN 0))
    (sSeq (sAsg (eB addD (eV 0) (eLst (aC (eTup (aC (eC (.str "-a")) (aC (eC (.str "=a")) (aC (eC (.str "a")) aN)))) (aC (eTup (aC (eC (.str "=a")) (aC (eC (.str "-a")) aN))) (aC (eTup (aC (eC (.str "a")) (aC (eC (.str "-a")) aN))) (aC (eTup (aC (eC (.str "a")) (aC (eC (.str "a")) aN))) (aC (eTup (aC (eC (.str "-a")) (aC (eC (.str "-a")) aN))) aN))))))) (gN 0))
    (sSeq (sAsg (eB addD (eV 0) (eLst (aC (eTup (aC (eC (.str "-a")) (aC (eC (.str "-b")) (aC (eC (.str "=a")) (aC (eC (.str "=b")) (aC (eC (.str "a")) (aC (eC (.str "b")) aN))))))) (aC (eTup (aC (eC (.str "a")) (aC (eC (.str "")) aN))) (aC (eTup (aC (eC (.str "")) (aC (eC (.str "a")) aN))) (aC (eTup (aC (eC (.str "a")) (aC (eC .none) aN))) aN)))))) (gN 0))
    (sSeq (sAsg (eB addD (eV 0) (eLst (aC (eTup (aC (eC (.str "a")) (aC (eTup (aC (eC (.str "b")) aN)) aN))) (aC (eTup (aC (eTup (aC (eC (.str "a")) aN)) aN)) (aC (eTup (aC (eC (.int 0)) aN)) (aC (eTup (aC (eC (.int 0)) (aC (eC (.int 1)) aN))) (aC (eTup (aC (eC (.int 1)) (aC (eC (.int 0)) aN))) (aC (eTup (aC (eC (.int 0)) (aC (eU negD (eC (.int 1))) aN))) (aC (eTup (aC (eC (.int 0)) (aC (eC (.bool true)) aN))) aN))))))))) (gN 0))
    (sSeq (sAsg (eB addD (eV 0) (eLst (aC (eTup (aC (eC (.bool false)) aN)) (aC (eTup (aC (eV 2) aN)) (aC (eTup (aC (eC (.int 0)) (aC (eC (.str "0")) aN))) (aC (eTup (aC (eTup (aC (eC (.int 0)) aN)) aN)) (aC (eLst (aC (eC (.int 0)) aN)) (aC (eTup (aC (eC (.int 0)) (aC (eLst (aC (eC (.int 0)) aN)) aN))) aN)))))))) (gN 0))
    (sSeq (sAsg (eCb tupleD (aC (eLc (iR1 (aC (eC (.int 400)) aN)) (gN 4) tYs (eB addD (eB addD (eC (.str "=")) (eB ixD (eV 3) (eB fdvD (eV 4) (eC (.int 20))))) (eB ixD (eV 3) (eB modD (eCb toInt (aC (eV 4) aN)) (eC (.int 20))))) [4]) aN)) (gN 1))
    (sRet (eB addD (eV 0) (eLst (aC (eV 1) (aC (eB addD (eV 1) (eSl (eV 1) (oS (eU negD (eC (.int 1)))) oN)) (aC (eB addD (eSl (eV 1) oN (oS (eC (.int 399)))) (eTup (aC (eC (.str "=A")) aN))) (aC (eB mulD (eTup (aC (eC (.int 7)) aN)) (eC (.int 900))) (aC (eB addD (eB mulD (eTup (aC (eC (.int 7)) aN)) (eC (.int 900))) (eTup (aC (eU negD (eC (.int 7))) aN))) aN))))))))))))))))))
def F__law_fixed_values : FF := defF 5 0 b__law_fixed_values
def b_law : FS :=
    (sSeq (sAsg (eCall F__law_reader [] (aC (eV 0) aN)) (gN 1))
    (sSeq (sAsg (eLst (aC (eC .none) (aC (eC (.bool true)) (aC (eC (.int 0)) (aC (eU negD (eC (.int 1))) (aC (eC (.str "")) (aC (eC (.str "a")) (aC (eC (.str "-a")) (aC (eC (.str "=")) (aC (eC (.str "A")) (aC (eTup aN) (aC (eLst aN) (aC (eTup (aC (eC (.str "a")) aN)) (aC (eTup (aC (eC (.int 0)) aN)) aN)))))))))))))) (gN 2))
    (sSeq (sAsg (eB addD (eV 2) (eCall F__law_fixed_values [] aN)) (gN 3))
    (sSeq (sAsg (eLst (aC (eC (.str "-a")) (aC (eC (.str "-zzzzzzzz")) (aC (eC (.str "=a")) (aC (eC (.str "=b")) (aC (eC (.str "a")) (aC (eC (.str "b")) (aC (eC (.str "why")) aN)))))))) (gN 4))
    (sSeq (sFor (iR1 (aC (eC (.int 14)) aN)) (gN 5)
    (sSeq (sAsg (eLc (iR1 (aC (eCall F__law_draw [] (aC (eV 1) (aC (eC (.int 6)) aN))) aN)) (gN 12) tYs (eB ixD (eV 4) (eCall F__law_draw [] (aC (eV 1) (aC (eC (.int 7)) aN)))) [12]) (gN 7))
    (sSeq (sAsg (eCb tupleD (aC (eLc (iR1 (aC (eCall F__law_draw [] (aC (eV 1) (aC (eC (.int 5)) aN))) aN)) (gN 12) tYs (eCall F__law_draw [] (aC (eV 1) (aC (eC (.int 12)) aN))) [12]) aN)) (gN 8))
    (sFor (iE (eTup (aC (eCb tupleD (aC (eV 7) aN)) (aC (eCb tupleD (aC (eCb sosD (aC (eV 7) aN)) aN)) (aC (eV 7) (aC (eV 8) aN)))))) (gN 6)
    (sSeq (sAsg (eCall (F__law_mutate 8) [] (aC (eV 1) (aC (eV 6) (aC (eV 2) aN)))) (gN 11))
    (sAsg (eB addD (eV 3) (eLst (aC (eV 6) (aC (eV 11) (aC (eCall (F__law_mutate 8) [] (aC (eV 1) (aC (eV 11) (aC (eV 2) aN)))) aN))))) (gN 3)))))))
    (sSeq (sFor (iE (eV 3)) (gN 6)
    (sSeq (sAsg (eCb reprD (aC (eV 6) aN)) (gN 9))
    (sSeq (sAsg (eLst (aC (eCall F_is_integer [] (aC (eV 6) aN)) (aC (eCall F_is_number [] (aC (eV 6) aN)) (aC (eCall F_is_name [] (aC (eV 6) aN)) (aC (eCall F_is_remark [] (aC (eV 6) aN)) (aC (eCall F_is_note [] (aC (eV 6) aN)) aN)))))) (gN 10))
    (sSeq (sAsg (eB addD (eV 10) (eLst (aC (eCall F_is_notes [] (aC (eV 6) aN)) (aC (eCall F_is_place [] (aC (eV 6) aN)) aN)))) (gN 10))
    (sIf (tOr' (tB' (eB neD (eCb reprD (aC (eV 10) aN)) (eCb reprD (aC (eCall F__law_due [] (aC (eV 6) aN)) aN)))) (tB' (eB neD (eCb reprD (aC (eV 6) aN)) (eV 9)))) (sRet (eC (.bool false))) sNil)))))
    (sRet (eC (.bool true)))))))))
def F_law : FF := defF 13 1 b_law
section
variable {P : Program} {w : World} {K : PySem.W.Frag} {mg : Str → Option Value} {base : Heap}
theorem sc_is_integer : FnScope N_is_integer P_is_integer (defScope s_is_integer) := ⟨rfl, rfl, rfl, by decide +kernel, rfl, by decide +kernel, by decide +kernel⟩
theorem G_is_integer (T : Tx K mg) : Gx P w K mg base 1 T.d_is_integer F_is_integer := by
  refine gx_of _ sc_is_integer fun cdv A outer s H E hr hg => ?_
  have nd := sc_is_integer.nd
  have tk := tkX (P := P) (w := w) (K := K) (mg := mg) (base := base) (x := "is_integer") (st := s_is_integer) (N := N_is_integer) (f := T.d_is_integer.f) (cdv := cdv) (A := A) (outer := outer) (s := s) (H := H) (E := E)
  have po := poX (P := P) (w := w) (K := K) (mg := mg) (base := base) (x := "is_integer") (st := s_is_integer) (N := N_is_integer) (f := T.d_is_integer.f) (cdv := cdv) (A := A) (outer := outer) (s := s) (H := H) (E := E)
  exact (pssf_one (psf_ret (pf_and (pf_isi (T := "int") (pf_var 0) (by rfl) T.b_isinstance (by rfl) T.b_int (by decide +kernel)) (pf_one (pf_not (pf_isi (T := "bool") (pf_var 0) (by rfl) T.b_isinstance (by rfl) T.b_bool (by decide +kernel)))))))
theorem sc_is_number : FnScope N_is_number P_is_number (defScope s_is_number) := ⟨rfl, rfl, rfl, by decide +kernel, rfl, by decide +kernel, by decide +kernel⟩
theorem G_is_number (T : Tx K mg) : Gx P w K mg base 2 T.d_is_number F_is_number := by
  have G_is_integer := G_is_integer (P := P) (w := w) (base := base) T
  refine gx_of _ sc_is_number fun cdv A outer s H E hr hg => ?_
  have nd := sc_is_number.nd
  have tk := tkX (P := P) (w := w) (K := K) (mg := mg) (base := base) (x := "is_number") (st := s_is_number) (N := N_is_number) (f := T.d_is_number.f) (cdv := cdv) (A := A) (outer := outer) (s := s) (H := H) (E := E)
  have po := poX (P := P) (w := w) (K := K) (mg := mg) (base := base) (x := "is_number") (st := s_is_number) (N := N_is_number) (f := T.d_is_number.f) (cdv := cdv) (A := A) (outer := outer) (s := s) (H := H) (E := E)
  exact (pssf_one (psf_ret (pf_and (pf_callR G_is_integer (hr.mono (by decide)) hg (by rfl) tk (paf_cons (pf_var 0) paf_nil)) (pf_one (pf_cmp op_geD (pf_var 0) pf_int)))))
theorem sc_is_name : FnScope N_is_name P_is_name (defScope s_is_name) := ⟨rfl, rfl, rfl, by decide +kernel, rfl, by decide +kernel, by decide +kernel⟩
theorem G_is_name (T : Tx K mg) : Gx P w K mg base 1 T.d_is_name F_is_name := by
  refine gx_of _ sc_is_name fun cdv A outer s H E hr hg => ?_
  have nd := sc_is_name.nd
  have tk := tkX (P := P) (w := w) (K := K) (mg := mg) (base := base) (x := "is_name") (st := s_is_name) (N := N_is_name) (f := T.d_is_name.f) (cdv := cdv) (A := A) (outer := outer) (s := s) (H := H) (E := E)
  have po := poX (P := P) (w := w) (K := K) (mg := mg) (base := base) (x := "is_name") (st := s_is_name) (N := N_is_name) (f := T.d_is_name.f) (cdv := cdv) (A := A) (outer := outer) (s := s) (H := H) (E := E)
  exact (pssf_cons (psf_if (ptf_w (pwf_or (ptf_not (ptf_tru (pf_isi (T := "str") (pf_var 0) (by rfl) T.b_isinstance (by rfl) T.b_str (by decide +kernel)))) (pwf_or1 (ptf_not (ptf_chain op_leD op_leD pf_int (pf_callB call_lenX (by rfl) T.b_len (by decide +kernel) (paf_cons (pf_var 0) paf_nil)) (pf_gint (by rfl) T.c_LONGEST_NAME.2)))))) (pssf_one (psf_ret pf_bl)) pssf_nil)
    (pssf_one (psf_ret (pf_callB (call_allX rfl) (by rfl) T.b_all (by decide +kernel) (paf_cons (pf_lc (own := [("char", 1)]) rfl nd (pif_any (pf_var 0)) (blkOk_by (own := [("char", 1)]) (N := N_is_name) (sc := defScope s_is_name) (by decide +kernel)) (fun _ _ _ _ _ => (pgf_name (i := 1) nd rfl (by first | exact Or.inl rfl | exact Or.inr rfl))) (fun _ _ _ _ _ => ptsf_nil) (fun _ _ _ _ _ => (pf_cmp (op_inX (hu65 hr)) (pf_var 1) (pf_gstr (by rfl) T.c_LETTERS.2)))) paf_nil)))))
theorem sc_is_remark : FnScope N_is_remark P_is_remark (defScope s_is_remark) := ⟨rfl, rfl, rfl, by decide +kernel, rfl, by decide +kernel, by decide +kernel⟩
theorem G_is_remark (T : Tx K mg) : Gx P w K mg base 2 T.d_is_remark F_is_remark := by
  have G_is_name := G_is_name (P := P) (w := w) (base := base) T
  refine gx_of _ sc_is_remark fun cdv A outer s H E hr hg => ?_
  have nd := sc_is_remark.nd
  have tk := tkX (P := P) (w := w) (K := K) (mg := mg) (base := base) (x := "is_remark") (st := s_is_remark) (N := N_is_remark) (f := T.d_is_remark.f) (cdv := cdv) (A := A) (outer := outer) (s := s) (H := H) (E := E)
  have po := poX (P := P) (w := w) (K := K) (mg := mg) (base := base) (x := "is_remark") (st := s_is_remark) (N := N_is_remark) (f := T.d_is_remark.f) (cdv := cdv) (A := A) (outer := outer) (s := s) (H := H) (E := E)
  exact (pssf_one (psf_ret (pf_callR G_is_name (hr.mono (by decide)) hg (by rfl) tk (paf_cons (pf_var 0) paf_nil))))
theorem sc_is_note : FnScope N_is_note P_is_note (defScope s_is_note) := ⟨rfl, rfl, rfl, by decide +kernel, rfl, by decide +kernel, by decide +kernel⟩
theorem G_is_note (T : Tx K mg) : Gx P w K mg base 3 T.d_is_note F_is_note := by
  have G_is_remark := G_is_remark (P := P) (w := w) (base := base) T
  have G_is_name := G_is_name (P := P) (w := w) (base := base) T
  refine gx_of _ sc_is_note fun cdv A outer s H E hr hg => ?_
  have nd := sc_is_note.nd
  have tk := tkX (P := P) (w := w) (K := K) (mg := mg) (base := base) (x := "is_note") (st := s_is_note) (N := N_is_note) (f := T.d_is_note.f) (cdv := cdv) (A := A) (outer := outer) (s := s) (H := H) (E := E)
  have po := poX (P := P) (w := w) (K := K) (mg := mg) (base := base) (x := "is_note") (st := s_is_note) (N := N_is_note) (f := T.d_is_note.f) (cdv := cdv) (A := A) (outer := outer) (s := s) (H := H) (E := E)
  exact (pssf_cons (psf_if (ptf_w (pwf_and (ptf_tru (pf_isi (T := "str") (pf_var 0) (by rfl) T.b_isinstance (by rfl) T.b_str (by decide +kernel))) (pwf_and1 (ptf_cmp (op_inX (hu65 hr)) (pf_slice (pf_var 0) pof_none (pof_some pf_int)) (pf_tup (paf_cons (pf_gstr (by rfl) T.c_SILENCE.2) (paf_cons (pf_gstr (by rfl) T.c_WIDE.2) paf_nil))))))) (pssf_one (psf_ret (pf_callR G_is_name (hr.mono (by decide)) hg (by rfl) tk (paf_cons (pf_slice (pf_var 0) (pof_some pf_int) pof_none) paf_nil)))) pssf_nil)
    (pssf_one (psf_ret (pf_callR G_is_remark (hr.mono (by decide)) hg (by rfl) tk (paf_cons (pf_var 0) paf_nil)))))
theorem sc_is_ascending : FnScope N_is_ascending P_is_ascending (defScope s_is_ascending) := ⟨rfl, rfl, rfl, by decide +kernel, rfl, by decide +kernel, by decide +kernel⟩
theorem G_is_ascending (T : Tx K mg) : Gx P w K mg base 1 T.d_is_ascending F_is_ascending := by
  refine gx_of _ sc_is_ascending fun cdv A outer s H E hr hg => ?_
  have nd := sc_is_ascending.nd
  have tk := tkX (P := P) (w := w) (K := K) (mg := mg) (base := base) (x := "is_ascending") (st := s_is_ascending) (N := N_is_ascending) (f := T.d_is_ascending.f) (cdv := cdv) (A := A) (outer := outer) (s := s) (H := H) (E := E)
  have po := poX (P := P) (w := w) (K := K) (mg := mg) (base := base) (x := "is_ascending") (st := s_is_ascending) (N := N_is_ascending) (f := T.d_is_ascending.f) (cdv := cdv) (A := A) (outer := outer) (s := s) (H := H) (E := E)
  exact (pssf_one (psf_ret (pf_callB (call_allX rfl) (by rfl) T.b_all (by decide +kernel) (paf_cons (pf_lc (own := [("one", 1), ("other", 2)]) rfl nd (pif_zip (by rfl) T.b_zip (paf_cons (pf_var 0) (paf_cons (pf_slice (pf_var 0) (pof_some pf_int) pof_none) paf_nil))) (blkOk_by (own := [("one", 1), ("other", 2)]) (N := N_is_ascending) (sc := defScope s_is_ascending) (by decide +kernel)) (fun _ _ _ _ _ => (pgf_tup rfl (pgsf_cons (pgf_name (i := 1) nd rfl (by first | exact Or.inl rfl | exact Or.inr rfl)) (pgsf_cons (pgf_name (i := 2) nd rfl (by first | exact Or.inl rfl | exact Or.inr rfl)) pgsf_nil)))) (fun _ _ _ _ _ => ptsf_nil) (fun _ _ _ _ _ => (pf_cmp op_ltD (pf_var 1) (pf_var 2)))) paf_nil))))
theorem sc_is_notes : FnScope N_is_notes P_is_notes (defScope s_is_notes) := ⟨rfl, rfl, rfl, by decide +kernel, rfl, by decide +kernel, by decide +kernel⟩
theorem G_is_notes (T : Tx K mg) : Gx P w K mg base 4 T.d_is_notes F_is_notes := by
  have G_is_ascending := G_is_ascending (P := P) (w := w) (base := base) T
  have G_is_note := G_is_note (P := P) (w := w) (base := base) T
  refine gx_of _ sc_is_notes fun cdv A outer s H E hr hg => ?_
  have nd := sc_is_notes.nd
  have tk := tkX (P := P) (w := w) (K := K) (mg := mg) (base := base) (x := "is_notes") (st := s_is_notes) (N := N_is_notes) (f := T.d_is_notes.f) (cdv := cdv) (A := A) (outer := outer) (s := s) (H := H) (E := E)
  have po := poX (P := P) (w := w) (K := K) (mg := mg) (base := base) (x := "is_notes") (st := s_is_notes) (N := N_is_notes) (f := T.d_is_notes.f) (cdv := cdv) (A := A) (outer := outer) (s := s) (H := H) (E := E)
  exact (pssf_one (psf_ret (pf_and (pf_isi (T := "tuple") (pf_var 0) (by rfl) T.b_isinstance (by rfl) T.b_tuple (by decide +kernel)) (pf_and (pf_callB (call_allX rfl) (by rfl) T.b_all (by decide +kernel) (paf_cons (pf_lc (own := [("one", 1)]) rfl nd (pif_any (pf_var 0)) (blkOk_by (own := [("one", 1)]) (N := N_is_notes) (sc := defScope s_is_notes) (by decide +kernel)) (fun _ _ _ _ _ => (pgf_name (i := 1) nd rfl (by first | exact Or.inl rfl | exact Or.inr rfl))) (fun _ _ _ _ _ => ptsf_nil) (fun _ _ _ _ _ => (pf_callR G_is_note (hr.mono (by decide)) hg (by rfl) takesW0 (paf_cons (pf_var 1) paf_nil)))) paf_nil)) (pf_one (pf_callR G_is_ascending (hr.mono (by decide)) hg (by rfl) tk (paf_cons (pf_var 0) paf_nil)))))))
theorem sc_is_place : FnScope N_is_place P_is_place (defScope s_is_place) := ⟨rfl, rfl, rfl, by decide +kernel, rfl, by decide +kernel, by decide +kernel⟩
theorem G_is_place (T : Tx K mg) : Gx P w K mg base 3 T.d_is_place F_is_place := by
  have G_is_number := G_is_number (P := P) (w := w) (base := base) T
  refine gx_of _ sc_is_place fun cdv A outer s H E hr hg => ?_
  have nd := sc_is_place.nd
  have tk := tkX (P := P) (w := w) (K := K) (mg := mg) (base := base) (x := "is_place") (st := s_is_place) (N := N_is_place) (f := T.d_is_place.f) (cdv := cdv) (A := A) (outer := outer) (s := s) (H := H) (E := E)
  have po := poX (P := P) (w := w) (K := K) (mg := mg) (base := base) (x := "is_place") (st := s_is_place) (N := N_is_place) (f := T.d_is_place.f) (cdv := cdv) (A := A) (outer := outer) (s := s) (H := H) (E := E)
  exact (pssf_one (psf_ret (pf_and (pf_isi (T := "tuple") (pf_var 0) (by rfl) T.b_isinstance (by rfl) T.b_tuple (by decide +kernel)) (pf_one (pf_callB (call_allX rfl) (by rfl) T.b_all (by decide +kernel) (paf_cons (pf_lc (own := [("one", 1)]) rfl nd (pif_any (pf_var 0)) (blkOk_by (own := [("one", 1)]) (N := N_is_place) (sc := defScope s_is_place) (by decide +kernel)) (fun _ _ _ _ _ => (pgf_name (i := 1) nd rfl (by first | exact Or.inl rfl | exact Or.inr rfl))) (fun _ _ _ _ _ => ptsf_nil) (fun _ _ _ _ _ => (pf_callR G_is_number (hr.mono (by decide)) hg (by rfl) takesW0 (paf_cons (pf_var 1) paf_nil)))) paf_nil))))))
theorem sc__law_reader : FnScope N__law_reader P__law_reader (defScope s__law_reader) := ⟨rfl, rfl, rfl, by decide +kernel, rfl, by decide +kernel, by decide +kernel⟩
theorem G__law_reader (T : Tx K mg) : Gx P w K mg base 1 T.d__law_reader F__law_reader := by
  refine gx_of _ sc__law_reader fun cdv A outer s H E hr hg => ?_
  have nd := sc__law_reader.nd
  have tk := tkX (P := P) (w := w) (K := K) (mg := mg) (base := base) (x := "_law_reader") (st := s__law_reader) (N := N__law_reader) (f := T.d__law_reader.f) (cdv := cdv) (A := A) (outer := outer) (s := s) (H := H) (E := E)
  have po := poX (P := P) (w := w) (K := K) (mg := mg) (base := base) (x := "_law_reader") (st := s__law_reader) (N := N__law_reader) (f := T.d__law_reader.f) (cdv := cdv) (A := A) (outer := outer) (s := s) (H := H) (E := E)
  exact (pssf_one (psf_ret (pf_disp (fps := (((eC (.str "cells")), (eCb listD (aC (eSl (eV 0) oN (oS (eC (.int 63)))) aN))) :: (((eC (.str "spot")), (eC (.int 0))) :: (((eC (.str "rest")), (eC (.int 0))) :: (((eC (.str "calls")), (eC (.int 0))) :: []))))) (ppsf_cons pf_str (pf_callTy call_listX (by rfl) T.b_list (by decide +kernel) (paf_cons (pf_slice (pf_var 0) pof_none (pof_some pf_int)) paf_nil)) (ppsf_cons pf_str pf_int (ppsf_cons pf_str pf_int (ppsf_cons pf_str pf_int ppsf_nil)))))))
theorem sc__law_draw : FnScope N__law_draw P__law_draw (defScope s__law_draw) := ⟨rfl, rfl, rfl, by decide +kernel, rfl, by decide +kernel, by decide +kernel⟩
theorem G__law_draw (T : Tx K mg) : Gx P w K mg base 1 T.d__law_draw F__law_draw := by
  refine gx_of _ sc__law_draw fun cdv A outer s H E hr hg => ?_
  have nd := sc__law_draw.nd
  have tk := tkX (P := P) (w := w) (K := K) (mg := mg) (base := base) (x := "_law_draw") (st := s__law_draw) (N := N__law_draw) (f := T.d__law_draw.f) (cdv := cdv) (A := A) (outer := outer) (s := s) (H := H) (E := E)
  have po := poX (P := P) (w := w) (K := K) (mg := mg) (base := base) (x := "_law_draw") (st := s__law_draw) (N := N__law_draw) (f := T.d__law_draw.f) (cdv := cdv) (A := A) (outer := outer) (s := s) (H := H) (E := E)
  exact (pssf_cons (psf_set (i := 2) nd rfl (by first | exact Or.inl rfl | exact Or.inr rfl) (pf_bin op_addD (pf_dget (hu1 hr) (pf_var 0) pf_str) pf_int))
    (pssf_cons (psf_dput (hu1 hr) (pf_var 0) pf_str (pf_var 2))
    (pssf_cons (psf_if (ptf_cmp op_gtD (pf_dget (hu1 hr) (pf_var 0) pf_str) pf_int) (pssf_cons (psf_set (i := 7) nd rfl (by first | exact Or.inl rfl | exact Or.inr rfl) (pf_bin op_modD (pf_callTy call_intX (by rfl) T.b_int (by decide +kernel) (paf_cons (pf_dget (hu1 hr) (pf_var 0) pf_str) paf_nil)) (pf_var 1)))
    (pssf_cons (psf_dput (hu1 hr) (pf_var 0) pf_str (pf_bin op_fdvD (pf_dget (hu1 hr) (pf_var 0) pf_str) (pf_var 1)))
    (pssf_one (psf_ret (pf_var 7))))) pssf_nil)
    (pssf_cons (psf_set (i := 3) nd rfl (by first | exact Or.inl rfl | exact Or.inr rfl) (pf_dget (hu1 hr) (pf_var 0) pf_str))
    (pssf_cons (psf_dput (hu1 hr) (pf_var 0) pf_str (pf_bin op_addD (pf_var 3) pf_int))
    (pssf_cons (psf_set (i := 4) nd rfl (by first | exact Or.inl rfl | exact Or.inr rfl) (pf_dget (hu1 hr) (pf_var 0) pf_str))
    (pssf_cons (psf_set (i := 5) nd rfl (by first | exact Or.inl rfl | exact Or.inr rfl) (pf_ifx (ptf_cmp op_gtD (pf_callB call_lenX (by rfl) T.b_len (by decide +kernel) (paf_cons (pf_var 4) paf_nil)) pf_int) (pf_ix (pf_var 4) (pf_bin op_modD (pf_callTy call_intX (by rfl) T.b_int (by decide +kernel) (paf_cons (pf_var 3) paf_nil)) (pf_callB call_lenX (by rfl) T.b_len (by decide +kernel) (paf_cons (pf_var 4) paf_nil)))) pf_int))
    (pssf_cons (psf_if (ptf_w (pwf_and (ptf_cmp op_ltD (pf_var 3) (pf_callB call_lenX (by rfl) T.b_len (by decide +kernel) (paf_cons (pf_var 4) paf_nil))) (pwf_and1 (ptf_cmp op_geD (pf_var 5) (pf_bin op_powD pf_int pf_int))))) (pssf_cons (psf_dput (hu1 hr) (pf_var 0) pf_str (pf_bin op_fdvD (pf_var 5) (pf_var 1)))
    (pssf_one (psf_ret (pf_bin op_modD (pf_callTy call_intX (by rfl) T.b_int (by decide +kernel) (paf_cons (pf_var 5) paf_nil)) (pf_var 1))))) pssf_nil)
    (pssf_cons (psf_set (i := 6) nd rfl (by first | exact Or.inl rfl | exact Or.inr rfl) (pf_bin op_modD (pf_callTy call_intX (by rfl) T.b_int (by decide +kernel) (paf_cons (pf_bin op_powD (pf_bin op_addD (pf_bin op_addD (pf_bin op_modD (pf_callTy call_intX (by rfl) T.b_int (by decide +kernel) (paf_cons (pf_var 5) paf_nil)) pf_int) (pf_bin op_mulD pf_int (pf_var 2))) pf_int) pf_int) paf_nil)) pf_int))
    (pssf_one (psf_ret (pf_bin op_modD (pf_callTy call_intX (by rfl) T.b_int (by decide +kernel) (paf_cons (pf_bin op_fdvD (pf_bin op_modD (pf_callTy call_intX (by rfl) T.b_int (by decide +kernel) (paf_cons (pf_bin op_powD (pf_bin op_addD (pf_var 6) (pf_bin op_mulD (pf_bin op_mulD pf_int (pf_var 2)) (pf_var 2))) pf_int) paf_nil)) pf_int) pf_int) paf_nil)) (pf_var 1)))))))))))))
theorem sc__law_mutate : FnScope N__law_mutate P__law_mutate (defScope s__law_mutate) := ⟨rfl, rfl, rfl, by decide +kernel, rfl, by decide +kernel, by decide +kernel⟩
theorem G__law_mutate (T : Tx K mg) : ∀ l, Gx P w K mg base (1 + l) T.d__law_mutate (F__law_mutate l)
  | 0 => gx_no _
  | l + 1 => by
    have G := G__law_mutate T l
    have G__law_draw := G__law_draw (P := P) (w := w) (base := base) T
    refine gx_of (k := 1 + l) _ sc__law_mutate fun cdv A outer s H E hr hg => ?_
    have nd := sc__law_mutate.nd
    have tk := tkX (P := P) (w := w) (K := K) (mg := mg) (base := base) (x := "_law_mutate") (st := s__law_mutate) (N := N__law_mutate) (f := T.d__law_mutate.f) (cdv := cdv) (A := A) (outer := outer) (s := s) (H := H) (E := E)
    have po := poX (P := P) (w := w) (K := K) (mg := mg) (base := base) (x := "_law_mutate") (st := s__law_mutate) (N := N__law_mutate) (f := T.d__law_mutate.f) (cdv := cdv) (A := A) (outer := outer) (s := s) (H := H) (E := E)
    exact (pssf_cons (psf_if (ptf_w (pwf_and (ptf_tru (pf_isi (T := "tuple") (pf_var 1) (by rfl) T.b_isinstance (by rfl) T.b_tuple (by decide +kernel))) (pwf_and (ptf_cmp (op_neD' (hu64 hr)) (pf_var 1) (pf_tup paf_nil)) (pwf_and1 (ptf_cmp op_gtD (pf_callR G__law_draw (hr.mono (by omega)) hg (by rfl) tk (paf_cons (pf_var 0) (paf_cons pf_int paf_nil))) pf_int))))) (pssf_cons (psf_set (i := 4) nd rfl (by first | exact Or.inl rfl | exact Or.inr rfl) (pf_callR G__law_draw (hr.mono (by omega)) hg (by rfl) tk (paf_cons (pf_var 0) (paf_cons (pf_callB call_lenX (by rfl) T.b_len (by decide +kernel) (paf_cons (pf_var 1) paf_nil)) paf_nil))))
    (pssf_one (psf_ret (pf_bin op_addD (pf_bin op_addD (pf_slice (pf_var 1) pof_none (pof_some (pf_var 4))) (pf_tup (paf_cons (pf_callR G (hr.mono (by omega)) hg (by rfl) tk (paf_cons (pf_var 0) (paf_cons (pf_ix (pf_var 1) (pf_var 4)) (paf_cons (pf_var 2) paf_nil)))) paf_nil))) (pf_slice (pf_var 1) (pof_some (pf_bin op_addD (pf_var 4) pf_int)) pof_none))))) pssf_nil)
    (pssf_cons (psf_set (i := 3) nd rfl (by first | exact Or.inl rfl | exact Or.inr rfl) (pf_callR G__law_draw (hr.mono (by omega)) hg (by rfl) tk (paf_cons (pf_var 0) (paf_cons pf_int paf_nil))))
    (pssf_cons (psf_if (ptf_w (pwf_and (ptf_tru (pf_isi (T := "tuple") (pf_var 1) (by rfl) T.b_isinstance (by rfl) T.b_tuple (by decide +kernel))) (pwf_and1 (ptf_cmp op_ltD (pf_var 3) pf_int)))) (pssf_cons (psf_set (i := 4) nd rfl (by first | exact Or.inl rfl | exact Or.inr rfl) (pf_callR G__law_draw (hr.mono (by omega)) hg (by rfl) tk (paf_cons (pf_var 0) (paf_cons (pf_bin op_addD (pf_callB call_lenX (by rfl) T.b_len (by decide +kernel) (paf_cons (pf_var 1) paf_nil)) pf_int) paf_nil))))
    (pssf_cons (psf_set (i := 5) nd rfl (by first | exact Or.inl rfl | exact Or.inr rfl) (pf_ix (pf_var 2) (pf_callR G__law_draw (hr.mono (by omega)) hg (by rfl) tk (paf_cons (pf_var 0) (paf_cons (pf_callB call_lenX (by rfl) T.b_len (by decide +kernel) (paf_cons (pf_var 2) paf_nil)) paf_nil)))))
    (pssf_cons (psf_set (i := 6) nd rfl (by first | exact Or.inl rfl | exact Or.inr rfl) (pf_lst (paf_cons (pf_bin op_addD (pf_slice (pf_var 1) pof_none (pof_some (pf_var 4))) (pf_slice (pf_var 1) (pof_some (pf_bin op_addD (pf_var 4) pf_int)) pof_none)) (paf_cons (pf_bin op_addD (pf_bin op_addD (pf_slice (pf_var 1) pof_none (pof_some (pf_var 4))) (pf_slice (pf_var 1) (pof_some (pf_var 4)) (pof_some (pf_bin op_addD (pf_var 4) pf_int)))) (pf_slice (pf_var 1) (pof_some (pf_var 4)) pof_none)) (paf_cons (pf_callTy call_listX (by rfl) T.b_list (by decide +kernel) (paf_cons (pf_var 1) paf_nil)) paf_nil)))))
    (pssf_one (psf_ret (pf_ix (pf_bin op_addD (pf_var 6) (pf_lst (paf_cons (pf_rev (pf_var 1)) (paf_cons (pf_bin op_addD (pf_bin op_addD (pf_slice (pf_var 1) pof_none (pof_some (pf_var 4))) (pf_tup (paf_cons (pf_var 5) paf_nil))) (pf_slice (pf_var 1) (pof_some (pf_var 4)) pof_none)) paf_nil)))) (pf_var 3))))))) pssf_nil)
    (pssf_cons (psf_if (ptf_w (pwf_and (ptf_tru (pf_isi (T := "str") (pf_var 1) (by rfl) T.b_isinstance (by rfl) T.b_str (by decide +kernel))) (pwf_and1 (ptf_cmp op_ltD (pf_var 3) pf_int)))) (pssf_one (psf_ret (pf_ix (pf_lst (paf_cons (pf_bin op_addD (pf_var 1) pf_str) (paf_cons (pf_slice (pf_var 1) (pof_some pf_int) pof_none) (paf_cons (pf_upper (pf_var 1)) (paf_cons (pf_bin op_addD pf_str (pf_var 1)) paf_nil))))) (pf_var 3)))) pssf_nil)
    (pssf_cons (psf_if (ptf_w (pwf_and (ptf_tru (pf_isi (T := "int") (pf_var 1) (by rfl) T.b_isinstance (by rfl) T.b_int (by decide +kernel))) (pwf_and1 (ptf_cmp op_ltD (pf_var 3) pf_int)))) (pssf_one (psf_ret (pf_ix (pf_lst (paf_cons (pf_bin op_addD (pf_var 1) pf_int) (paf_cons (pf_bin op_subD (pf_var 1) pf_int) (paf_cons (pf_cmp (op_eqD' (hu64 hr)) (pf_var 1) pf_int) (paf_cons (pf_callTy call_strX (by rfl) T.b_str (by decide +kernel) (paf_cons (pf_var 1) paf_nil)) paf_nil))))) (pf_var 3)))) pssf_nil)
    (pssf_one (psf_ret (pf_ix (pf_var 2) (pf_callR G__law_draw (hr.mono (by omega)) hg (by rfl) tk (paf_cons (pf_var 0) (paf_cons (pf_callB call_lenX (by rfl) T.b_len (by decide +kernel) (paf_cons (pf_var 2) paf_nil)) paf_nil)))))))))))
theorem sc__law_is_number : FnScope N__law_is_number P__law_is_number (defScope s__law_is_number) := ⟨rfl, rfl, rfl, by decide +kernel, rfl, by decide +kernel, by decide +kernel⟩
theorem G__law_is_number (T : Tx K mg) : Gx P w K mg base 1 T.d__law_is_number F__law_is_number := by
  refine gx_of _ sc__law_is_number fun cdv A outer s H E hr hg => ?_
  have nd := sc__law_is_number.nd
  have tk := tkX (P := P) (w := w) (K := K) (mg := mg) (base := base) (x := "_law_is_number") (st := s__law_is_number) (N := N__law_is_number) (f := T.d__law_is_number.f) (cdv := cdv) (A := A) (outer := outer) (s := s) (H := H) (E := E)
  have po := poX (P := P) (w := w) (K := K) (mg := mg) (base := base) (x := "_law_is_number") (st := s__law_is_number) (N := N__law_is_number) (f := T.d__law_is_number.f) (cdv := cdv) (A := A) (outer := outer) (s := s) (H := H) (E := E)
  exact (pssf_one (psf_ret (pf_and (pf_isi (T := "int") (pf_var 0) (by rfl) T.b_isinstance (by rfl) T.b_int (by decide +kernel)) (pf_and (pf_not (pf_isi (T := "bool") (pf_var 0) (by rfl) T.b_isinstance (by rfl) T.b_bool (by decide +kernel))) (pf_one (pf_cmp op_geD (pf_var 0) pf_int))))))
theorem sc__law_is_name : FnScope N__law_is_name P__law_is_name (defScope s__law_is_name) := ⟨rfl, rfl, rfl, by decide +kernel, rfl, by decide +kernel, by decide +kernel⟩
theorem G__law_is_name (T : Tx K mg) : Gx P w K mg base 1 T.d__law_is_name F__law_is_name := by
  refine gx_of _ sc__law_is_name fun cdv A outer s H E hr hg => ?_
  have nd := sc__law_is_name.nd
  have tk := tkX (P := P) (w := w) (K := K) (mg := mg) (base := base) (x := "_law_is_name") (st := s__law_is_name) (N := N__law_is_name) (f := T.d__law_is_name.f) (cdv := cdv) (A := A) (outer := outer) (s := s) (H := H) (E := E)
  have po := poX (P := P) (w := w) (K := K) (mg := mg) (base := base) (x := "_law_is_name") (st := s__law_is_name) (N := N__law_is_name) (f := T.d__law_is_name.f) (cdv := cdv) (A := A) (outer := outer) (s := s) (H := H) (E := E)
  exact (pssf_cons (psf_if (ptf_w (pwf_or (ptf_not (ptf_tru (pf_isi (T := "str") (pf_var 0) (by rfl) T.b_isinstance (by rfl) T.b_str (by decide +kernel)))) (pwf_or (ptf_cmp op_ltD (pf_callB call_lenX (by rfl) T.b_len (by decide +kernel) (paf_cons (pf_var 0) paf_nil)) pf_int) (pwf_or1 (ptf_cmp op_gtD (pf_callB call_lenX (by rfl) T.b_len (by decide +kernel) (paf_cons (pf_var 0) paf_nil)) pf_int))))) (pssf_one (psf_ret pf_bl)) pssf_nil)
    (pssf_one (psf_ret (pf_cmp (op_eqD' (hu64 hr)) (pf_lc (own := [("_law_sign", 1)]) rfl nd (pif_any (pf_var 0)) (blkOk_by (own := [("_law_sign", 1)]) (N := N__law_is_name) (sc := defScope s__law_is_name) (by decide +kernel)) (fun _ _ _ _ _ => (pgf_name (i := 1) nd rfl (by first | exact Or.inl rfl | exact Or.inr rfl))) (fun _ _ _ _ _ => (ptsf_one (ptf_cmp (op_niX (hu65 hr)) (pf_var 1) pf_str))) (fun _ _ _ _ _ => (pf_var 1))) (pf_lst paf_nil)))))
theorem sc__law_is_note : FnScope N__law_is_note P__law_is_note (defScope s__law_is_note) := ⟨rfl, rfl, rfl, by decide +kernel, rfl, by decide +kernel, by decide +kernel⟩
theorem G__law_is_note (T : Tx K mg) : Gx P w K mg base 2 T.d__law_is_note F__law_is_note := by
  have G__law_is_name := G__law_is_name (P := P) (w := w) (base := base) T
  refine gx_of _ sc__law_is_note fun cdv A outer s H E hr hg => ?_
  have nd := sc__law_is_note.nd
  have tk := tkX (P := P) (w := w) (K := K) (mg := mg) (base := base) (x := "_law_is_note") (st := s__law_is_note) (N := N__law_is_note) (f := T.d__law_is_note.f) (cdv := cdv) (A := A) (outer := outer) (s := s) (H := H) (E := E)
  have po := poX (P := P) (w := w) (K := K) (mg := mg) (base := base) (x := "_law_is_note") (st := s__law_is_note) (N := N__law_is_note) (f := T.d__law_is_note.f) (cdv := cdv) (A := A) (outer := outer) (s := s) (H := H) (E := E)
  exact (pssf_cons (psf_if (ptf_not (ptf_tru (pf_isi (T := "str") (pf_var 0) (by rfl) T.b_isinstance (by rfl) T.b_str (by decide +kernel)))) (pssf_one (psf_ret pf_bl)) pssf_nil)
    (pssf_one (psf_ret (pf_or (pf_callR G__law_is_name (hr.mono (by decide)) hg (by rfl) tk (paf_cons (pf_var 0) paf_nil)) (pf_one (pf_and (pf_cmp (op_inX (hu65 hr)) (pf_slice (pf_var 0) pof_none (pof_some pf_int)) (pf_tup (paf_cons pf_str (paf_cons pf_str paf_nil)))) (pf_one (pf_callR G__law_is_name (hr.mono (by decide)) hg (by rfl) tk (paf_cons (pf_slice (pf_var 0) (pof_some pf_int) pof_none) paf_nil)))))))))
theorem sc__law_rises : FnScope N__law_rises P__law_rises (defScope s__law_rises) := ⟨rfl, rfl, rfl, by decide +kernel, rfl, by decide +kernel, by decide +kernel⟩
theorem G__law_rises (T : Tx K mg) : Gx P w K mg base 1 T.d__law_rises F__law_rises := by
  refine gx_of _ sc__law_rises fun cdv A outer s H E hr hg => ?_
  have nd := sc__law_rises.nd
  have tk := tkX (P := P) (w := w) (K := K) (mg := mg) (base := base) (x := "_law_rises") (st := s__law_rises) (N := N__law_rises) (f := T.d__law_rises.f) (cdv := cdv) (A := A) (outer := outer) (s := s) (H := H) (E := E)
  have po := poX (P := P) (w := w) (K := K) (mg := mg) (base := base) (x := "_law_rises") (st := s__law_rises) (N := N__law_rises) (f := T.d__law_rises.f) (cdv := cdv) (A := A) (outer := outer) (s := s) (H := H) (E := E)
  exact (pssf_one (psf_ret (pf_cmp (op_eqD' (hu64 hr)) (pf_lc (own := [("_law_k", 1)]) rfl nd (pif_range2 (by rfl) T.b_range (paf_cons pf_int (paf_cons (pf_callB call_lenX (by rfl) T.b_len (by decide +kernel) (paf_cons (pf_var 0) paf_nil)) paf_nil))) (blkOk_by (own := [("_law_k", 1)]) (N := N__law_rises) (sc := defScope s__law_rises) (by decide +kernel)) (fun _ _ _ _ _ => (pgf_name (i := 1) nd rfl (by first | exact Or.inl rfl | exact Or.inr rfl))) (fun _ _ _ _ _ => (ptsf_one (ptf_cmp op_geD (pf_ix (pf_var 0) (pf_bin op_subD (pf_var 1) pf_int)) (pf_ix (pf_var 0) (pf_var 1))))) (fun _ _ _ _ _ => (pf_var 1))) (pf_lst paf_nil))))
theorem sc__law_are_notes : FnScope N__law_are_notes P__law_are_notes (defScope s__law_are_notes) := ⟨rfl, rfl, rfl, by decide +kernel, rfl, by decide +kernel, by decide +kernel⟩
theorem G__law_are_notes (T : Tx K mg) : Gx P w K mg base 3 T.d__law_are_notes F__law_are_notes := by
  have G__law_rises := G__law_rises (P := P) (w := w) (base := base) T
  have G__law_is_note := G__law_is_note (P := P) (w := w) (base := base) T
  refine gx_of _ sc__law_are_notes fun cdv A outer s H E hr hg => ?_
  have nd := sc__law_are_notes.nd
  have tk := tkX (P := P) (w := w) (K := K) (mg := mg) (base := base) (x := "_law_are_notes") (st := s__law_are_notes) (N := N__law_are_notes) (f := T.d__law_are_notes.f) (cdv := cdv) (A := A) (outer := outer) (s := s) (H := H) (E := E)
  have po := poX (P := P) (w := w) (K := K) (mg := mg) (base := base) (x := "_law_are_notes") (st := s__law_are_notes) (N := N__law_are_notes) (f := T.d__law_are_notes.f) (cdv := cdv) (A := A) (outer := outer) (s := s) (H := H) (E := E)
  exact (pssf_cons (psf_if (ptf_w (pwf_or (ptf_not (ptf_tru (pf_isi (T := "tuple") (pf_var 0) (by rfl) T.b_isinstance (by rfl) T.b_tuple (by decide +kernel)))) (pwf_or1 (ptf_cmp (op_neD' (hu64 hr)) (pf_lc (own := [("_law_one", 1)]) rfl nd (pif_any (pf_var 0)) (blkOk_by (own := [("_law_one", 1)]) (N := N__law_are_notes) (sc := defScope s__law_are_notes) (by decide +kernel)) (fun _ _ _ _ _ => (pgf_name (i := 1) nd rfl (by first | exact Or.inl rfl | exact Or.inr rfl))) (fun _ _ _ _ _ => (ptsf_one (ptf_not (ptf_tru (pf_callR G__law_is_note (hr.mono (by decide)) hg (by rfl) takesW0 (paf_cons (pf_var 1) paf_nil)))))) (fun _ _ _ _ _ => (pf_var 1))) (pf_lst paf_nil))))) (pssf_one (psf_ret pf_bl)) pssf_nil)
    (pssf_one (psf_ret (pf_callR G__law_rises (hr.mono (by decide)) hg (by rfl) tk (paf_cons (pf_var 0) paf_nil)))))
theorem sc__law_due : FnScope N__law_due P__law_due (defScope s__law_due) := ⟨rfl, rfl, rfl, by decide +kernel, rfl, by decide +kernel, by decide +kernel⟩
theorem G__law_due (T : Tx K mg) : Gx P w K mg base 4 T.d__law_due F__law_due := by
  have G__law_is_number := G__law_is_number (P := P) (w := w) (base := base) T
  have G__law_is_name := G__law_is_name (P := P) (w := w) (base := base) T
  have G__law_is_note := G__law_is_note (P := P) (w := w) (base := base) T
  have G__law_are_notes := G__law_are_notes (P := P) (w := w) (base := base) T
  refine gx_of _ sc__law_due fun cdv A outer s H E hr hg => ?_
  have nd := sc__law_due.nd
  have tk := tkX (P := P) (w := w) (K := K) (mg := mg) (base := base) (x := "_law_due") (st := s__law_due) (N := N__law_due) (f := T.d__law_due.f) (cdv := cdv) (A := A) (outer := outer) (s := s) (H := H) (E := E)
  have po := poX (P := P) (w := w) (K := K) (mg := mg) (base := base) (x := "_law_due") (st := s__law_due) (N := N__law_due) (f := T.d__law_due.f) (cdv := cdv) (A := A) (outer := outer) (s := s) (H := H) (E := E)
  exact (pssf_cons (psf_set (i := 1) nd rfl (by first | exact Or.inl rfl | exact Or.inr rfl) (pf_and (pf_isi (T := "int") (pf_var 0) (by rfl) T.b_isinstance (by rfl) T.b_int (by decide +kernel)) (pf_one (pf_not (pf_isi (T := "bool") (pf_var 0) (by rfl) T.b_isinstance (by rfl) T.b_bool (by decide +kernel))))))
    (pssf_cons (psf_set (i := 2) nd rfl (by first | exact Or.inl rfl | exact Or.inr rfl) (pf_lst (paf_cons (pf_var 1) (paf_cons (pf_callR G__law_is_number (hr.mono (by decide)) hg (by rfl) tk (paf_cons (pf_var 0) paf_nil)) (paf_cons (pf_callR G__law_is_name (hr.mono (by decide)) hg (by rfl) tk (paf_cons (pf_var 0) paf_nil)) (paf_cons (pf_callR G__law_is_name (hr.mono (by decide)) hg (by rfl) tk (paf_cons (pf_var 0) paf_nil)) (paf_cons (pf_callR G__law_is_note (hr.mono (by decide)) hg (by rfl) tk (paf_cons (pf_var 0) paf_nil)) paf_nil)))))))
    (pssf_cons (psf_set (i := 3) nd rfl (by first | exact Or.inl rfl | exact Or.inr rfl) (pf_and (pf_isi (T := "tuple") (pf_var 0) (by rfl) T.b_isinstance (by rfl) T.b_tuple (by decide +kernel)) (pf_one (pf_cmp (op_eqD' (hu64 hr)) (pf_lc (own := [("_law_one", 4)]) rfl nd (pif_any (pf_var 0)) (blkOk_by (own := [("_law_one", 4)]) (N := N__law_due) (sc := defScope s__law_due) (by decide +kernel)) (fun _ _ _ _ _ => (pgf_name (i := 4) nd rfl (by first | exact Or.inl rfl | exact Or.inr rfl))) (fun _ _ _ _ _ => (ptsf_one (ptf_not (ptf_tru (pf_callR G__law_is_number (hr.mono (by decide)) hg (by rfl) takesW0 (paf_cons (pf_var 4) paf_nil)))))) (fun _ _ _ _ _ => (pf_var 4))) (pf_lst paf_nil)))))
    (pssf_one (psf_ret (pf_bin op_addD (pf_var 2) (pf_lst (paf_cons (pf_callR G__law_are_notes (hr.mono (by decide)) hg (by rfl) tk (paf_cons (pf_var 0) paf_nil)) (paf_cons (pf_var 3) paf_nil)))))))))
theorem sc__law_fixed_values : FnScope N__law_fixed_values P__law_fixed_values (defScope s__law_fixed_values) := ⟨rfl, rfl, rfl, by decide +kernel, rfl, by decide +kernel, by decide +kernel⟩
theorem G__law_fixed_values (T : Tx K mg) : Gx P w K mg base 1 T.d__law_fixed_values F__law_fixed_values := by
  refine gx_of _ sc__law_fixed_values fun cdv A outer s H E hr hg => ?_
  have nd := sc__law_fixed_values.nd
  have tk := tkX (P := P) (w := w) (K := K) (mg := mg) (base := base) (x := "_law_fixed_values") (st := s__law_fixed_values) (N := N__law_fixed_values) (f := T.d__law_fixed_values.f) (cdv := cdv) (A := A) (outer := outer) (s := s) (H := H) (E := E)
  have po := poX (P := P) (w := w) (K := K) (mg := mg) (base := base) (x := "_law_fixed_values") (st := s__law_fixed_values) (N := N__law_fixed_values) (f := T.d__law_fixed_values.f) (cdv := cdv) (A := A) (outer := outer) (s := s) (H := H) (E := E)
  exact (pssf_cons (psf_asg (pf_tup (paf_cons (pf_bin op_powD pf_int pf_int) (paf_cons pf_str paf_nil))) (pgf_tup rfl (pgsf_cons (pgf_name (i := 2) nd rfl (by first | exact Or.inl rfl | exact Or.inr rfl)) (pgsf_cons (pgf_name (i := 3) nd rfl (by first | exact Or.inl rfl | exact Or.inr rfl)) pgsf_nil))))
    (pssf_cons (psf_set (i := 0) nd rfl (by first | exact Or.inl rfl | exact Or.inr rfl) (pf_lst (paf_cons pf_non (paf_cons pf_bl (paf_cons pf_bl (paf_cons pf_int (paf_cons pf_int (paf_cons (pf_un un_negD pf_int) (paf_cons (pf_var 2) (paf_cons (pf_un un_negD (pf_var 2)) (paf_cons pf_str (paf_cons pf_str (paf_cons pf_str paf_nil)))))))))))))
    (pssf_cons (psf_set (i := 0) nd rfl (by first | exact Or.inl rfl | exact Or.inr rfl) (pf_bin op_addD (pf_var 0) (pf_lst (paf_cons pf_str (paf_cons pf_str (paf_cons pf_str (paf_cons pf_str (paf_cons pf_str (paf_cons pf_str paf_nil)))))))))
    (pssf_cons (psf_set (i := 0) nd rfl (by first | exact Or.inl rfl | exact Or.inr rfl) (pf_bin op_addD (pf_var 0) (pf_lst (paf_cons pf_str (paf_cons pf_str (paf_cons pf_str (paf_cons pf_str (paf_cons pf_str (paf_cons pf_str (paf_cons pf_str (paf_cons pf_str (paf_cons pf_str (paf_cons pf_str paf_nil)))))))))))))
    (pssf_cons (psf_set (i := 0) nd rfl (by first | exact Or.inl rfl | exact Or.inr rfl) (pf_bin op_addD (pf_var 0) (pf_lst (paf_cons pf_str (paf_cons pf_str (paf_cons (pf_bin op_mulD pf_str pf_int) (paf_cons (pf_bin op_addD pf_str (pf_bin op_mulD pf_str pf_int)) (paf_cons (pf_tup paf_nil) (paf_cons (pf_lst paf_nil) (paf_cons (pf_tup (paf_cons pf_str paf_nil)) (paf_cons (pf_lst (paf_cons pf_str paf_nil)) paf_nil)))))))))))
    (pssf_cons (psf_set (i := 0) nd rfl (by first | exact Or.inl rfl | exact Or.inr rfl) (pf_bin op_addD (pf_var 0) (pf_lst (paf_cons (pf_tup (paf_cons pf_str (paf_cons pf_str (paf_cons pf_str paf_nil)))) (paf_cons (pf_tup (paf_cons pf_str (paf_cons pf_str paf_nil))) (paf_cons (pf_tup (paf_cons pf_str (paf_cons pf_str paf_nil))) (paf_cons (pf_tup (paf_cons pf_str (paf_cons pf_str paf_nil))) (paf_cons (pf_tup (paf_cons pf_str (paf_cons pf_str paf_nil))) paf_nil))))))))
    (pssf_cons (psf_set (i := 0) nd rfl (by first | exact Or.inl rfl | exact Or.inr rfl) (pf_bin op_addD (pf_var 0) (pf_lst (paf_cons (pf_tup (paf_cons pf_str (paf_cons pf_str (paf_cons pf_str (paf_cons pf_str (paf_cons pf_str (paf_cons pf_str paf_nil))))))) (paf_cons (pf_tup (paf_cons pf_str (paf_cons pf_str paf_nil))) (paf_cons (pf_tup (paf_cons pf_str (paf_cons pf_str paf_nil))) (paf_cons (pf_tup (paf_cons pf_str (paf_cons pf_non paf_nil))) paf_nil)))))))
    (pssf_cons (psf_set (i := 0) nd rfl (by first | exact Or.inl rfl | exact Or.inr rfl) (pf_bin op_addD (pf_var 0) (pf_lst (paf_cons (pf_tup (paf_cons pf_str (paf_cons (pf_tup (paf_cons pf_str paf_nil)) paf_nil))) (paf_cons (pf_tup (paf_cons (pf_tup (paf_cons pf_str paf_nil)) paf_nil)) (paf_cons (pf_tup (paf_cons pf_int paf_nil)) (paf_cons (pf_tup (paf_cons pf_int (paf_cons pf_int paf_nil))) (paf_cons (pf_tup (paf_cons pf_int (paf_cons pf_int paf_nil))) (paf_cons (pf_tup (paf_cons pf_int (paf_cons (pf_un un_negD pf_int) paf_nil))) (paf_cons (pf_tup (paf_cons pf_int (paf_cons pf_bl paf_nil))) paf_nil))))))))))
    (pssf_cons (psf_set (i := 0) nd rfl (by first | exact Or.inl rfl | exact Or.inr rfl) (pf_bin op_addD (pf_var 0) (pf_lst (paf_cons (pf_tup (paf_cons pf_bl paf_nil)) (paf_cons (pf_tup (paf_cons (pf_var 2) paf_nil)) (paf_cons (pf_tup (paf_cons pf_int (paf_cons pf_str paf_nil))) (paf_cons (pf_tup (paf_cons (pf_tup (paf_cons pf_int paf_nil)) paf_nil)) (paf_cons (pf_lst (paf_cons pf_int paf_nil)) (paf_cons (pf_tup (paf_cons pf_int (paf_cons (pf_lst (paf_cons pf_int paf_nil)) paf_nil))) paf_nil)))))))))
    (pssf_cons (psf_set (i := 1) nd rfl (by first | exact Or.inl rfl | exact Or.inr rfl) (pf_callTy call_tupleX (by rfl) T.b_tuple (by decide +kernel) (paf_cons (pf_lc (own := [("_law_k", 4)]) rfl nd (pif_range1 (by rfl) T.b_range (paf_cons pf_int paf_nil)) (blkOk_by (own := [("_law_k", 4)]) (N := N__law_fixed_values) (sc := defScope s__law_fixed_values) (by decide +kernel)) (fun _ _ _ _ _ => (pgf_name (i := 4) nd rfl (by first | exact Or.inl rfl | exact Or.inr rfl))) (fun _ _ _ _ _ => ptsf_nil) (fun _ _ _ _ _ => (pf_bin op_addD (pf_bin op_addD pf_str (pf_ix (pf_var 3) (pf_bin op_fdvD (pf_var 4) pf_int))) (pf_ix (pf_var 3) (pf_bin op_modD (pf_callTy call_intX (by rfl) T.b_int (by decide +kernel) (paf_cons (pf_var 4) paf_nil)) pf_int))))) paf_nil)))
    (pssf_one (psf_ret (pf_bin op_addD (pf_var 0) (pf_lst (paf_cons (pf_var 1) (paf_cons (pf_bin op_addD (pf_var 1) (pf_slice (pf_var 1) (pof_some (pf_un un_negD pf_int)) pof_none)) (paf_cons (pf_bin op_addD (pf_slice (pf_var 1) pof_none (pof_some pf_int)) (pf_tup (paf_cons pf_str paf_nil))) (paf_cons (pf_bin op_mulD (pf_tup (paf_cons pf_int paf_nil)) pf_int) (paf_cons (pf_bin op_addD (pf_bin op_mulD (pf_tup (paf_cons pf_int paf_nil)) pf_int) (pf_tup (paf_cons (pf_un un_negD pf_int) paf_nil))) paf_nil)))))))))))))))))))
theorem sc_law : FnScope N_law P_law (defScope s_law) := ⟨rfl, rfl, rfl, by decide +kernel, rfl, by decide +kernel, by decide +kernel⟩
theorem G_law (T : Tx K mg) : Gx P w K mg base 10 T.d_law F_law := by
  have G__law_reader := G__law_reader (P := P) (w := w) (base := base) T
  have G__law_fixed_values := G__law_fixed_values (P := P) (w := w) (base := base) T
  have G__law_mutate := G__law_mutate (P := P) (w := w) (base := base) T 8
  have G_is_integer := G_is_integer (P := P) (w := w) (base := base) T
  have G_is_number := G_is_number (P := P) (w := w) (base := base) T
  have G_is_name := G_is_name (P := P) (w := w) (base := base) T
  have G_is_remark := G_is_remark (P := P) (w := w) (base := base) T
  have G_is_note := G_is_note (P := P) (w := w) (base := base) T
  have G__law_draw := G__law_draw (P := P) (w := w) (base := base) T
  have G_is_notes := G_is_notes (P := P) (w := w) (base := base) T
  have G_is_place := G_is_place (P := P) (w := w) (base := base) T
  have G__law_due := G__law_due (P := P) (w := w) (base := base) T
  refine gx_of _ sc_law fun cdv A outer s H E hr hg => ?_
  have nd := sc_law.nd
  have tk := tkX (P := P) (w := w) (K := K) (mg := mg) (base := base) (x := "law") (st := s_law) (N := N_law) (f := T.d_law.f) (cdv := cdv) (A := A) (outer := outer) (s := s) (H := H) (E := E)
  have po := poX (P := P) (w := w) (K := K) (mg := mg) (base := base) (x := "law") (st := s_law) (N := N_law) (f := T.d_law.f) (cdv := cdv) (A := A) (outer := outer) (s := s) (H := H) (E := E)
  exact (pssf_cons (psf_set (i := 1) nd rfl (by first | exact Or.inl rfl | exact Or.inr rfl) (pf_callR G__law_reader (hr.mono (by decide)) hg (by rfl) tk (paf_cons (pf_var 0) paf_nil)))
    (pssf_cons (psf_set (i := 2) nd rfl (by first | exact Or.inl rfl | exact Or.inr rfl) (pf_lst (paf_cons pf_non (paf_cons pf_bl (paf_cons pf_int (paf_cons (pf_un un_negD pf_int) (paf_cons pf_str (paf_cons pf_str (paf_cons pf_str (paf_cons pf_str (paf_cons pf_str (paf_cons (pf_tup paf_nil) (paf_cons (pf_lst paf_nil) (paf_cons (pf_tup (paf_cons pf_str paf_nil)) (paf_cons (pf_tup (paf_cons pf_int paf_nil)) paf_nil)))))))))))))))
    (pssf_cons (psf_set (i := 3) nd rfl (by first | exact Or.inl rfl | exact Or.inr rfl) (pf_bin op_addD (pf_var 2) (pf_callR0 G__law_fixed_values (hr.mono (by decide)) hg (by rfl) tk)))
    (pssf_cons (psf_set (i := 4) nd rfl (by first | exact Or.inl rfl | exact Or.inr rfl) (pf_lst (paf_cons pf_str (paf_cons pf_str (paf_cons pf_str (paf_cons pf_str (paf_cons pf_str (paf_cons pf_str (paf_cons pf_str paf_nil)))))))))
    (pssf_cons (psf_for po rfl (pif_range1 (by rfl) T.b_range (paf_cons pf_int paf_nil)) (pgf_name (i := 5) nd rfl (by first | exact Or.inl rfl | exact Or.inr rfl))
    (pssf_cons (psf_setLc (i := 7) (own := [("_law_k", 12)]) rfl nd rfl rfl (sw_true rfl rfl rfl (by decide +kernel)) (pif_range1 (by rfl) T.b_range (paf_cons (pf_callR G__law_draw (hr.mono (by decide)) hg (by rfl) tk (paf_cons (pf_var 1) (paf_cons pf_int paf_nil))) paf_nil)) (blkOk_by (own := [("_law_k", 12)]) (N := N_law) (sc := defScope s_law) (by decide +kernel)) (fun _ _ _ _ _ => (pgf_name (i := 12) nd rfl (by first | exact Or.inl rfl | exact Or.inr rfl))) (fun _ _ _ _ _ => ptsf_nil) (fun _ _ _ _ _ => (pf_ix (pf_var 4) (pf_callR G__law_draw (hr.mono (by decide)) hg (by rfl) takesW0 (paf_cons (pf_var 1) (paf_cons pf_int paf_nil))))))
    (pssf_cons (psf_set (i := 8) nd rfl (by first | exact Or.inl rfl | exact Or.inr rfl) (pf_callTy call_tupleX (by rfl) T.b_tuple (by decide +kernel) (paf_cons (pf_lc (own := [("_law_k", 12)]) rfl nd (pif_range1 (by rfl) T.b_range (paf_cons (pf_callR G__law_draw (hr.mono (by decide)) hg (by rfl) tk (paf_cons (pf_var 1) (paf_cons pf_int paf_nil))) paf_nil)) (blkOk_by (own := [("_law_k", 12)]) (N := N_law) (sc := defScope s_law) (by decide +kernel)) (fun _ _ _ _ _ => (pgf_name (i := 12) nd rfl (by first | exact Or.inl rfl | exact Or.inr rfl))) (fun _ _ _ _ _ => ptsf_nil) (fun _ _ _ _ _ => (pf_callR G__law_draw (hr.mono (by decide)) hg (by rfl) takesW0 (paf_cons (pf_var 1) (paf_cons pf_int paf_nil))))) paf_nil)))
    (pssf_one (psf_for po rfl (pif_any (pf_tup (paf_cons (pf_callTy call_tupleX (by rfl) T.b_tuple (by decide +kernel) (paf_cons (pf_var 7) paf_nil)) (paf_cons (pf_callTy call_tupleX (by rfl) T.b_tuple (by decide +kernel) (paf_cons (pf_sortset rfl (by rfl) T.b_sorted (by rfl) T.b_set (paf_cons (pf_var 7) paf_nil)) paf_nil)) (paf_cons (pf_var 7) (paf_cons (pf_var 8) paf_nil)))))) (pgf_name (i := 6) nd rfl (by first | exact Or.inl rfl | exact Or.inr rfl))
    (pssf_cons (psf_set (i := 11) nd rfl (by first | exact Or.inl rfl | exact Or.inr rfl) (pf_callR G__law_mutate (hr.mono (by decide)) hg (by rfl) tk (paf_cons (pf_var 1) (paf_cons (pf_var 6) (paf_cons (pf_var 2) paf_nil)))))
    (pssf_one (psf_set (i := 3) nd rfl (by first | exact Or.inl rfl | exact Or.inr rfl) (pf_bin op_addD (pf_var 3) (pf_lst (paf_cons (pf_var 6) (paf_cons (pf_var 11) (paf_cons (pf_callR G__law_mutate (hr.mono (by decide)) hg (by rfl) tk (paf_cons (pf_var 1) (paf_cons (pf_var 11) (paf_cons (pf_var 2) paf_nil)))) paf_nil)))))))))))))
    (pssf_cons (psf_for po rfl (pif_any (pf_var 3)) (pgf_name (i := 6) nd rfl (by first | exact Or.inl rfl | exact Or.inr rfl))
    (pssf_cons (psf_set (i := 9) nd rfl (by first | exact Or.inl rfl | exact Or.inr rfl) (pf_callB (call_reprX hg (hu70 hr)) (by rfl) T.b_repr (by decide +kernel) (paf_cons (pf_var 6) paf_nil)))
    (pssf_cons (psf_set (i := 10) nd rfl (by first | exact Or.inl rfl | exact Or.inr rfl) (pf_lst (paf_cons (pf_callR G_is_integer (hr.mono (by decide)) hg (by rfl) tk (paf_cons (pf_var 6) paf_nil)) (paf_cons (pf_callR G_is_number (hr.mono (by decide)) hg (by rfl) tk (paf_cons (pf_var 6) paf_nil)) (paf_cons (pf_callR G_is_name (hr.mono (by decide)) hg (by rfl) tk (paf_cons (pf_var 6) paf_nil)) (paf_cons (pf_callR G_is_remark (hr.mono (by decide)) hg (by rfl) tk (paf_cons (pf_var 6) paf_nil)) (paf_cons (pf_callR G_is_note (hr.mono (by decide)) hg (by rfl) tk (paf_cons (pf_var 6) paf_nil)) paf_nil)))))))
    (pssf_cons (psf_set (i := 10) nd rfl (by first | exact Or.inl rfl | exact Or.inr rfl) (pf_bin op_addD (pf_var 10) (pf_lst (paf_cons (pf_callR G_is_notes (hr.mono (by decide)) hg (by rfl) tk (paf_cons (pf_var 6) paf_nil)) (paf_cons (pf_callR G_is_place (hr.mono (by decide)) hg (by rfl) tk (paf_cons (pf_var 6) paf_nil)) paf_nil)))))
    (pssf_one (psf_if (ptf_w (pwf_or (ptf_cmp (op_neD' (hu64 hr)) (pf_callB (call_reprX hg (hu70 hr)) (by rfl) T.b_repr (by decide +kernel) (paf_cons (pf_var 10) paf_nil)) (pf_callB (call_reprX hg (hu70 hr)) (by rfl) T.b_repr (by decide +kernel) (paf_cons (pf_callR G__law_due (hr.mono (by decide)) hg (by rfl) tk (paf_cons (pf_var 6) paf_nil)) paf_nil))) (pwf_or1 (ptf_cmp (op_neD' (hu64 hr)) (pf_callB (call_reprX hg (hu70 hr)) (by rfl) T.b_repr (by decide +kernel) (paf_cons (pf_var 6) paf_nil)) (pf_var 9))))) (pssf_one (psf_ret pf_bl)) pssf_nil))))))
    (pssf_one (psf_ret pf_bl))))))))
end
end Tk

set_option Elab.async false
set_option linter.all false
set_option maxRecDepth 100000
set_option maxHeartbeats 4000000
namespace Tk
open PySem L2 Td
theorem leave_rt {w' : Ws} {n : Nat} {d : PyData} (h : w'.length = n) : leave n (.rt d w') = .ok d w' := by
  subst h
  simp only [leave]
  split
  · rw [List.take_length]
  · rfl
theorem k_ii : kitB "int" "int" = some true := by decide +kernel
theorem k_ib : kitB "int" "bool" = some false := by decide +kernel
theorem k_is : kitB "int" "str" = some false := by decide +kernel
theorem k_it : kitB "int" "tuple" = some false := by decide +kernel
theorem k_bi : kitB "bool" "int" = some true := by decide +kernel
theorem k_bb : kitB "bool" "bool" = some true := by decide +kernel
theorem k_bs : kitB "bool" "str" = some false := by decide +kernel
theorem k_bt : kitB "bool" "tuple" = some false := by decide +kernel
theorem k_si : kitB "str" "int" = some false := by decide +kernel
theorem k_sb : kitB "str" "bool" = some false := by decide +kernel
theorem k_ss : kitB "str" "str" = some true := by decide +kernel
theorem k_st : kitB "str" "tuple" = some false := by decide +kernel
theorem k_ti : kitB "tuple" "int" = some false := by decide +kernel
theorem k_tb : kitB "tuple" "bool" = some false := by decide +kernel
theorem k_ts : kitB "tuple" "str" = some false := by decide +kernel
theorem k_tt : kitB "tuple" "tuple" = some true := by decide +kernel
theorem k_li : kitB "list" "int" = some false := by decide +kernel
theorem k_lb : kitB "list" "bool" = some false := by decide +kernel
theorem k_ls : kitB "list" "str" = some false := by decide +kernel
theorem k_lt : kitB "list" "tuple" = some false := by decide +kernel
theorem k_ni : kitB "NoneType" "int" = some false := by decide +kernel
theorem k_nb : kitB "NoneType" "bool" = some false := by decide +kernel
theorem k_ns : kitB "NoneType" "str" = some false := by decide +kernel
theorem k_nt : kitB "NoneType" "tuple" = some false := by decide +kernel
/-- data without the store's objects -/
def isD : PyData → Bool
  | .none => true
  | .bool _ => true
  | .int _ => true
  | .str _ => true
  | .list _ => true
  | .tuple _ => true
  | .dict _ => false
def intB : PyData → Bool
  | .int _ => true
  | _ => false
theorem is_integer_ok (d : PyData) (w : Ws) (h : isD d = true) : F_is_integer [d] w = .ok (.bool (intB d)) w := by
  cases d <;> (try cases h) <;> simp [F_is_integer, b_is_integer, defF, startE, sRet, sExp, sIf, sSeq, sAsg, sFor, gN, gT, gC, gZ, eAn, eOr, eNo, eIf, eIsi, eV, eC, eB, eU, eCb, eCall, eSl, oN, oS, eTup, eLst, aN, aC, eLc, eCh, tAn, tOr', tNo, tB', tTr, tYs, iE, iZ, iR1, iR2, sNil, Oc.bind, Oc.thenS, Oc.of, Oc.on, tyD, leave_rt, truD, List.replicate, List.set, List.append_nil, List.nil_append, List.cons_append, wipeE, cond_true, cond_false, k_ii, k_ib, k_is, k_it, k_bi, k_bb, k_bs, k_bt, k_si, k_sb, k_ss, k_st, k_ti, k_tb, k_ts, k_tt, k_li, k_lb, k_ls, k_lt, k_ni, k_nb, k_ns, k_nt, intB]
def numB : PyData → Bool
  | .int i => decide (0 ≤ i)
  | _ => false
theorem is_number_ok (d : PyData) (w : Ws) (h : isD d = true) : F_is_number [d] w = .ok (.bool (numB d)) w := by
  have e := is_integer_ok d w h
  cases d <;> (try cases h) <;> simp [F_is_number, b_is_number, e, intB, defF, startE, sRet, sExp, sIf, sSeq, sAsg, sFor, gN, gT, gC, gZ, eAn, eOr, eNo, eIf, eIsi, eV, eC, eB, eU, eCb, eCall, eSl, oN, oS, eTup, eLst, aN, aC, eLc, eCh, tAn, tOr', tNo, tB', tTr, tYs, iE, iZ, iR1, iR2, sNil, Oc.bind, Oc.thenS, Oc.of, Oc.on, tyD, leave_rt, truD, List.replicate, List.set, List.append_nil, List.nil_append, List.cons_append, wipeE, cond_true, cond_false, k_ii, k_ib, k_is, k_it, k_bi, k_bb, k_bs, k_bt, k_si, k_sb, k_ss, k_st, k_ti, k_tb, k_ts, k_tt, k_li, k_lb, k_ls, k_lt, k_ni, k_nb, k_ns, k_nt, numB, geD, cmpD]
/-! comprehensions that change nothing -/
theorem lcL_pure {gt : FG} {tt : FT} {fe : FE} {ρ : Ev} {w : Ws} (p : PyData → Bool) (f : PyData → PyData) : ∀ (ds acc : List PyData), acc.length + ds.length ≤ sizeLine →
    (∀ d ∈ ds, ∃ ρ1, gt d ρ w = .ok ρ1 w ∧ tt ρ1 w = .ok (p d) w ∧ (p d = true → fe ρ1 w = .ok (f d) w)) → lcL gt tt fe ρ ds w acc = .ok (acc ++ (ds.filter p).map f) w
  | [], acc, _, _ => by simp [lcL]
  | d :: ds, acc, hs, h => by
    obtain ⟨ρ1, h1, h2, h3⟩ := h d List.mem_cons_self
    have hs' : acc.length + (ds.length + 1) ≤ sizeLine := hs
    cases hp : p d with
    | false =>
      rw [hp] at h2
      have ih := lcL_pure p f ds acc (by omega) fun x hx => h x (List.mem_cons_of_mem _ hx)
      simp only [lcL, h1, h2, ih, List.filter_cons, hp]
      rfl
    | true =>
      rw [hp] at h2
      have ih := lcL_pure p f ds (acc ++ [f d]) (by rw [List.length_append]; simp; omega) fun x hx => h x (List.mem_cons_of_mem _ hx)
      simp only [lcL, h1, h2, h3 hp, ih, List.filter_cons, hp, if_pos (show acc.length < sizeLine by omega)]
      simp
theorem lcL_map {gt : FG} {fe : FE} {ρ : Ev} {w : Ws} (f : PyData → PyData) (ds : List PyData) (hs : ds.length ≤ sizeLine) (h : ∀ d ∈ ds, ∃ ρ1, gt d ρ w = .ok ρ1 w ∧ fe ρ1 w = .ok (f d) w) : lcL gt tYs fe ρ ds w [] = .ok (ds.map f) w := by
  have := lcL_pure (gt := gt) (tt := tYs) (fe := fe) (ρ := ρ) (w := w) (fun _ => true) f ds [] (by simpa using hs) fun d hd => by
    obtain ⟨ρ1, h1, h2⟩ := h d hd
    exact ⟨ρ1, h1, rfl, fun _ => h2⟩
  rw [this, List.filter_eq_self.mpr (fun _ _ => rfl), List.nil_append]
theorem boolsOf_map {α : Type} (f : α → Bool) : ∀ xs : List α, boolsOf (xs.map fun x => PyData.bool (f x)) = some (xs.map f)
  | [] => rfl
  | x :: xs => by simp [boolsOf, boolsOf_map f xs]
theorem all_map_id {α : Type} (f : α → Bool) (xs : List α) : (xs.map f).all id = xs.all f := by simp [List.all_map]
def letters : Str := "abcdefghijklmnopqrstuvwxyz"
def letB (c : Nat) : Bool := decide (c ∈ letters.cps.toList)
def nameS (z : Str) : Bool := decide (1 ≤ z.length) && decide (z.length ≤ 8) && z.cps.toList.all letB
def nameB : PyData → Bool
  | .str z => nameS z
  | _ => false
theorem chD_len (z : Str) : (chD z).length = z.length := by simp [chD, Str.length]
/-- the size of a text -/
def szD : PyData → Bool
  | .none => true
  | .bool _ => true
  | .int _ => true
  | .str z => szOk z.length && PyData.strOk z
  | .list _ => true
  | .tuple _ => true
  | .dict _ => true
theorem is_name_ok (d : PyData) (w : Ws) (h : isD d = true) (hs : szD d = true) : F_is_name [d] w = .ok (.bool (nameB d)) w := by
  cases d with
  | str z =>
    have hz' : szOk z.length = true := ((Bool.and_eq_true _ _).mp hs).1
    have hz : z.length ≤ sizeLine := of_decide_eq_true hz'
    have key : ∀ ρ : Ev, 2 ≤ ρ.length → lcL (gN 1) tYs (eB inD (eV 1) (eC (.str "abcdefghijklmnopqrstuvwxyz"))) ρ (chD z) w [] = .ok ((chD z).map fun d => .bool (match d with | .str y => strIn y letters | _ => false)) w := by
      intro ρ hρ
      refine lcL_map _ _ (by rw [chD_len]; exact hz) fun d hd => ?_
      obtain ⟨c, _, rfl⟩ := List.mem_map.mp hd
      refine ⟨_, rfl, ?_⟩
      simp [eB, eV, eC, Oc.bind, Oc.of, inD, isIn, letters, show 1 < ρ.length by omega]
    have kk := key [some (.str z), none] (by simp)
    by_cases h1 : 1 ≤ z.length
    · have h1' : decide ((1 : Int) ≤ (z.length : Int)) = true := decide_eq_true (by omega)
      by_cases h2 : z.length ≤ 8
      · have h2' : decide ((z.length : Int) ≤ 8) = true := decide_eq_true (by omega)
        simp [F_is_name, b_is_name, defF, startE, sRet, sExp, sIf, sSeq, sAsg, sFor, gN, gT, gC, gZ, eAn, eOr, eNo, eIf, eIsi, eV, eC, eB, eU, eCb, eCall, eSl, oN, oS, eTup, eLst, aN, aC, eLc, eCh, tAn, tOr', tNo, tB', tTr, tYs, iE, iZ, iR1, iR2, sNil, Oc.bind, Oc.thenS, Oc.of, Oc.on, tyD, leave_rt, truD, List.replicate, List.set, List.append_nil, List.nil_append, List.cons_append, wipeE, cond_true, cond_false, k_ii, k_ib, k_is, k_it, k_bi, k_bb, k_bs, k_bt, k_si, k_sb, k_ss, k_st, k_ti, k_tb, k_ts, k_tt, k_li, k_lb, k_ls, k_lt, k_ni, k_nb, k_ns, k_nt, nameB, nameS, lenD, leD, cmpD, hz', h1, h2, h1', h2', itD, allD, qD, lstOf, kk, boolsOf_map, all_map_id]
        have eL : letB = fun c => decide (c ∈ letters.cps) := by funext c; simp [letB]
        simp [chD, List.all_map, strIn, eL, Function.comp_def]
      · have h2' : decide ((z.length : Int) ≤ 8) = false := decide_eq_false (by omega)
        simp [F_is_name, b_is_name, defF, startE, sRet, sExp, sIf, sSeq, sAsg, sFor, gN, gT, gC, gZ, eAn, eOr, eNo, eIf, eIsi, eV, eC, eB, eU, eCb, eCall, eSl, oN, oS, eTup, eLst, aN, aC, eLc, eCh, tAn, tOr', tNo, tB', tTr, tYs, iE, iZ, iR1, iR2, sNil, Oc.bind, Oc.thenS, Oc.of, Oc.on, tyD, leave_rt, truD, List.replicate, List.set, List.append_nil, List.nil_append, List.cons_append, wipeE, cond_true, cond_false, k_ii, k_ib, k_is, k_it, k_bi, k_bb, k_bs, k_bt, k_si, k_sb, k_ss, k_st, k_ti, k_tb, k_ts, k_tt, k_li, k_lb, k_ls, k_lt, k_ni, k_nb, k_ns, k_nt, nameB, nameS, lenD, leD, cmpD, hz', h1, h2, h1', h2', itD]
    · have h1' : decide ((1 : Int) ≤ (z.length : Int)) = false := decide_eq_false (by omega)
      simp [F_is_name, b_is_name, defF, startE, sRet, sExp, sIf, sSeq, sAsg, sFor, gN, gT, gC, gZ, eAn, eOr, eNo, eIf, eIsi, eV, eC, eB, eU, eCb, eCall, eSl, oN, oS, eTup, eLst, aN, aC, eLc, eCh, tAn, tOr', tNo, tB', tTr, tYs, iE, iZ, iR1, iR2, sNil, Oc.bind, Oc.thenS, Oc.of, Oc.on, tyD, leave_rt, truD, List.replicate, List.set, List.append_nil, List.nil_append, List.cons_append, wipeE, cond_true, cond_false, k_ii, k_ib, k_is, k_it, k_bi, k_bb, k_bs, k_bt, k_si, k_sb, k_ss, k_st, k_ti, k_tb, k_ts, k_tt, k_li, k_lb, k_ls, k_lt, k_ni, k_nb, k_ns, k_nt, nameB, nameS, lenD, leD, cmpD, hz', h1, h1', itD]
  | dict _ => cases h
  | _ => simp [F_is_name, b_is_name, defF, startE, sRet, sExp, sIf, sSeq, sAsg, sFor, gN, gT, gC, gZ, eAn, eOr, eNo, eIf, eIsi, eV, eC, eB, eU, eCb, eCall, eSl, oN, oS, eTup, eLst, aN, aC, eLc, eCh, tAn, tOr', tNo, tB', tTr, tYs, iE, iZ, iR1, iR2, sNil, Oc.bind, Oc.thenS, Oc.of, Oc.on, tyD, leave_rt, truD, List.replicate, List.set, List.append_nil, List.nil_append, List.cons_append, wipeE, cond_true, cond_false, k_ii, k_ib, k_is, k_it, k_bi, k_bb, k_bs, k_bt, k_si, k_sb, k_ss, k_st, k_ti, k_tb, k_ts, k_tt, k_li, k_lb, k_ls, k_lt, k_ni, k_nb, k_ns, k_nt, nameB]
theorem is_remark_ok (d : PyData) (w : Ws) (h : isD d = true) (hs : szD d = true) : F_is_remark [d] w = .ok (.bool (nameB d)) w := by
  have e := is_name_ok d w h hs
  simp [F_is_remark, b_is_remark, defF, startE, sRet, sExp, sIf, sSeq, sAsg, sFor, gN, gT, gC, gZ, eAn, eOr, eNo, eIf, eIsi, eV, eC, eB, eU, eCb, eCall, eSl, oN, oS, eTup, eLst, aN, aC, eLc, eCh, tAn, tOr', tNo, tB', tTr, tYs, iE, iZ, iR1, iR2, sNil, Oc.bind, Oc.thenS, Oc.of, Oc.on, tyD, leave_rt, truD, List.replicate, List.set, List.append_nil, List.nil_append, List.cons_append, wipeE, cond_true, cond_false, e]
/-- a text without its first sign -/
def tlS (z : Str) : Str := cutS z (some 1) none
def hdS (z : Str) : Str := cutS z none (some 1)
def markS (z : Str) : Bool := decide (hdS z = "-") || decide (hdS z = "=")
def noteS (z : Str) : Bool := if markS z then nameS (tlS z) else nameS z
def noteB : PyData → Bool
  | .str z => noteS z
  | _ => false
theorem cutS_len (z : Str) (lo hi : Option Int) : (cutS z lo hi).length ≤ z.length := by
  unfold cutS Str.length
  simp
  omega
theorem shaped_str {z : Str} (h : PyData.strOk z = true) : SeqAt.shaped (.str z) = true := by simp [SeqAt.shaped, PyData.canLay0, PyData.depth, h]
theorem cutS_ok {z : Str} (h : PyData.strOk z = true) (lo hi : Option Int) : PyData.strOk (cutS z lo hi) = true := by
  unfold PyData.strOk at h ⊢
  rw [← Array.all_toList, List.all_eq_true] at h ⊢
  intro x hx
  refine h x ?_
  unfold cutS at hx
  exact List.mem_of_mem_drop (List.mem_of_mem_take (by simpa using hx))
theorem eqv_str (a b : Str) : PyData.eqv (.str a) (.str b) = decide (b = a) := by
  by_cases h : b = a
  · subst h
    simp [PyData.eqv]
  · rw [decide_eq_false h]
    have h' : ¬ a = b := fun z => h z.symm
    simp [PyData.eqv, h']
theorem shaped_marks : SeqAt.shaped (.tuple [.str "-", .str "="]) = true := by decide +kernel
theorem is_note_ok (d : PyData) (w : Ws) (h : isD d = true) (hs : szD d = true) : F_is_note [d] w = .ok (.bool (noteB d)) w := by
  have e := is_remark_ok d w h hs
  cases d with
  | str z =>
    obtain ⟨hz, hok⟩ := (Bool.and_eq_true _ _).mp hs
    have hz2 : szD (.str (cutS z (some 1) none)) = true := (Bool.and_eq_true _ _).mpr ⟨decide_eq_true (Nat.le_trans (cutS_len z _ _) (of_decide_eq_true hz)), cutS_ok hok _ _⟩
    have sh := shaped_str (cutS_ok hok none (some 1))
    have e2 := is_name_ok (.str (cutS z (some 1) none)) w rfl hz2
    have hm : PyData.eqv (.str "-") (.str (cutS z none (some 1))) = decide (hdS z = "-") := eqv_str _ _
    have hm2 : PyData.eqv (.str "=") (.str (cutS z none (some 1))) = decide (hdS z = "=") := eqv_str _ _
    have sz2 : szOk 2 = true := by decide +kernel
    cases hmk : markS z with
    | true =>
      have hmk' := hmk
      unfold markS at hmk'
      simp [F_is_note, b_is_note, defF, startE, sRet, sExp, sIf, sSeq, sAsg, sFor, gN, gT, gC, gZ, eAn, eOr, eNo, eIf, eIsi, eV, eC, eB, eU, eCb, eCall, eSl, oN, oS, eTup, eLst, aN, aC, eLc, eCh, tAn, tOr', tNo, tB', tTr, tYs, iE, iZ, iR1, iR2, sNil, Oc.bind, Oc.thenS, Oc.of, Oc.on, tyD, leave_rt, truD, List.replicate, List.set, List.append_nil, List.nil_append, List.cons_append, wipeE, cond_true, cond_false, k_ii, k_ib, k_is, k_it, k_bi, k_bb, k_bs, k_bt, k_si, k_sb, k_ss, k_st, k_ti, k_tb, k_ts, k_tt, k_li, k_lb, k_ls, k_lt, k_ni, k_nb, k_ns, k_nt, noteB, noteS, hmk, e2, cutD, hz, inD, isIn, sh, shaped_marks, sz2, hm, hm2, hmk', nameB, tlS]
    | false =>
      have hmk' := hmk
      unfold markS at hmk'
      simp [F_is_note, b_is_note, defF, startE, sRet, sExp, sIf, sSeq, sAsg, sFor, gN, gT, gC, gZ, eAn, eOr, eNo, eIf, eIsi, eV, eC, eB, eU, eCb, eCall, eSl, oN, oS, eTup, eLst, aN, aC, eLc, eCh, tAn, tOr', tNo, tB', tTr, tYs, iE, iZ, iR1, iR2, sNil, Oc.bind, Oc.thenS, Oc.of, Oc.on, tyD, leave_rt, truD, List.replicate, List.set, List.append_nil, List.nil_append, List.cons_append, wipeE, cond_true, cond_false, k_ii, k_ib, k_is, k_it, k_bi, k_bb, k_bs, k_bt, k_si, k_sb, k_ss, k_st, k_ti, k_tb, k_ts, k_tt, k_li, k_lb, k_ls, k_lt, k_ni, k_nb, k_ns, k_nt, noteB, noteS, hmk, e, cutD, hz, inD, isIn, sh, shaped_marks, sz2, hm, hm2, hmk', nameB]
  | dict _ => cases h
  | _ => simp [F_is_note, b_is_note, defF, startE, sRet, sExp, sIf, sSeq, sAsg, sFor, gN, gT, gC, gZ, eAn, eOr, eNo, eIf, eIsi, eV, eC, eB, eU, eCb, eCall, eSl, oN, oS, eTup, eLst, aN, aC, eLc, eCh, tAn, tOr', tNo, tB', tTr, tYs, iE, iZ, iR1, iR2, sNil, Oc.bind, Oc.thenS, Oc.of, Oc.on, tyD, leave_rt, truD, List.replicate, List.set, List.append_nil, List.nil_append, List.cons_append, wipeE, cond_true, cond_false, k_ii, k_ib, k_is, k_it, k_bi, k_bb, k_bs, k_bt, k_si, k_sb, k_ss, k_st, k_ti, k_tb, k_ts, k_tt, k_li, k_lb, k_ls, k_lt, k_ni, k_nb, k_ns, k_nt, noteB, e, nameB]
/-! is_ascending -/
theorem cut1 {α : Type} (xs : List α) : cutL xs (some 1) none = xs.tail := by
  rw [← List.drop_one]
  unfold cutL
  cases xs with
  | nil => rfl
  | cons x r =>
    have h : HT.sIx (x :: r).length 0 (some 1) = 1 := by
      have := HT.sIx_nat (x :: r).length 0 1
      simpa using this
    rw [h, HT.sIx_none]
    refine List.take_of_length_le ?_
    simp
def ascL : List Str → Bool
  | a :: b :: r => strLt a b && ascL (b :: r)
  | _ => true
def ltP : PyData → Bool
  | .tuple [.str a, .str b] => strLt a b
  | _ => false
theorem zip_asc : ∀ zs : List Str, (zipD (zs.map PyData.str) (zs.map PyData.str).tail).all ltP = ascL zs
  | [] => rfl
  | [a] => rfl
  | a :: b :: r => by
    have ih := zip_asc (b :: r)
    simp only [List.map_cons, List.tail_cons, zipD, List.all_cons, ltP, ascL] at ih ⊢
    rw [ih]
theorem mem_zipD {d : PyData} : ∀ {as bs : List PyData}, d ∈ zipD as bs → ∃ a b, a ∈ as ∧ b ∈ bs ∧ d = .tuple [a, b]
  | [], _, h => by simp [zipD] at h
  | _ :: _, [], h => by simp [zipD] at h
  | a :: as, b :: bs, h => by
    simp only [zipD, List.mem_cons] at h
    rcases h with h | h
    · exact ⟨a, b, List.mem_cons_self, List.mem_cons_self, h⟩
    · obtain ⟨x, y, h1, h2, h3⟩ := mem_zipD h
      exact ⟨x, y, List.mem_cons_of_mem _ h1, List.mem_cons_of_mem _ h2, h3⟩
theorem is_ascending_ok (zs : List Str) (w : Ws) (hs : szOk zs.length = true) : F_is_ascending [.tuple (zs.map .str)] w = .ok (.bool (ascL zs)) w := by
  have hz : zs.length ≤ sizeLine := of_decide_eq_true hs
  have key := lcL_map (gt := gT 2 (gC (gN 1) (gC (gN 2) gZ))) (fe := eB ltD (eV 1) (eV 2)) (ρ := [some (.tuple (zs.map .str)), none, none]) (w := w) (fun d => .bool (ltP d)) (zipD (zs.map PyData.str) (zs.map PyData.str).tail)
    (by rw [zipD_len]; simp; omega) fun d hd => by
      obtain ⟨a, b, h1, h2, rfl⟩ := mem_zipD hd
      obtain ⟨x, _, rfl⟩ := List.mem_map.mp h1
      obtain ⟨y, _, rfl⟩ := List.mem_map.mp (List.mem_of_mem_tail h2)
      exact ⟨_, rfl, rfl⟩
  simp [F_is_ascending, b_is_ascending, defF, startE, sRet, sExp, sIf, sSeq, sAsg, sFor, gN, gT, gC, gZ, eAn, eOr, eNo, eIf, eIsi, eV, eC, eB, eU, eCb, eCall, eSl, oN, oS, eTup, eLst, aN, aC, eLc, eCh, tAn, tOr', tNo, tB', tTr, tYs, iE, iZ, iR1, iR2, sNil, Oc.bind, Oc.thenS, Oc.of, Oc.on, tyD, leave_rt, truD, List.replicate, List.set, List.append_nil, List.nil_append, List.cons_append, wipeE, cond_true, cond_false, cutD, cut1, key, allD, qD, lstOf, boolsOf_map, all_map_id, zip_asc]
/-- a tuple's items: texts of a good size, or anything else but the store's -/
def goodE (d : PyData) : Bool := isD d && szD d
def strOf : PyData → Str
  | .str z => z
  | _ => Str.empty
theorem notes_strs : ∀ {ds : List PyData}, ds.all noteB = true → ds = (ds.map strOf).map PyData.str
  | [], _ => rfl
  | d :: ds, h => by
    simp only [List.all_cons, Bool.and_eq_true] at h
    cases d with
    | str z => simp only [List.map_cons, strOf]; rw [← notes_strs h.2]
    | _ => cases h.1
def notesB : PyData → Bool
  | .tuple ds => ds.all noteB && ascL (ds.map strOf)
  | _ => false
theorem is_notes_ok (d : PyData) (w : Ws) (h : isD d = true) (hs : ∀ ds, d = .tuple ds → szOk ds.length = true ∧ ds.all goodE = true) : F_is_notes [d] w = .ok (.bool (notesB d)) w := by
  cases d with
  | tuple ds =>
    obtain ⟨hz, hg⟩ := hs ds rfl
    have hl : ds.length ≤ sizeLine := of_decide_eq_true hz
    have key := lcL_map (gt := gN 1) (fe := eCall F_is_note [] (aC (eV 1) aN)) (ρ := [some (.tuple ds), none]) (w := w) (fun d => .bool (noteB d)) ds hl fun d hd => by
      have g := List.all_eq_true.mp hg d hd
      unfold goodE at g
      rw [Bool.and_eq_true] at g
      have e := is_note_ok d w g.1 g.2
      exact ⟨_, rfl, by simp [defF, startE, sRet, sExp, sIf, sSeq, sAsg, sFor, gN, gT, gC, gZ, eAn, eOr, eNo, eIf, eIsi, eV, eC, eB, eU, eCb, eCall, eSl, oN, oS, eTup, eLst, aN, aC, eLc, eCh, tAn, tOr', tNo, tB', tTr, tYs, iE, iZ, iR1, iR2, sNil, Oc.bind, Oc.thenS, Oc.of, Oc.on, tyD, leave_rt, truD, List.replicate, List.set, List.append_nil, List.nil_append, List.cons_append, wipeE, cond_true, cond_false, e]⟩
    cases ha : ds.all noteB with
    | false => simp [F_is_notes, b_is_notes, defF, startE, sRet, sExp, sIf, sSeq, sAsg, sFor, gN, gT, gC, gZ, eAn, eOr, eNo, eIf, eIsi, eV, eC, eB, eU, eCb, eCall, eSl, oN, oS, eTup, eLst, aN, aC, eLc, eCh, tAn, tOr', tNo, tB', tTr, tYs, iE, iZ, iR1, iR2, sNil, Oc.bind, Oc.thenS, Oc.of, Oc.on, tyD, leave_rt, truD, List.replicate, List.set, List.append_nil, List.nil_append, List.cons_append, wipeE, cond_true, cond_false, k_ii, k_ib, k_is, k_it, k_bi, k_bb, k_bs, k_bt, k_si, k_sb, k_ss, k_st, k_ti, k_tb, k_ts, k_tt, k_li, k_lb, k_ls, k_lt, k_ni, k_nb, k_ns, k_nt, itD, key, allD, qD, lstOf, boolsOf_map, all_map_id, notesB, ha]
    | true =>
      have e := is_ascending_ok (ds.map strOf) w (by rw [List.length_map]; exact hz)
      rw [← notes_strs ha] at e
      simp [F_is_notes, b_is_notes, defF, startE, sRet, sExp, sIf, sSeq, sAsg, sFor, gN, gT, gC, gZ, eAn, eOr, eNo, eIf, eIsi, eV, eC, eB, eU, eCb, eCall, eSl, oN, oS, eTup, eLst, aN, aC, eLc, eCh, tAn, tOr', tNo, tB', tTr, tYs, iE, iZ, iR1, iR2, sNil, Oc.bind, Oc.thenS, Oc.of, Oc.on, tyD, leave_rt, truD, List.replicate, List.set, List.append_nil, List.nil_append, List.cons_append, wipeE, cond_true, cond_false, k_ii, k_ib, k_is, k_it, k_bi, k_bb, k_bs, k_bt, k_si, k_sb, k_ss, k_st, k_ti, k_tb, k_ts, k_tt, k_li, k_lb, k_ls, k_lt, k_ni, k_nb, k_ns, k_nt, itD, key, allD, qD, lstOf, boolsOf_map, all_map_id, notesB, ha, e]
  | dict _ => cases h
  | _ => simp [F_is_notes, b_is_notes, defF, startE, sRet, sExp, sIf, sSeq, sAsg, sFor, gN, gT, gC, gZ, eAn, eOr, eNo, eIf, eIsi, eV, eC, eB, eU, eCb, eCall, eSl, oN, oS, eTup, eLst, aN, aC, eLc, eCh, tAn, tOr', tNo, tB', tTr, tYs, iE, iZ, iR1, iR2, sNil, Oc.bind, Oc.thenS, Oc.of, Oc.on, tyD, leave_rt, truD, List.replicate, List.set, List.append_nil, List.nil_append, List.cons_append, wipeE, cond_true, cond_false, k_ii, k_ib, k_is, k_it, k_bi, k_bb, k_bs, k_bt, k_si, k_sb, k_ss, k_st, k_ti, k_tb, k_ts, k_tt, k_li, k_lb, k_ls, k_lt, k_ni, k_nb, k_ns, k_nt, notesB]
def placeB : PyData → Bool
  | .tuple ds => ds.all numB
  | _ => false
theorem is_place_ok (d : PyData) (w : Ws) (h : isD d = true) (hs : ∀ ds, d = .tuple ds → szOk ds.length = true ∧ ds.all goodE = true) : F_is_place [d] w = .ok (.bool (placeB d)) w := by
  cases d with
  | tuple ds =>
    obtain ⟨hz, hg⟩ := hs ds rfl
    have hl : ds.length ≤ sizeLine := of_decide_eq_true hz
    have key := lcL_map (gt := gN 1) (fe := eCall F_is_number [] (aC (eV 1) aN)) (ρ := [some (.tuple ds), none]) (w := w) (fun d => .bool (numB d)) ds hl fun d hd => by
      have g := List.all_eq_true.mp hg d hd
      unfold goodE at g
      rw [Bool.and_eq_true] at g
      have e := is_number_ok d w g.1
      exact ⟨_, rfl, by simp [defF, startE, sRet, sExp, sIf, sSeq, sAsg, sFor, gN, gT, gC, gZ, eAn, eOr, eNo, eIf, eIsi, eV, eC, eB, eU, eCb, eCall, eSl, oN, oS, eTup, eLst, aN, aC, eLc, eCh, tAn, tOr', tNo, tB', tTr, tYs, iE, iZ, iR1, iR2, sNil, Oc.bind, Oc.thenS, Oc.of, Oc.on, tyD, leave_rt, truD, List.replicate, List.set, List.append_nil, List.nil_append, List.cons_append, wipeE, cond_true, cond_false, e]⟩
    simp [F_is_place, b_is_place, defF, startE, sRet, sExp, sIf, sSeq, sAsg, sFor, gN, gT, gC, gZ, eAn, eOr, eNo, eIf, eIsi, eV, eC, eB, eU, eCb, eCall, eSl, oN, oS, eTup, eLst, aN, aC, eLc, eCh, tAn, tOr', tNo, tB', tTr, tYs, iE, iZ, iR1, iR2, sNil, Oc.bind, Oc.thenS, Oc.of, Oc.on, tyD, leave_rt, truD, List.replicate, List.set, List.append_nil, List.nil_append, List.cons_append, wipeE, cond_true, cond_false, k_ii, k_ib, k_is, k_it, k_bi, k_bb, k_bs, k_bt, k_si, k_sb, k_ss, k_st, k_ti, k_tb, k_ts, k_tt, k_li, k_lb, k_ls, k_lt, k_ni, k_nb, k_ns, k_nt, itD, key, allD, qD, lstOf, boolsOf_map, all_map_id, placeB]
  | dict _ => cases h
  | _ => simp [F_is_place, b_is_place, defF, startE, sRet, sExp, sIf, sSeq, sAsg, sFor, gN, gT, gC, gZ, eAn, eOr, eNo, eIf, eIsi, eV, eC, eB, eU, eCb, eCall, eSl, oN, oS, eTup, eLst, aN, aC, eLc, eCh, tAn, tOr', tNo, tB', tTr, tYs, iE, iZ, iR1, iR2, sNil, Oc.bind, Oc.thenS, Oc.of, Oc.on, tyD, leave_rt, truD, List.replicate, List.set, List.append_nil, List.nil_append, List.cons_append, wipeE, cond_true, cond_false, k_ii, k_ib, k_is, k_it, k_bi, k_bb, k_bs, k_bt, k_si, k_sb, k_ss, k_st, k_ti, k_tb, k_ts, k_tt, k_li, k_lb, k_ls, k_lt, k_ni, k_nb, k_ns, k_nt, placeB]
end Tk

set_option Elab.async false
set_option linter.all false
set_option maxRecDepth 100000
set_option maxHeartbeats 4000000
namespace Tk
open PySem L2 Td
theorem law_is_number_ok (d : PyData) (w : Ws) (h : isD d = true) : F__law_is_number [d] w = .ok (.bool (numB d)) w := by
  cases d <;> (try cases h) <;> simp [F__law_is_number, b__law_is_number, defF, startE, sRet, sExp, sIf, sSeq, sAsg, sFor, gN, gT, gC, gZ, eAn, eOr, eNo, eIf, eIsi, eV, eC, eB, eU, eCb, eCall, eSl, oN, oS, eTup, eLst, aN, aC, eLc, eCh, tAn, tOr', tNo, tB', tTr, tYs, iE, iZ, iR1, iR2, sNil, Oc.bind, Oc.thenS, Oc.of, Oc.on, tyD, leave_rt, truD, List.replicate, List.set, List.append_nil, List.nil_append, List.cons_append, wipeE, cond_true, cond_false, k_ii, k_ib, k_is, k_it, k_bi, k_bb, k_bs, k_bt, k_si, k_sb, k_ss, k_st, k_ti, k_tb, k_ts, k_tt, k_li, k_lb, k_ls, k_lt, k_ni, k_nb, k_ns, k_nt, numB, geD, cmpD]
theorem filter_all {α : Type} (p : α → Bool) (xs : List α) : (xs.filter fun x => !p x).isEmpty = xs.all p := by
  rw [Bool.eq_iff_iff]
  simp [List.isEmpty_iff, List.filter_eq_nil_iff, List.all_eq_true]
theorem eqv_nil (xs : List PyData) : PyData.eqv (.list xs) (.list []) = xs.isEmpty := by
  cases xs <;> simp [PyData.eqv, PyData.eqvAll]
def layE (d : PyData) : Bool := d.canLay0 && decide (d.depth ≤ 60)
theorem lay_all : ∀ {xs : List PyData}, xs.all layE = true → PyData.canLayAll0 xs = true ∧ PyData.depthAll xs ≤ 60
  | [], _ => ⟨rfl, Nat.zero_le _⟩
  | x :: xs, h => by
    simp only [List.all_cons, Bool.and_eq_true] at h
    obtain ⟨h1, h2⟩ := lay_all h.2
    unfold layE at h
    rw [Bool.and_eq_true] at h
    have h3 := of_decide_eq_true h.1.2
    refine ⟨by simp [PyData.canLayAll0, h.1.1, h1], ?_⟩
    simp only [PyData.depthAll]
    omega
theorem shaped_list {xs : List PyData} (h : xs.all layE = true) : SeqAt.shaped (.list xs) = true := by
  obtain ⟨h1, h2⟩ := lay_all h
  simp only [SeqAt.shaped, PyData.canLay0, h1, Bool.true_and]
  exact decide_eq_true (by simp only [PyData.depth]; omega)
theorem shaped_nil : SeqAt.shaped (.list []) = true := shaped_list rfl
theorem all_filter {xs : List PyData} (p : PyData → Bool) (h : xs.all layE = true) : (xs.filter p).all layE = true := by
  rw [List.all_eq_true] at h ⊢
  exact fun x hx => h x (List.mem_filter.mp hx).1
theorem sz0 : szOk 0 = true := by decide +kernel
theorem chD_lay {z : Str} (h : PyData.strOk z = true) : (chD z).all layE = true := by
  rw [List.all_eq_true]
  intro x hx
  obtain ⟨c, hc, rfl⟩ := List.mem_map.mp hx
  unfold PyData.strOk at h
  rw [← Array.all_toList, List.all_eq_true] at h
  have := h c hc
  simp [layE, PyData.canLay0, PyData.depth, PyData.strOk, this]
def inL : PyData → Bool
  | .str y => strIn y letters
  | _ => false
theorem law_is_name_ok (d : PyData) (w : Ws) (h : isD d = true) (hs : szD d = true) : F__law_is_name [d] w = .ok (.bool (nameB d)) w := by
  cases d with
  | str z =>
    have hz' : szOk z.length = true := ((Bool.and_eq_true _ _).mp hs).1
    have hok : PyData.strOk z = true := ((Bool.and_eq_true _ _).mp hs).2
    have hz : z.length ≤ sizeLine := of_decide_eq_true hz'
    have key := lcL_pure (gt := gN 1) (tt := tB' (eB niD (eV 1) (eC (.str "abcdefghijklmnopqrstuvwxyz")))) (fe := eV 1) (ρ := [some (.str z), none]) (w := w) (fun d => !inL d) id (chD z) [] (by rw [chD_len]; simpa using hz) fun d hd => by
      obtain ⟨c, _, rfl⟩ := List.mem_map.mp hd
      refine ⟨_, rfl, ?_, fun _ => rfl⟩
      simp [tB', eB, eV, eC, Oc.bind, Oc.of, niD, isIn, letters, gN, inL]
    rw [List.map_id, List.nil_append] at key
    have sh := shaped_list (all_filter (fun d => !inL d) (chD_lay hok))
    have eL : letB = fun c => decide (c ∈ letters.cps) := by funext c; simp [letB]
    have eA : (chD z).all inL = z.cps.toList.all letB := by simp [chD, List.all_map, strIn, eL, inL, Function.comp_def]
    by_cases h1 : 1 ≤ z.length
    · have h1' : decide ((z.length : Int) < 1) = false := decide_eq_false (by omega)
      by_cases h2 : z.length ≤ 8
      · have h2' : decide (8 < (z.length : Int)) = false := decide_eq_false (by omega)
        simp [F__law_is_name, b__law_is_name, defF, startE, sRet, sExp, sIf, sSeq, sAsg, sFor, gN, gT, gC, gZ, eAn, eOr, eNo, eIf, eIsi, eV, eC, eB, eU, eCb, eCall, eSl, oN, oS, eTup, eLst, aN, aC, eLc, eCh, tAn, tOr', tNo, tB', tTr, tYs, iE, iZ, iR1, iR2, sNil, Oc.bind, Oc.thenS, Oc.of, Oc.on, tyD, leave_rt, truD, List.replicate, List.set, List.append_nil, List.nil_append, List.cons_append, wipeE, cond_true, cond_false, k_ii, k_ib, k_is, k_it, k_bi, k_bb, k_bs, k_bt, k_si, k_sb, k_ss, k_st, k_ti, k_tb, k_ts, k_tt, k_li, k_lb, k_ls, k_lt, k_ni, k_nb, k_ns, k_nt, nameB, nameS, lenD, ltD, gtD, cmpD, hz', h1, h2, h1', h2', itD, key, eqD, sh, shaped_nil, sz0, eqv_nil, filter_all, eA]
      · have h2' : decide (8 < (z.length : Int)) = true := decide_eq_true (by omega)
        simp [F__law_is_name, b__law_is_name, defF, startE, sRet, sExp, sIf, sSeq, sAsg, sFor, gN, gT, gC, gZ, eAn, eOr, eNo, eIf, eIsi, eV, eC, eB, eU, eCb, eCall, eSl, oN, oS, eTup, eLst, aN, aC, eLc, eCh, tAn, tOr', tNo, tB', tTr, tYs, iE, iZ, iR1, iR2, sNil, Oc.bind, Oc.thenS, Oc.of, Oc.on, tyD, leave_rt, truD, List.replicate, List.set, List.append_nil, List.nil_append, List.cons_append, wipeE, cond_true, cond_false, k_ii, k_ib, k_is, k_it, k_bi, k_bb, k_bs, k_bt, k_si, k_sb, k_ss, k_st, k_ti, k_tb, k_ts, k_tt, k_li, k_lb, k_ls, k_lt, k_ni, k_nb, k_ns, k_nt, nameB, nameS, lenD, ltD, gtD, cmpD, hz', h1, h2, h1', h2']
    · have h1' : decide ((z.length : Int) < 1) = true := decide_eq_true (by omega)
      simp [F__law_is_name, b__law_is_name, defF, startE, sRet, sExp, sIf, sSeq, sAsg, sFor, gN, gT, gC, gZ, eAn, eOr, eNo, eIf, eIsi, eV, eC, eB, eU, eCb, eCall, eSl, oN, oS, eTup, eLst, aN, aC, eLc, eCh, tAn, tOr', tNo, tB', tTr, tYs, iE, iZ, iR1, iR2, sNil, Oc.bind, Oc.thenS, Oc.of, Oc.on, tyD, leave_rt, truD, List.replicate, List.set, List.append_nil, List.nil_append, List.cons_append, wipeE, cond_true, cond_false, k_ii, k_ib, k_is, k_it, k_bi, k_bb, k_bs, k_bt, k_si, k_sb, k_ss, k_st, k_ti, k_tb, k_ts, k_tt, k_li, k_lb, k_ls, k_lt, k_ni, k_nb, k_ns, k_nt, nameB, nameS, lenD, ltD, gtD, cmpD, hz', h1, h1']
  | dict _ => cases h
  | _ => simp [F__law_is_name, b__law_is_name, defF, startE, sRet, sExp, sIf, sSeq, sAsg, sFor, gN, gT, gC, gZ, eAn, eOr, eNo, eIf, eIsi, eV, eC, eB, eU, eCb, eCall, eSl, oN, oS, eTup, eLst, aN, aC, eLc, eCh, tAn, tOr', tNo, tB', tTr, tYs, iE, iZ, iR1, iR2, sNil, Oc.bind, Oc.thenS, Oc.of, Oc.on, tyD, leave_rt, truD, List.replicate, List.set, List.append_nil, List.nil_append, List.cons_append, wipeE, cond_true, cond_false, k_ii, k_ib, k_is, k_it, k_bi, k_bb, k_bs, k_bt, k_si, k_sb, k_ss, k_st, k_ti, k_tb, k_ts, k_tt, k_li, k_lb, k_ls, k_lt, k_ni, k_nb, k_ns, k_nt, nameB]
/-- a name does not begin with a sign of silences -/
theorem mark_first {z : Str} {c : Nat} (h : hdS z = ⟨#[c]⟩) : ∃ r, z.cps.toList = c :: r := by
  unfold hdS cutS at h
  have h' : (List.take (HT.sIx z.length z.length (some 1) - HT.sIx z.length 0 none) (List.drop (HT.sIx z.length 0 none) z.cps.toList)) = [c] := by
    have := congrArg (fun s : Str => s.cps.toList) h
    simpa using this
  rw [HT.sIx_none, List.drop_zero] at h'
  cases e : z.cps.toList with
  | nil => rw [e] at h'; simp at h'
  | cons x r =>
    rw [e] at h'
    cases hk : HT.sIx z.length z.length (some 1) - 0 with
    | zero => rw [hk] at h'; simp at h'
    | succ k =>
      rw [hk, List.take_succ_cons] at h'
      have := (List.cons.inj h').1
      exact ⟨r, by rw [this]⟩
theorem dash : ("-" : Str) = ⟨#[45]⟩ := by decide +kernel
theorem equa : ("=" : Str) = ⟨#[61]⟩ := by decide +kernel
theorem let45 : letB 45 = false := by decide +kernel
theorem let61 : letB 61 = false := by decide +kernel
theorem mark_noname {z : Str} (h : markS z = true) : nameS z = false := by
  unfold markS at h
  rw [Bool.or_eq_true] at h
  have : ∃ c r, z.cps.toList = c :: r ∧ letB c = false := by
    rcases h with h | h
    · have h := of_decide_eq_true h
      rw [dash] at h
      obtain ⟨r, hr⟩ := mark_first h
      exact ⟨45, r, hr, let45⟩
    · have h := of_decide_eq_true h
      rw [equa] at h
      obtain ⟨r, hr⟩ := mark_first h
      exact ⟨61, r, hr, let61⟩
  obtain ⟨c, r, h1, h2⟩ := this
  unfold nameS
  rw [h1, List.all_cons, h2]
  simp
theorem law_is_note_ok (d : PyData) (w : Ws) (h : isD d = true) (hs : szD d = true) : F__law_is_note [d] w = .ok (.bool (noteB d)) w := by
  cases d with
  | str z =>
    obtain ⟨hz, hok⟩ := (Bool.and_eq_true _ _).mp hs
    have e := law_is_name_ok (.str z) w h hs
    have hz2 : szD (.str (cutS z (some 1) none)) = true := (Bool.and_eq_true _ _).mpr ⟨decide_eq_true (Nat.le_trans (cutS_len z _ _) (of_decide_eq_true hz)), cutS_ok hok _ _⟩
    have sh := shaped_str (cutS_ok hok none (some 1))
    have e2 := law_is_name_ok (.str (cutS z (some 1) none)) w rfl hz2
    have hm : PyData.eqv (.str "-") (.str (cutS z none (some 1))) = decide (hdS z = "-") := eqv_str _ _
    have hm2 : PyData.eqv (.str "=") (.str (cutS z none (some 1))) = decide (hdS z = "=") := eqv_str _ _
    have sz2 : szOk 2 = true := by decide +kernel
    cases hmk : markS z with
    | true =>
      have hn := mark_noname hmk
      have hmk' := hmk
      unfold markS at hmk'
      simp [F__law_is_note, b__law_is_note, defF, startE, sRet, sExp, sIf, sSeq, sAsg, sFor, gN, gT, gC, gZ, eAn, eOr, eNo, eIf, eIsi, eV, eC, eB, eU, eCb, eCall, eSl, oN, oS, eTup, eLst, aN, aC, eLc, eCh, tAn, tOr', tNo, tB', tTr, tYs, iE, iZ, iR1, iR2, sNil, Oc.bind, Oc.thenS, Oc.of, Oc.on, tyD, leave_rt, truD, List.replicate, List.set, List.append_nil, List.nil_append, List.cons_append, wipeE, cond_true, cond_false, k_ii, k_ib, k_is, k_it, k_bi, k_bb, k_bs, k_bt, k_si, k_sb, k_ss, k_st, k_ti, k_tb, k_ts, k_tt, k_li, k_lb, k_ls, k_lt, k_ni, k_nb, k_ns, k_nt, noteB, noteS, hmk, e, hn, e2, cutD, hz, inD, isIn, sh, shaped_marks, sz2, hm, hm2, hmk', nameB, tlS]
    | false =>
      have hmk' := hmk
      unfold markS at hmk'
      cases hn : nameS z with
      | true => simp [F__law_is_note, b__law_is_note, defF, startE, sRet, sExp, sIf, sSeq, sAsg, sFor, gN, gT, gC, gZ, eAn, eOr, eNo, eIf, eIsi, eV, eC, eB, eU, eCb, eCall, eSl, oN, oS, eTup, eLst, aN, aC, eLc, eCh, tAn, tOr', tNo, tB', tTr, tYs, iE, iZ, iR1, iR2, sNil, Oc.bind, Oc.thenS, Oc.of, Oc.on, tyD, leave_rt, truD, List.replicate, List.set, List.append_nil, List.nil_append, List.cons_append, wipeE, cond_true, cond_false, k_ii, k_ib, k_is, k_it, k_bi, k_bb, k_bs, k_bt, k_si, k_sb, k_ss, k_st, k_ti, k_tb, k_ts, k_tt, k_li, k_lb, k_ls, k_lt, k_ni, k_nb, k_ns, k_nt, noteB, noteS, hmk, e, hn, nameB]
      | false => simp [F__law_is_note, b__law_is_note, defF, startE, sRet, sExp, sIf, sSeq, sAsg, sFor, gN, gT, gC, gZ, eAn, eOr, eNo, eIf, eIsi, eV, eC, eB, eU, eCb, eCall, eSl, oN, oS, eTup, eLst, aN, aC, eLc, eCh, tAn, tOr', tNo, tB', tTr, tYs, iE, iZ, iR1, iR2, sNil, Oc.bind, Oc.thenS, Oc.of, Oc.on, tyD, leave_rt, truD, List.replicate, List.set, List.append_nil, List.nil_append, List.cons_append, wipeE, cond_true, cond_false, k_ii, k_ib, k_is, k_it, k_bi, k_bb, k_bs, k_bt, k_si, k_sb, k_ss, k_st, k_ti, k_tb, k_ts, k_tt, k_li, k_lb, k_ls, k_lt, k_ni, k_nb, k_ns, k_nt, noteB, noteS, hmk, e, hn, cutD, hz, inD, isIn, sh, shaped_marks, sz2, hm, hm2, hmk', nameB]
  | dict _ => cases h
  | _ => simp [F__law_is_note, b__law_is_note, defF, startE, sRet, sExp, sIf, sSeq, sAsg, sFor, gN, gT, gC, gZ, eAn, eOr, eNo, eIf, eIsi, eV, eC, eB, eU, eCb, eCall, eSl, oN, oS, eTup, eLst, aN, aC, eLc, eCh, tAn, tOr', tNo, tB', tTr, tYs, iE, iZ, iR1, iR2, sNil, Oc.bind, Oc.thenS, Oc.of, Oc.on, tyD, leave_rt, truD, List.replicate, List.set, List.append_nil, List.nil_append, List.cons_append, wipeE, cond_true, cond_false, k_ii, k_ib, k_is, k_it, k_bi, k_bb, k_bs, k_bt, k_si, k_sb, k_ss, k_st, k_ti, k_tb, k_ts, k_tt, k_li, k_lb, k_ls, k_lt, k_ni, k_nb, k_ns, k_nt, noteB]
/-! _law_rises -/
theorem asc_get : ∀ zs : List Str, ascL zs = (List.range (zs.length - 1)).all fun i => match zs[i]?, zs[i + 1]? with | some a, some b => strLt a b | _, _ => true
  | [] => rfl
  | [a] => rfl
  | a :: b :: r => by
    have ih := asc_get (b :: r)
    simp only [ascL, ih, List.length_cons, Nat.add_sub_cancel]
    rw [show r.length + 1 = Nat.succ r.length from rfl, List.range_succ_eq_map, List.all_cons, List.all_map]
    simp [Function.comp_def]
theorem ints_lay {xs : List PyData} (h : ∀ x ∈ xs, ∃ i, x = .int i) : xs.all layE = true := by
  rw [List.all_eq_true]
  intro x hx
  obtain ⟨i, rfl⟩ := h x hx
  simp [layE, PyData.canLay0, PyData.depth]
def geP (zs : List Str) : PyData → Bool
  | .int i => match zs[(i - 1).toNat]?, zs[i.toNat]? with | some a, some b => !strLt a b | _, _ => false
  | _ => false
theorem law_rises_ok (zs : List Str) (w : Ws) (hs : szOk zs.length = true) : F__law_rises [.tuple (zs.map .str)] w = .ok (.bool (ascL zs)) w := by
  have hz : zs.length ≤ sizeLine := of_decide_eq_true hs
  have hz2 : sizeLine = 16777216 := sizeLine_eq
  have hc : c62 (zs.length : Int) = true := decide_eq_true (by omega)
  have hc1 : c62 1 = true := by decide +kernel
  have items : ∀ d ∈ rgD 1 (zs.length : Int), ∃ k : Nat, k + 1 < zs.length ∧ d = .int ((k : Int) + 1) := by
    intro d hd
    obtain ⟨k, hk, rfl⟩ := List.mem_map.mp hd
    have := List.mem_range.mp hk
    exact ⟨k, by omega, by rw [Int.add_comm]⟩
  have key := lcL_pure (gt := gN 1) (tt := tB' (eB geD (eB ixD (eV 0) (eB subD (eV 1) (eC (.int 1)))) (eB ixD (eV 0) (eV 1)))) (fe := eV 1) (ρ := [some (.tuple (zs.map .str)), none]) (w := w) (geP zs) id (rgD 1 (zs.length : Int)) [] (by simp [rgD]; omega) fun d hd => by
    obtain ⟨k, hk, rfl⟩ := items d hd
    refine ⟨_, rfl, ?_, fun _ => rfl⟩
    have a1 : atI (zs.map PyData.str) (k : Int) = some (.str (zs[k]'(by omega))) := atI_nat (by simp [show k < zs.length by omega])
    have a2 : atI (zs.map PyData.str) ((k : Int) + 1) = some (.str (zs[k + 1]'hk)) := by
      have : atI (zs.map PyData.str) ((k + 1 : Nat) : Int) = some (.str (zs[k + 1]'hk)) := atI_nat (by simp [hk])
      rw [show (((k + 1 : Nat)) : Int) = (k : Int) + 1 by omega] at this
      exact this
    have t1 : ((k : Int) + 1 - 1).toNat = k := by omega
    have t2 : ((k : Int) + 1).toNat = k + 1 := by omega
    have t3 : (k : Int) + 1 - 1 = k := by omega
    simp [tB', eB, eV, eC, Oc.bind, Oc.of, gN, subD, intD, cY, ixD, a1, a2, t1, t2, t3, geD, cmpD, geP, hk, show k < zs.length by omega]
  rw [List.map_id, List.nil_append] at key
  have sh := shaped_list (ints_lay (xs := (rgD 1 (zs.length : Int)).filter (geP zs)) fun x hx => by
    obtain ⟨k, _, rfl⟩ := items x (List.mem_filter.mp hx).1
    exact ⟨_, rfl⟩)
  have fin : ((rgD 1 (zs.length : Int)).filter (geP zs)).isEmpty = ascL zs := by
    rw [asc_get, Bool.eq_iff_iff, List.isEmpty_iff, List.filter_eq_nil_iff, List.all_eq_true]
    constructor
    · intro h i hi
      have hi := List.mem_range.mp hi
      have := h (.int (1 + (i : Nat))) (List.mem_map.mpr ⟨i, List.mem_range.mpr (by omega), rfl⟩)
      have t1 : (1 + (i : Int) - 1).toNat = i := by omega
      have t2 : (1 + (i : Int)).toNat = i + 1 := by omega
      simp only [geP, t1, t2] at this
      rw [List.getElem?_eq_getElem (show i < zs.length by omega), List.getElem?_eq_getElem (show i + 1 < zs.length by omega)] at this ⊢
      simpa using this
    · intro h d hd
      obtain ⟨k, hk, rfl⟩ := items d hd
      have := h k (List.mem_range.mpr (by omega))
      have t1 : ((k : Int) + 1 - 1).toNat = k := by omega
      have t2 : ((k : Int) + 1).toNat = k + 1 := by omega
      simp only [geP, t1, t2]
      rw [List.getElem?_eq_getElem (show k < zs.length by omega), List.getElem?_eq_getElem hk] at this ⊢
      simpa using this
  simp [F__law_rises, b__law_rises, defF, startE, sRet, sExp, sIf, sSeq, sAsg, sFor, gN, gT, gC, gZ, eAn, eOr, eNo, eIf, eIsi, eV, eC, eB, eU, eCb, eCall, eSl, oN, oS, eTup, eLst, aN, aC, eLc, eCh, tAn, tOr', tNo, tB', tTr, tYs, iE, iZ, iR1, iR2, sNil, Oc.bind, Oc.thenS, Oc.of, Oc.on, tyD, leave_rt, truD, List.replicate, List.set, List.append_nil, List.nil_append, List.cons_append, wipeE, cond_true, cond_false, lenD, hc, hc1, key, eqD, sh, shaped_nil, sz0, eqv_nil, fin]
theorem law_are_notes_ok (d : PyData) (w : Ws) (h : isD d = true) (hs : ∀ ds, d = .tuple ds → szOk ds.length = true ∧ ds.all goodE = true ∧ ds.all layE = true) : F__law_are_notes [d] w = .ok (.bool (notesB d)) w := by
  cases d with
  | tuple ds =>
    obtain ⟨hz, hg, hy⟩ := hs ds rfl
    have hl : ds.length ≤ sizeLine := of_decide_eq_true hz
    have key := lcL_pure (gt := gN 1) (tt := tNo (tTr (eCall F__law_is_note [] (aC (eV 1) aN)))) (fe := eV 1) (ρ := [some (.tuple ds), none]) (w := w) (fun d => !noteB d) id ds [] (by simpa using hl) fun d hd => by
      have g := List.all_eq_true.mp hg d hd
      unfold goodE at g
      rw [Bool.and_eq_true] at g
      have e := law_is_note_ok d w g.1 g.2
      exact ⟨_, rfl, by simp [defF, startE, sRet, sExp, sIf, sSeq, sAsg, sFor, gN, gT, gC, gZ, eAn, eOr, eNo, eIf, eIsi, eV, eC, eB, eU, eCb, eCall, eSl, oN, oS, eTup, eLst, aN, aC, eLc, eCh, tAn, tOr', tNo, tB', tTr, tYs, iE, iZ, iR1, iR2, sNil, Oc.bind, Oc.thenS, Oc.of, Oc.on, tyD, leave_rt, truD, List.replicate, List.set, List.append_nil, List.nil_append, List.cons_append, wipeE, cond_true, cond_false, e], fun _ => rfl⟩
    rw [List.map_id, List.nil_append] at key
    have sh := shaped_list (all_filter (fun d => !noteB d) hy)
    cases ha : ds.all noteB with
    | false => simp [F__law_are_notes, b__law_are_notes, defF, startE, sRet, sExp, sIf, sSeq, sAsg, sFor, gN, gT, gC, gZ, eAn, eOr, eNo, eIf, eIsi, eV, eC, eB, eU, eCb, eCall, eSl, oN, oS, eTup, eLst, aN, aC, eLc, eCh, tAn, tOr', tNo, tB', tTr, tYs, iE, iZ, iR1, iR2, sNil, Oc.bind, Oc.thenS, Oc.of, Oc.on, tyD, leave_rt, truD, List.replicate, List.set, List.append_nil, List.nil_append, List.cons_append, wipeE, cond_true, cond_false, k_ii, k_ib, k_is, k_it, k_bi, k_bb, k_bs, k_bt, k_si, k_sb, k_ss, k_st, k_ti, k_tb, k_ts, k_tt, k_li, k_lb, k_ls, k_lt, k_ni, k_nb, k_ns, k_nt, itD, key, neD, sh, shaped_nil, sz0, eqv_nil, filter_all, notesB, ha]
    | true =>
      have e := law_rises_ok (ds.map strOf) w (by rw [List.length_map]; exact hz)
      rw [← notes_strs ha] at e
      simp [F__law_are_notes, b__law_are_notes, defF, startE, sRet, sExp, sIf, sSeq, sAsg, sFor, gN, gT, gC, gZ, eAn, eOr, eNo, eIf, eIsi, eV, eC, eB, eU, eCb, eCall, eSl, oN, oS, eTup, eLst, aN, aC, eLc, eCh, tAn, tOr', tNo, tB', tTr, tYs, iE, iZ, iR1, iR2, sNil, Oc.bind, Oc.thenS, Oc.of, Oc.on, tyD, leave_rt, truD, List.replicate, List.set, List.append_nil, List.nil_append, List.cons_append, wipeE, cond_true, cond_false, k_ii, k_ib, k_is, k_it, k_bi, k_bb, k_bs, k_bt, k_si, k_sb, k_ss, k_st, k_ti, k_tb, k_ts, k_tt, k_li, k_lb, k_ls, k_lt, k_ni, k_nb, k_ns, k_nt, itD, key, neD, sh, shaped_nil, sz0, eqv_nil, filter_all, notesB, ha, e]
  | dict _ => cases h
  | _ => simp [F__law_are_notes, b__law_are_notes, defF, startE, sRet, sExp, sIf, sSeq, sAsg, sFor, gN, gT, gC, gZ, eAn, eOr, eNo, eIf, eIsi, eV, eC, eB, eU, eCb, eCall, eSl, oN, oS, eTup, eLst, aN, aC, eLc, eCh, tAn, tOr', tNo, tB', tTr, tYs, iE, iZ, iR1, iR2, sNil, Oc.bind, Oc.thenS, Oc.of, Oc.on, tyD, leave_rt, truD, List.replicate, List.set, List.append_nil, List.nil_append, List.cons_append, wipeE, cond_true, cond_false, k_ii, k_ib, k_is, k_it, k_bi, k_bb, k_bs, k_bt, k_si, k_sb, k_ss, k_st, k_ti, k_tb, k_ts, k_tt, k_li, k_lb, k_ls, k_lt, k_ni, k_nb, k_ns, k_nt, notesB]
/-- what the seven are -/
def seven (d : PyData) : PyData := .list [.bool (intB d), .bool (numB d), .bool (nameB d), .bool (nameB d), .bool (noteB d), .bool (notesB d), .bool (placeB d)]
theorem law_due_ok (d : PyData) (w : Ws) (h : isD d = true) (hz0 : szD d = true) (hs : ∀ ds, d = .tuple ds → szOk ds.length = true ∧ ds.all goodE = true ∧ ds.all layE = true) : F__law_due [d] w = .ok (seven d) w := by
  have e1 := law_is_number_ok d w h
  have e2 := law_is_name_ok d w h hz0
  have e3 := law_is_note_ok d w h hz0
  have e4 := law_are_notes_ok d w h hs
  have s5 : szOk 5 = true := by decide +kernel
  have s2 : szOk 2 = true := by decide +kernel
  have s7 : szOk 7 = true := by decide +kernel
  cases d with
  | tuple ds =>
    obtain ⟨hz, hg, hy⟩ := hs ds rfl
    have hl : ds.length ≤ sizeLine := of_decide_eq_true hz
    have key : ∀ x y, lcL (gN 4) (tNo (tTr (eCall F__law_is_number [] (aC (eV 4) aN)))) (eV 4) [some (.tuple ds), x, y, none, none] ds w [] = .ok (ds.filter fun d => !numB d) w := fun x y => by
      have := lcL_pure (gt := gN 4) (tt := tNo (tTr (eCall F__law_is_number [] (aC (eV 4) aN)))) (fe := eV 4) (ρ := [some (.tuple ds), x, y, none, none]) (w := w) (fun d => !numB d) id ds [] (by simpa using hl) fun d hd => by
        have g := List.all_eq_true.mp hg d hd
        unfold goodE at g
        rw [Bool.and_eq_true] at g
        have e := law_is_number_ok d w g.1
        exact ⟨_, rfl, by simp [defF, startE, sRet, sExp, sIf, sSeq, sAsg, sFor, gN, gT, gC, gZ, eAn, eOr, eNo, eIf, eIsi, eV, eC, eB, eU, eCb, eCall, eSl, oN, oS, eTup, eLst, aN, aC, eLc, eCh, tAn, tOr', tNo, tB', tTr, tYs, iE, iZ, iR1, iR2, sNil, Oc.bind, Oc.thenS, Oc.of, Oc.on, tyD, leave_rt, truD, List.replicate, List.set, List.append_nil, List.nil_append, List.cons_append, wipeE, cond_true, cond_false, e], fun _ => rfl⟩
      rw [List.map_id, List.nil_append] at this
      exact this
    have sh := shaped_list (all_filter (fun d => !numB d) hy)
    simp [F__law_due, b__law_due, defF, startE, sRet, sExp, sIf, sSeq, sAsg, sFor, gN, gT, gC, gZ, eAn, eOr, eNo, eIf, eIsi, eV, eC, eB, eU, eCb, eCall, eSl, oN, oS, eTup, eLst, aN, aC, eLc, eCh, tAn, tOr', tNo, tB', tTr, tYs, iE, iZ, iR1, iR2, sNil, Oc.bind, Oc.thenS, Oc.of, Oc.on, tyD, leave_rt, truD, List.replicate, List.set, List.append_nil, List.nil_append, List.cons_append, wipeE, cond_true, cond_false, k_ii, k_ib, k_is, k_it, k_bi, k_bb, k_bs, k_bt, k_si, k_sb, k_ss, k_st, k_ti, k_tb, k_ts, k_tt, k_li, k_lb, k_ls, k_lt, k_ni, k_nb, k_ns, k_nt, e1, e2, e3, e4, itD, key, eqD, sh, shaped_nil, sz0, eqv_nil, filter_all, seven, placeB, intB, s5, s2, s7, addD, lstOf]
  | dict _ => cases h
  | _ => simp [F__law_due, b__law_due, defF, startE, sRet, sExp, sIf, sSeq, sAsg, sFor, gN, gT, gC, gZ, eAn, eOr, eNo, eIf, eIsi, eV, eC, eB, eU, eCb, eCall, eSl, oN, oS, eTup, eLst, aN, aC, eLc, eCh, tAn, tOr', tNo, tB', tTr, tYs, iE, iZ, iR1, iR2, sNil, Oc.bind, Oc.thenS, Oc.of, Oc.on, tyD, leave_rt, truD, List.replicate, List.set, List.append_nil, List.nil_append, List.cons_append, wipeE, cond_true, cond_false, k_ii, k_ib, k_is, k_it, k_bi, k_bb, k_bs, k_bt, k_si, k_sb, k_ss, k_st, k_ti, k_tb, k_ts, k_tt, k_li, k_lb, k_ls, k_lt, k_ni, k_nb, k_ns, k_nt, e1, e2, e3, e4, seven, placeB, intB, s5, s2, s7, addD, lstOf]
end Tk

set_option Elab.async false
set_option linter.all false
set_option maxRecDepth 100000
set_option maxHeartbeats 4000000
namespace Tk
open PySem L2 Td
/-! ### the reader -/
theorem ne_cs : ¬ (("cells" : Str) = "spot") := by decide +kernel
theorem ne_cr : ¬ (("cells" : Str) = "rest") := by decide +kernel
theorem ne_cc : ¬ (("cells" : Str) = "calls") := by decide +kernel
theorem ne_sc : ¬ (("spot" : Str) = "cells") := by decide +kernel
theorem ne_sr : ¬ (("spot" : Str) = "rest") := by decide +kernel
theorem ne_sk : ¬ (("spot" : Str) = "calls") := by decide +kernel
theorem ne_rc : ¬ (("rest" : Str) = "cells") := by decide +kernel
theorem ne_rs : ¬ (("rest" : Str) = "spot") := by decide +kernel
theorem ne_rk : ¬ (("rest" : Str) = "calls") := by decide +kernel
theorem ne_kc : ¬ (("calls" : Str) = "cells") := by decide +kernel
theorem ne_ks : ¬ (("calls" : Str) = "spot") := by decide +kernel
theorem ne_kr : ¬ (("calls" : Str) = "rest") := by decide +kernel
def rdL (a b c d : PyData) : List (Key × PyData) := [(.inr "cells", a), (.inr "spot", b), (.inr "rest", c), (.inr "calls", d)]
def rd (cells : List Int) (spot rest calls : Int) : Ob := .dK (rdL (.list (cells.map .int)) (.int spot) (.int rest) (.int calls))
section
variable {a b c d v : PyData}
theorem v_cells : valD (rdL a b c d) (.inr "cells") = some a := by simp [valD, rdL]
theorem v_spot : valD (rdL a b c d) (.inr "spot") = some b := by simp [valD, rdL, ne_cs]
theorem v_rest : valD (rdL a b c d) (.inr "rest") = some c := by simp [valD, rdL, ne_cr, ne_sr]
theorem v_calls : valD (rdL a b c d) (.inr "calls") = some d := by simp [valD, rdL, ne_cc, ne_sk, ne_rk]
theorem p_spot : putD (rdL a b c d) (.inr "spot") v = rdL a v c d := by simp [putD, rdL, ne_cs, ne_rs, ne_ks]
theorem p_rest : putD (rdL a b c d) (.inr "rest") v = rdL a b v d := by simp [putD, rdL, ne_cr, ne_sr, ne_kr]
theorem p_calls : putD (rdL a b c d) (.inr "calls") v = rdL a b c v := by simp [putD, rdL, ne_cc, ne_sk, ne_rk]
theorem rdL_len : (rdL a b c d).length = 4 := rfl
end
/-- a reader that has been asked at most n times -/
structure RdOk (ob : Ob) (n : Nat) : Prop where
  ex : ∃ cells spot rest calls, ob = rd cells spot rest calls ∧ cells.length ≤ 63 ∧ 0 ≤ spot ∧ 0 ≤ rest ∧ 0 ≤ calls ∧ calls ≤ n
theorem RdOk.mono {ob : Ob} {m n : Nat} (h : RdOk ob m) (hn : m ≤ n) : RdOk ob n := by
  obtain ⟨cells, spot, rest, calls, h1, h2, h3, h4, h5, h6⟩ := h.ex
  exact ⟨⟨cells, spot, rest, calls, h1, h2, h3, h4, h5, by omega⟩⟩
theorem dk_at {w : Ws} {l : Nat} {kvs : List (Key × PyData)} (h : w[l]? = some (.dK kvs)) : dkOf w (rf l) = some kvs := by
  simp [dkOf, rf, h]
theorem four_lt : 4 < sizeLine := by rw [sizeLine_eq]; decide
theorem seq_nx {f k : FS} {ρ ρ1 : Ev} {w w1 : Ws} (h : f ρ w = .nx ρ1 w1) : sSeq f k ρ w = k ρ1 w1 := by simp [sSeq, h]
theorem seq_rt {f k : FS} {ρ : Ev} {w w1 : Ws} {d : PyData} (h : f ρ w = .rt d w1) : sSeq f k ρ w = .rt d w1 := by simp [sSeq, h]
theorem loc_rf (l : Nat) : locOf (rf l) = some l := by simp [locOf, rf]
theorem key_str (x : Str) : keyD (.str x) = some (.inr x) := rfl
theorem set_set {w : Ws} {l : Nat} {a b : Ob} : (w.set l a).set l b = w.set l b := List.set_set ..
theorem fmod_rng {a m : Int} (h : 0 < m) : 0 ≤ a.fmod m ∧ a.fmod m < m := ⟨Int.fmod_nonneg_of_pos a h, Int.fmod_lt_of_pos a h⟩
theorem fdiv_nn {a m : Int} (ha : 0 ≤ a) (h : 0 < m) : 0 ≤ a.fdiv m := Int.fdiv_nonneg ha (Int.le_of_lt h)
theorem draw_ok {w : Ws} {l : Nat} {ob : Ob} {n : Nat} {m : Int} (hw : w[l]? = some ob) (hr : RdOk ob n) (hn : n < 1000000) (hm : 1 ≤ m) (hm2 : m < 1000000) :
    ∃ v ob', F__law_draw [rf l, .int m] w = .ok (.int v) (w.set l ob') ∧ 0 ≤ v ∧ v < m ∧ RdOk ob' (n + 1) := by
  obtain ⟨cells, spot, rest, calls, rfl, hc, hs, hre, hca, hcn⟩ := hr.ex
  have hl : l < w.length := (List.getElem?_eq_some_iff.mp hw).1
  have d0 : dkOf w (rf l) = some (rdL (.list (cells.map .int)) (.int spot) (.int rest) (.int calls)) := dk_at hw
  have ds : ∀ kvs, dkOf (w.set l (.dK kvs)) (rf l) = some kvs := fun kvs => dk_at (by rw [List.getElem?_set_self hl])
  have nz : cNz 0 m = true := decide_eq_true (by omega)
  have nz' : ∀ x, cNz x m = true := fun x => decide_eq_true (by omega)
  have dv' : ∀ x, cDv x m = true := fun x => by
    unfold cDv
    rw [decide_eq_true (show m ≠ 0 by omega), decide_eq_true (show m.natAbs < 1073741824 by omega)]; rfl
  rw [F__law_draw, defF, if_pos (by rfl), b__law_draw]
  rw [show startE 8 [rf l, PyData.int m] = [some (rf l), some (.int m), none, none, none, none, none, none] from rfl]
  rw [seq_nx (ρ1 := [some (rf l), some (.int m), some (.int (calls + 1)), none, none, none, none, none]) (w1 := w) (by
    simp [sAsg, gN, eB, eDg, eV, eC, Oc.bind, Oc.thenS, Oc.of, d0, key_str, v_calls, addD])]
  rw [seq_nx (ρ1 := [some (rf l), some (.int m), some (.int (calls + 1)), none, none, none, none, none]) (w1 := w.set l (rd cells spot rest (calls + 1))) (by
    simp [sDp, eV, eC, Oc.thenS, d0, key_str, loc_rf, rdL_len, four_lt, p_calls, rd])]
  by_cases hrest : 0 < rest
  · -- the digits of a large cell
    refine ⟨rest.fmod m, rd cells spot (rest.fdiv m) (calls + 1), ?_, (fmod_rng (by omega)).1, (fmod_rng (by omega)).2, ⟨⟨cells, spot, _, _, rfl, hc, hs, fdiv_nn hre (by omega), by omega, by omega⟩⟩⟩
    rw [seq_rt (d := .int (rest.fmod m)) (w1 := w.set l (rd cells spot (rest.fdiv m) (calls + 1))) ?_]
    · exact leave_rt (by rw [List.length_set])
    · simp [sIf, tB', eB, eDg, eV, eC, Oc.bind, Oc.thenS, Oc.of, rd, ds, key_str, v_rest, gtD, cmpD, hrest, sSeq, sAsg, gN, modD, intD, nz', eCb, aC, aN, toInt, sDp, fdvD, dv', loc_rf, rdL_len, four_lt, p_rest, sRet]
  · rw [seq_nx (ρ1 := [some (rf l), some (.int m), some (.int (calls + 1)), none, none, none, none, none]) (w1 := w.set l (rd cells spot rest (calls + 1))) (by
      simp [sIf, tB', eB, eDg, eV, eC, Oc.bind, Oc.thenS, Oc.of, rd, ds, key_str, v_rest, gtD, cmpD, hrest, sNil])]
    rw [seq_nx (ρ1 := [some (rf l), some (.int m), some (.int (calls + 1)), some (.int spot), none, none, none, none]) (w1 := w.set l (rd cells spot rest (calls + 1))) (by
      simp [sAsg, gN, eDg, eV, eC, Oc.bind, Oc.thenS, Oc.of, rd, ds, key_str, v_spot])]
    rw [seq_nx (ρ1 := [some (rf l), some (.int m), some (.int (calls + 1)), some (.int spot), none, none, none, none]) (w1 := w.set l (rd cells (spot + 1) rest (calls + 1))) (by
      simp [sDp, eB, eV, eC, Oc.bind, Oc.thenS, Oc.of, addD, rd, ds, key_str, loc_rf, rdL_len, four_lt, p_spot])]
    rw [seq_nx (ρ1 := [some (rf l), some (.int m), some (.int (calls + 1)), some (.int spot), some (.list (cells.map .int)), none, none, none]) (w1 := w.set l (rd cells (spot + 1) rest (calls + 1))) (by
      simp [sAsg, gN, eDg, eV, eC, Oc.bind, Oc.thenS, Oc.of, rd, ds, key_str, v_cells])]
    obtain ⟨cell, hcell⟩ : ∃ cell : Int, eIf (tB' (eB gtD (eCb lenD (aC (eV 4) aN)) (eC (.int 0)))) (eB ixD (eV 4) (eB modD (eCb toInt (aC (eV 3) aN)) (eCb lenD (aC (eV 4) aN)))) (eC (.int 17))
        [some (rf l), some (.int m), some (.int (calls + 1)), some (.int spot), some (.list (cells.map .int)), none, none, none] (w.set l (rd cells (spot + 1) rest (calls + 1))) = .ok (.int cell) (w.set l (rd cells (spot + 1) rest (calls + 1))) := by
      cases hcs : cells with
      | nil => exact ⟨17, by simp [eIf, tB', eB, eCb, lenD, aC, aN, eV, eC, Oc.bind, Oc.of, lstOf, gtD, cmpD]⟩
      | cons c0 cr =>
        have hlen : 0 < ((c0 :: cr).length : Int) := by simp
        obtain ⟨r1, r2⟩ := fmod_rng (a := spot) hlen
        obtain ⟨k, hk⟩ : ∃ k : Nat, (k : Int) = spot.fmod ((c0 :: cr).length : Int) := ⟨(spot.fmod ((c0 :: cr).length : Int)).toNat, by omega⟩
        have hk2 : k < (c0 :: cr).length := by omega
        refine ⟨(c0 :: cr)[k], ?_⟩
        have ha : atI ((c0 :: cr).map PyData.int) (spot.fmod ((c0 :: cr).length : Int)) = some (.int ((c0 :: cr)[k])) := by
          rw [← hk]
          exact atI_nat (by rw [List.getElem?_map, List.getElem?_eq_getElem hk2]; rfl)
        have nzl : ∀ x, cNz x ((c0 :: cr).length : Int) = true := fun x => decide_eq_true (by omega)
        have g0 : decide (0 < ((c0 :: cr).length : Int)) = true := decide_eq_true hlen
        simp only [eIf, tB', eB, eCb, lenD, aC, aN, eV, eC, Oc.bind, Oc.of, lstOf, gtD, cmpD, List.length_map, g0, cond_true, modD, intD, nzl, toInt, ixD, ha, List.getElem?_cons_zero, List.getElem?_cons_succ, if_true, Option.map_some]
    rw [seq_nx (ρ1 := [some (rf l), some (.int m), some (.int (calls + 1)), some (.int spot), some (.list (cells.map .int)), some (.int cell), none, none]) (w1 := w.set l (rd cells (spot + 1) rest (calls + 1))) (by
      simp [sAsg, hcell, Oc.thenS, gN])]
    have pw : cPw 10 18 = true := by decide +kernel
    have p18 : (10 : Int) ^ (18 : Int).toNat = 1000000000000000000 := by decide +kernel
    have tst : (tAn (tB' (eB ltD (eV 3) (eCb lenD (aC (eV 4) aN)))) (tB' (eB geD (eV 5) (eB powD (eC (.int 10)) (eC (.int 18)))))) [some (rf l), some (.int m), some (.int (calls + 1)), some (.int spot), some (.list (cells.map .int)), some (.int cell), none, none] (w.set l (rd cells (spot + 1) rest (calls + 1)))
        = .ok (decide (spot < (cells.length : Int)) && decide (1000000000000000000 ≤ cell)) (w.set l (rd cells (spot + 1) rest (calls + 1))) := by
      simp only [tAn, tB', eB, eV, eC, eCb, aC, aN, lenD, lstOf, Option.map_some, List.length_map, Oc.bind, Oc.of, ltD, cmpD, List.getElem?_cons_zero, List.getElem?_cons_succ, powD, intD, pw, if_true, p18, geD]
      cases decide (spot < (cells.length : Int)) <;> rfl
    cases hb : decide (spot < (cells.length : Int)) && decide (1000000000000000000 ≤ cell) with
    | true =>
      rw [hb] at tst
      rw [Bool.and_eq_true] at hb
      have hbig := of_decide_eq_true hb.2
      refine ⟨cell.fmod m, rd cells (spot + 1) (cell.fdiv m) (calls + 1), ?_, (fmod_rng (by omega)).1, (fmod_rng (by omega)).2, ⟨⟨cells, _, _, _, rfl, hc, by omega, fdiv_nn (by omega) (by omega), by omega, by omega⟩⟩⟩
      rw [seq_rt (d := .int (cell.fmod m)) (w1 := w.set l (rd cells (spot + 1) (cell.fdiv m) (calls + 1))) ?_]
      · exact leave_rt (by rw [List.length_set])
      · rw [sIf, tst]
        simp [Oc.thenS, sSeq, sDp, eB, eV, eC, Oc.bind, Oc.of, fdvD, intD, dv', rd, ds, key_str, loc_rf, rdL_len, four_lt, p_rest, sRet, modD, nz', eCb, aC, aN, toInt]
    | false =>
      rw [hb] at tst
      rw [seq_nx (ρ1 := [some (rf l), some (.int m), some (.int (calls + 1)), some (.int spot), some (.list (cells.map .int)), some (.int cell), none, none]) (w1 := w.set l (rd cells (spot + 1) rest (calls + 1))) (by
        rw [sIf, tst]; simp [Oc.thenS, sNil])]
      obtain ⟨q1, q2⟩ := fmod_rng (a := cell) (m := 2147483629) (by decide)
      have m1 : cNz cell 2147483629 = true := by unfold cNz; decide
      have m2 : ∀ x, cMl 6101 x = true := fun x => by unfold cMl; rw [decide_eq_true (show (6101 : Int).natAbs < 2 ^ 64 by decide)]; rfl
      have m3 : cPw (cell.fmod 2147483629 + 6101 * (calls + 1) + 37) 5 = true := by
        unfold cPw
        rw [decide_eq_true (show (cell.fmod 2147483629 + 6101 * (calls + 1) + 37).natAbs < 2 ^ 64 by omega)]
        decide
      have m4 : ∀ x, cNz x 2147483647 = true := fun x => by unfold cNz; decide
      obtain ⟨once, honce⟩ : ∃ once, once = ((cell.fmod 2147483629 + 6101 * (calls + 1) + 37) ^ (5 : Int).toNat).fmod 2147483647 := ⟨_, rfl⟩
      obtain ⟨o1, o2⟩ := fmod_rng (a := (cell.fmod 2147483629 + 6101 * (calls + 1) + 37) ^ (5 : Int).toNat) (m := 2147483647) (by decide)
      rw [← honce] at o1 o2
      rw [seq_nx (ρ1 := [some (rf l), some (.int m), some (.int (calls + 1)), some (.int spot), some (.list (cells.map .int)), some (.int cell), some (.int once), none]) (w1 := w.set l (rd cells (spot + 1) rest (calls + 1))) (by
        simp only [sAsg, gN, eB, eV, eC, eCb, aC, aN, toInt, Oc.bind, Oc.thenS, Oc.of, modD, intD, m1, m2, m3, m4, mulD, addD, powD, List.getElem?_cons_zero, List.getElem?_cons_succ, if_true, ← honce, List.set_cons_zero, List.set_cons_succ])]
      have m5 : ∀ x, cMl 4159 x = true := fun x => by unfold cMl; rw [decide_eq_true (show (4159 : Int).natAbs < 2 ^ 64 by decide)]; rfl
      have m6 : cMl (4159 * (calls + 1)) (calls + 1) = true := by unfold cMl; rw [decide_eq_true (show (4159 * (calls + 1)).natAbs < 2 ^ 64 by omega)]; rfl
      have sq : (calls + 1) * (calls + 1) ≤ 1000001 * 1000001 := Int.mul_le_mul (by omega) (by omega) (by omega) (by omega)
      have sq0 : 0 ≤ (calls + 1) * (calls + 1) := Int.mul_nonneg (by omega) (by omega)
      have e0 : 4159 * (calls + 1) * (calls + 1) = 4159 * ((calls + 1) * (calls + 1)) := Int.mul_assoc _ _ _
      have m7 : cPw (once + 4159 * (calls + 1) * (calls + 1)) 5 = true := by
        unfold cPw
        rw [decide_eq_true (show (once + 4159 * (calls + 1) * (calls + 1)).natAbs < 2 ^ 64 by rw [e0]; omega)]
        decide
      have m8 : ∀ x, cNz x 2147483587 = true := fun x => by unfold cNz; decide
      have m9 : ∀ x, cDv x 32 = true := fun x => by unfold cDv; decide
      refine ⟨((((once + 4159 * (calls + 1) * (calls + 1)) ^ (5 : Int).toNat).fmod 2147483587).fdiv 32).fmod m, rd cells (spot + 1) rest (calls + 1), ?_, (fmod_rng (by omega)).1, (fmod_rng (by omega)).2, ⟨⟨cells, _, _, _, rfl, hc, by omega, hre, by omega, by omega⟩⟩⟩
      rw [sRet]
      have fin : eB modD (eCb toInt (aC (eB fdvD (eB modD (eCb toInt (aC (eB powD (eB addD (eV 6) (eB mulD (eB mulD (eC (.int 4159)) (eV 2)) (eV 2))) (eC (.int 5))) aN)) (eC (.int 2147483587))) (eC (.int 32))) aN)) (eV 1)
          [some (rf l), some (.int m), some (.int (calls + 1)), some (.int spot), some (.list (cells.map .int)), some (.int cell), some (.int once), none] (w.set l (rd cells (spot + 1) rest (calls + 1)))
          = .ok (.int (((((once + 4159 * (calls + 1) * (calls + 1)) ^ (5 : Int).toNat).fmod 2147483587).fdiv 32).fmod m)) (w.set l (rd cells (spot + 1) rest (calls + 1))) := by
        simp only [eB, eV, eC, eCb, aC, aN, toInt, Oc.bind, Oc.of, modD, fdvD, intD, m5, m6, m7, m8, m9, nz', mulD, addD, powD, List.getElem?_cons_zero, List.getElem?_cons_succ, if_true]
      rw [fin]
      exact leave_rt (by rw [List.length_set])
end Tk

set_option Elab.async false
set_option linter.all false
set_option maxRecDepth 100000
set_option maxHeartbeats 4000000
namespace Tk
open PySem L2 Td
/-! ### values: their weight, what they are made of -/
def ascS (z : Str) : Bool := z.cps.toList.all fun c => decide (c < 128)
mutual
def wt : PyData → Nat
  | .none => 1
  | .bool _ => 1
  | .int _ => 1
  | .str z => 1 + z.length
  | .list xs => 1 + wtA xs
  | .tuple xs => 1 + wtA xs
  | .dict _ => 1
def wtA : List PyData → Nat
  | [] => 0
  | x :: xs => wt x + wtA xs
end
mutual
def okV (B : Nat) : PyData → Bool
  | .none => true
  | .bool _ => true
  | .int i => decide (i.natAbs ≤ B)
  | .str z => ascS z
  | .list xs => okA B xs
  | .tuple xs => okA B xs
  | .dict _ => false
def okA (B : Nat) : List PyData → Bool
  | [] => true
  | x :: xs => okV B x && okA B xs
end
theorem okA_iff {B : Nat} : ∀ {xs : List PyData}, okA B xs = true ↔ ∀ x ∈ xs, okV B x = true
  | [] => by simp [okA]
  | x :: xs => by simp [okA, okA_iff (xs := xs)]
theorem wtA_app : ∀ (a b : List PyData), wtA (a ++ b) = wtA a + wtA b
  | [], b => by simp [wtA]
  | x :: a, b => by simp only [List.cons_append, wtA, wtA_app a b]; omega
theorem wtA_take (k : Nat) (a : List PyData) : wtA (a.take k) + wtA (a.drop k) = wtA a := by
  rw [← wtA_app, List.take_append_drop]
theorem wt_pos (d : PyData) : 1 ≤ wt d := by cases d <;> simp [wt] <;> omega
theorem len_wtA : ∀ a : List PyData, a.length ≤ wtA a
  | [] => Nat.le_refl _
  | x :: a => by have := len_wtA a; have := wt_pos x; simp only [List.length_cons, wtA]; omega
theorem wtA_mem {x : PyData} : ∀ {a : List PyData}, x ∈ a → wt x ≤ wtA a
  | y :: a, h => by
    simp only [wtA]
    rcases List.mem_cons.mp h with h | h
    · subst h; omega
    · have := wtA_mem h; omega
theorem wtA_rev : ∀ a : List PyData, wtA a.reverse = wtA a
  | [] => rfl
  | x :: a => by rw [List.reverse_cons, wtA_app, wtA_rev a]; simp [wtA]; omega
theorem depthAll_le {D : Nat} : ∀ {a : List PyData}, PyData.depthAll a ≤ D ↔ ∀ x ∈ a, x.depth ≤ D
  | [] => by simp [PyData.depthAll]
  | x :: a => by
    simp only [PyData.depthAll, List.mem_cons, forall_eq_or_imp]
    rw [Nat.max_le, depthAll_le (a := a)]
theorem asc_ok {z : Str} (h : ascS z = true) : PyData.strOk z = true := by
  unfold PyData.strOk
  unfold ascS at h
  rw [← Array.all_toList, List.all_eq_true] at *
  intro c hc
  have := of_decide_eq_true (h c hc)
  exact decide_eq_true (by omega)
mutual
theorem okV_lay {B : Nat} : ∀ d : PyData, okV B d = true → d.canLay0 = true
  | .none, _ => rfl
  | .bool _, _ => rfl
  | .int _, _ => rfl
  | .str z, h => by simpa [PyData.canLay0] using asc_ok (by simpa [okV] using h)
  | .list xs, h => by simpa [PyData.canLay0] using okA_lay xs (by simpa [okV] using h)
  | .tuple xs, h => by simpa [PyData.canLay0] using okA_lay xs (by simpa [okV] using h)
  | .dict _, h => by simp [okV] at h
theorem okA_lay {B : Nat} : ∀ xs : List PyData, okA B xs = true → PyData.canLayAll0 xs = true
  | [], _ => rfl
  | x :: xs, h => by
    have h' : okV B x = true ∧ okA B xs = true := by simpa [okA] using h
    simp [PyData.canLayAll0, okV_lay x h'.1, okA_lay xs h'.2]
end
/-- ints up to B, weight up to N, depth up to D -/
structure VB (B N D : Nat) (d : PyData) : Prop where
  ok : okV B d = true
  wt : wt d ≤ N
  dp : d.depth ≤ D
theorem VB.mono {B N D B' N' D' : Nat} {d : PyData} (h : VB B N D d) (hB : B ≤ B') (hN : N ≤ N') (hD : D ≤ D') (hok : okV B' d = true) : VB B' N' D' d := ⟨hok, Nat.le_trans h.wt hN, Nat.le_trans h.dp hD⟩
mutual
theorem okV_mono {B B' : Nat} (hB : B ≤ B') : ∀ d : PyData, okV B d = true → okV B' d = true
  | .none, _ => rfl
  | .bool _, _ => rfl
  | .int i, h => by
    have : i.natAbs ≤ B := by simpa [okV] using h
    simp only [okV]
    exact decide_eq_true (by omega)
  | .str z, h => by simpa [okV] using h
  | .list xs, h => by simpa [okV] using okA_mono hB xs (by simpa [okV] using h)
  | .tuple xs, h => by simpa [okV] using okA_mono hB xs (by simpa [okV] using h)
  | .dict _, h => by simp [okV] at h
theorem okA_mono {B B' : Nat} (hB : B ≤ B') : ∀ xs : List PyData, okA B xs = true → okA B' xs = true
  | [], _ => rfl
  | x :: xs, h => by
    have h' : okV B x = true ∧ okA B xs = true := by simpa [okA] using h
    simp [okA, okV_mono hB x h'.1, okA_mono hB xs h'.2]
end
theorem VB.up {B N D B' N' D' : Nat} {d : PyData} (h : VB B N D d) (hB : B ≤ B') (hN : N ≤ N') (hD : D ≤ D') : VB B' N' D' d := ⟨okV_mono hB _ h.ok, Nat.le_trans h.wt hN, Nat.le_trans h.dp hD⟩
theorem VB.tup {B N D : Nat} {ds : List PyData} (hok : ∀ x ∈ ds, okV B x = true) (hw : wtA ds + 1 ≤ N) (hd : ∀ x ∈ ds, x.depth + 1 ≤ D) (hD : 1 ≤ D) : VB B N D (.tuple ds) := by
  refine ⟨by simpa [okV] using okA_iff.mpr hok, by simp only [Tk.wt]; omega, ?_⟩
  simp only [PyData.depth]
  have := (depthAll_le (D := D - 1) (a := ds)).mpr fun x hx => by have := hd x hx; omega
  omega
theorem VB.lst {B N D : Nat} {ds : List PyData} (hok : ∀ x ∈ ds, okV B x = true) (hw : wtA ds + 1 ≤ N) (hd : ∀ x ∈ ds, x.depth + 1 ≤ D) (hD : 1 ≤ D) : VB B N D (.list ds) := by
  refine ⟨by simpa [okV] using okA_iff.mpr hok, by simp only [Tk.wt]; omega, ?_⟩
  simp only [PyData.depth]
  have := (depthAll_le (D := D - 1) (a := ds)).mpr fun x hx => by have := hd x hx; omega
  omega
theorem VB.un_tup {B N D : Nat} {ds : List PyData} (h : VB B N D (.tuple ds)) : (∀ x ∈ ds, okV B x = true) ∧ wtA ds + 1 ≤ N ∧ (∀ x ∈ ds, x.depth + 1 ≤ D) ∧ 1 ≤ D := by
  have h1 := h.ok
  have h2 := h.wt
  have h3 := h.dp
  simp only [okV, Tk.wt, PyData.depth] at h1 h2 h3
  refine ⟨okA_iff.mp h1, by omega, fun x hx => ?_, by omega⟩
  have := (depthAll_le (D := D - 1) (a := ds)).mp (by omega) x hx
  omega
theorem VB.shaped {B N D : Nat} {d : PyData} (h : VB B N D d) (hD : D ≤ 60) : SeqAt.shaped d = true := by
  unfold SeqAt.shaped
  rw [okV_lay d h.ok, Bool.true_and]
  have := h.dp
  exact decide_eq_true (by omega)
/-! slices by places -/
theorem cut_to {α : Type} (xs : List α) (k : Nat) : cutL xs none (some (k : Int)) = xs.take k := by
  unfold cutL
  rw [HT.sIx_none, HT.sIx_nat, List.drop_zero, Nat.sub_zero]
  by_cases h : k ≤ xs.length
  · rw [Nat.min_eq_left h]
  · rw [Nat.min_eq_right (by omega), List.take_of_length_le (Nat.le_refl _), List.take_of_length_le (by omega)]
theorem cut_from {α : Type} (xs : List α) (k : Nat) : cutL xs (some (k : Int)) none = xs.drop k := by
  unfold cutL
  rw [HT.sIx_none, HT.sIx_nat]
  by_cases h : k ≤ xs.length
  · rw [Nat.min_eq_left h, List.take_of_length_le (by rw [List.length_drop]; exact Nat.le_refl _)]
  · rw [Nat.min_eq_right (by omega), Nat.sub_self, List.take_zero, List.drop_eq_nil_of_le (by omega)]
theorem cut_one {α : Type} (xs : List α) (k : Nat) : cutL xs (some (k : Int)) (some ((k : Int) + 1)) = (xs.drop k).take 1 := by
  unfold cutL
  have e : HT.sIx xs.length xs.length (some ((k : Int) + 1)) = min (k + 1) xs.length := by
    have := HT.sIx_nat xs.length xs.length (k + 1)
    rw [show (((k + 1 : Nat)) : Int) = (k : Int) + 1 by omega] at this
    exact this
  rw [e, HT.sIx_nat]
  by_cases h : k < xs.length
  · rw [Nat.min_eq_left (by omega), Nat.min_eq_left (by omega), show k + 1 - k = 1 by omega]
  · rw [List.drop_eq_nil_of_le (by omega), List.drop_eq_nil_of_le (by omega), List.take_nil, List.take_nil]
theorem cut_from1 {α : Type} (xs : List α) (k : Nat) : cutL xs (some ((k : Int) + 1)) none = xs.drop (k + 1) := by
  have := cut_from xs (k + 1)
  rw [show (((k + 1 : Nat)) : Int) = (k : Int) + 1 by omega] at this
  exact this
end Tk

set_option Elab.async false
set_option linter.all false
set_option maxRecDepth 100000
set_option maxHeartbeats 4000000
namespace Tk
open PySem L2 Td
theorem up128 : ∀ c : Nat, c < 128 → ∀ x ∈ Unicode.upperOf c, x < 128 := by
  have h : (List.range 128).all (fun c => (Unicode.upperOf c).all fun x => decide (x < 128)) = true := by decide +kernel
  intro c hc x hx
  rw [List.all_eq_true] at h
  have := h c (List.mem_range.mpr hc)
  rw [List.all_eq_true] at this
  exact of_decide_eq_true (this x hx)
theorem asc_upper {z : Str} (h : ascS z = true) : ascS (Txt.upper z) = true := by
  unfold ascS at *
  rw [List.all_eq_true] at *
  intro x hx
  refine decide_eq_true ?_
  have hx : ∃ (l : List Nat), (∃ (a : Array Nat), (∃ (i : Nat) (h : i < z.cps.size), (Unicode.upperOf (z.cps[i]'h)).toArray = a) ∧ a.toList = l) ∧ x ∈ l := by simpa [Txt.upper, placed] using hx
  obtain ⟨l, ⟨a, ⟨i, hi, rfl⟩, rfl⟩, hx⟩ := hx
  exact up128 _ (of_decide_eq_true (h z.cps[i] (by simp))) x (by simpa using hx)
theorem asc_cut {z : Str} (h : ascS z = true) (lo hi : Option Int) : ascS (cutS z lo hi) = true := by
  unfold ascS at *
  rw [List.all_eq_true] at *
  intro x hx
  refine h x ?_
  unfold cutS at hx
  exact List.mem_of_mem_drop (List.mem_of_mem_take (by simpa using hx))
theorem cps_app (a b : Str) : (a ++ b).cps.toList = a.cps.toList ++ b.cps.toList := by
  show (a.cps ++ b.cps).toList = _
  simp
theorem len_app (a b : Str) : (a ++ b).length = a.length + b.length := by
  show (a.cps ++ b.cps).size = _
  rw [Array.size_append]
  rfl
theorem asc_app {a b : Str} (ha : ascS a = true) (hb : ascS b = true) : ascS (a ++ b) = true := by
  unfold ascS at *
  rw [cps_app, List.all_append, ha, hb]
  rfl
/-- str(n), n small -/
theorem str_small : ∀ i : Int, i.natAbs ≤ 1000 → ascS (toString i : String) = true ∧ (Str.ofString (toString i)).length ≤ 10 := by
  have h : (List.range 1001).all (fun n => (ascS (toString (n : Int) : String) && decide ((Str.ofString (toString (n : Int))).length ≤ 10)) && (ascS (toString (-(n : Int)) : String) && decide ((Str.ofString (toString (-(n : Int)))).length ≤ 10))) = true := by decide +kernel
  intro i hi
  rw [List.all_eq_true] at h
  have := h i.natAbs (List.mem_range.mpr (by omega))
  rw [Bool.and_eq_true, Bool.and_eq_true, Bool.and_eq_true] at this
  rcases Int.natAbs_eq i with e | e
  · rw [← e] at this
    exact ⟨this.1.1, of_decide_eq_true this.1.2⟩
  · rw [← e] at this
    exact ⟨this.2.1, of_decide_eq_true this.2.2⟩
def menuL : List PyData := [.none, .bool true, .int 0, .int (-1), .str "", .str "a", .str "-a", .str "=", .str "A", .tuple [], .list [], .tuple [.str "a"], .tuple [.int 0]]
theorem menu_all : menuL.all (fun d => okV 1 d && decide (wt d ≤ 4) && decide (d.depth ≤ 1)) = true := by decide +kernel
theorem menu_vb {d : PyData} (h : d ∈ menuL) : VB 1 4 1 d := by
  have := List.all_eq_true.mp menu_all d h
  rw [Bool.and_eq_true, Bool.and_eq_true] at this
  exact ⟨this.1.1, of_decide_eq_true this.1.2, of_decide_eq_true this.2⟩
theorem set_at {w : Ws} {l : Nat} {ob : Ob} (h : w[l]? = some ob) : w.set l ob = w := by
  obtain ⟨hl, e⟩ := List.getElem?_eq_some_iff.mp h
  rw [← e]
  exact List.set_getElem_self ..
theorem szOk_of {n : Nat} (h : n ≤ 10000000) : szOk n = true := decide_eq_true (by rw [sizeLine_eq]; omega)
theorem neD_tup (ds : List PyData) : PyData.eqv (.tuple ds) (.tuple []) = ds.isEmpty := by cases ds <;> simp [PyData.eqv, PyData.eqvAll]
theorem shaped_t0 : SeqAt.shaped (.tuple []) = true := by decide +kernel
/-- what is kept by a draw -/
structure Kept (w : Ws) (l : Nat) (n : Nat) (w' : Ws) : Prop where
  ex : ∃ ob, w' = w.set l ob ∧ RdOk ob n
theorem Kept.start {w : Ws} {l n : Nat} {ob : Ob} (hw : w[l]? = some ob) (hr : RdOk ob n) : Kept w l n w := ⟨⟨ob, (set_at hw).symm, hr⟩⟩
theorem Kept.at_ {w w' : Ws} {l n : Nat} (hl : l < w.length) (h : Kept w l n w') : ∃ ob, w'[l]? = some ob ∧ RdOk ob n := by
  obtain ⟨ob, rfl, hr⟩ := h.ex
  exact ⟨ob, List.getElem?_set_self hl, hr⟩
theorem Kept.mono {w w' : Ws} {l n m : Nat} (h : Kept w l n w') (hn : n ≤ m) : Kept w l m w' := by
  obtain ⟨ob, e, hr⟩ := h.ex
  exact ⟨⟨ob, e, hr.mono hn⟩⟩
theorem Kept.len {w w' : Ws} {l n : Nat} (h : Kept w l n w') : w'.length = w.length := by
  obtain ⟨ob, rfl, _⟩ := h.ex
  exact List.length_set
theorem Kept.trans {w w' w'' : Ws} {l n m : Nat} (h : Kept w l n w') (h2 : Kept w' l m w'') : Kept w l m w'' := by
  obtain ⟨ob, rfl, _⟩ := h.ex
  obtain ⟨ob2, rfl, hr⟩ := h2.ex
  exact ⟨⟨ob2, set_set, hr⟩⟩
/-- a draw, from what is kept -/
theorem draw_k {w w' : Ws} {l n : Nat} {m : Int} (hl : l < w.length) (h : Kept w l n w') (hn : n < 1000000) (hm : 1 ≤ m) (hm2 : m < 1000000) :
    ∃ v w'', F__law_draw [rf l, .int m] w' = .ok (.int v) w'' ∧ 0 ≤ v ∧ v < m ∧ Kept w l (n + 1) w'' := by
  obtain ⟨ob, h1, hr⟩ := h.at_ hl
  obtain ⟨v, ob', e, v0, v1, hr'⟩ := draw_ok h1 hr hn hm hm2
  exact ⟨v, _, e, v0, v1, h.trans ⟨⟨ob', rfl, hr'⟩⟩⟩
/-- one of the menu's -/
theorem menu_draw {w w' : Ws} {l n : Nat} {ρ : Ev} (hl : l < w.length) (h : Kept w l n w') (hn : n < 1000000) (h0 : ρ[0]? = some (some (rf l))) (h2 : ρ[2]? = some (some (.list menuL))) :
    ∃ d w'', eB ixD (eV 2) (eCall F__law_draw [] (aC (eV 0) (aC (eCb lenD (aC (eV 2) aN)) aN))) ρ w' = .ok d w'' ∧ d ∈ menuL ∧ Kept w l (n + 1) w'' := by
  obtain ⟨v, w'', e, v0, v1, k⟩ := draw_k (m := 13) hl h hn (by decide) (by decide)
  obtain ⟨j, rfl⟩ : ∃ j : Nat, v = (j : Int) := ⟨v.toNat, by omega⟩
  have hj : j < menuL.length := by show j < 13; omega
  refine ⟨menuL[j], w'', ?_, List.getElem_mem hj, k⟩
  have a : atI menuL (j : Int) = some menuL[j] := atI_nat (List.getElem?_eq_getElem hj)
  have ml : (menuL.length : Int) = 13 := rfl
  simp only [eB, eV, h0, h2, eCall, aC, aN, eCb, lenD, lstOf, Option.map_some, ml, Oc.bind, Oc.of, List.append_nil, e, ixD, a]
theorem mem_td {x : PyData} {ds : List PyData} {j : Nat} (h : x ∈ ds.take j ∨ x ∈ ds.drop j) : x ∈ ds := by
  rcases h with h | h
  · exact List.mem_of_mem_take h
  · exact List.mem_of_mem_drop h
end Tk

set_option Elab.async false
set_option linter.all false
set_option maxRecDepth 100000
set_option maxHeartbeats 4000000
namespace Tk
open PySem L2 Td
theorem draw_w {w w' : Ws} {l n : Nat} {m : Int} {Q : PyData → Ws → Prop} (hl : l < w.length) (h : Kept w l n w') (hn : n < 1000000) (hm : 1 ≤ m) (hm2 : m < 1000000)
    (q : ∀ (v : Nat) w'', (v : Int) < m → Kept w l (n + 1) w'' → Q (.int v) w'') : wO Q (F__law_draw [rf l, .int m] w') := by
  obtain ⟨v, w'', e, v0, v1, k⟩ := draw_k hl h hn hm hm2
  rw [e]
  obtain ⟨j, rfl⟩ : ∃ j : Nat, v = (j : Int) := ⟨v.toNat, by omega⟩
  exact .mk (q j w'' v1 k)
theorem menu_w {w w' : Ws} {l n : Nat} {ρ : Ev} {Q : PyData → Ws → Prop} (hl : l < w.length) (h : Kept w l n w') (hn : n < 1000000) (h0 : ρ[0]? = some (some (rf l))) (h2 : ρ[2]? = some (some (.list menuL)))
    (q : ∀ d w'', VB 1 4 1 d → Kept w l (n + 1) w'' → Q d w'') : wO Q (eB ixD (eV 2) (eCall F__law_draw [] (aC (eV 0) (aC (eCb lenD (aC (eV 2) aN)) aN))) ρ w') := by
  obtain ⟨d, w'', e, hd, k⟩ := menu_draw hl h hn h0 h2
  rw [e]
  exact .mk (q d w'' (menu_vb hd) k)
theorem kit_t (d : PyData) (w : Ws) : isD d = true → (tyD w d).bind (fun t => kitB t "tuple") = some (match d with | .tuple _ => true | _ => false) := by
  intro h
  cases d <;> (try cases h) <;> simp [tyD, k_ii, k_ib, k_is, k_it, k_bi, k_bb, k_bs, k_bt, k_si, k_sb, k_ss, k_st, k_ti, k_tb, k_ts, k_tt, k_li, k_lb, k_ls, k_lt, k_ni, k_nb, k_ns, k_nt]
theorem kit_s (d : PyData) (w : Ws) : isD d = true → (tyD w d).bind (fun t => kitB t "str") = some (match d with | .str _ => true | _ => false) := by
  intro h
  cases d <;> (try cases h) <;> simp [tyD, k_ii, k_ib, k_is, k_it, k_bi, k_bb, k_bs, k_bt, k_si, k_sb, k_ss, k_st, k_ti, k_tb, k_ts, k_tt, k_li, k_lb, k_ls, k_lt, k_ni, k_nb, k_ns, k_nt]
theorem kit_i (d : PyData) (w : Ws) : isD d = true → (tyD w d).bind (fun t => kitB t "int") = some (match d with | .int _ => true | .bool _ => true | _ => false) := by
  intro h
  cases d <;> (try cases h) <;> simp [tyD, k_ii, k_ib, k_is, k_it, k_bi, k_bb, k_bs, k_bt, k_si, k_sb, k_ss, k_st, k_ti, k_tb, k_ts, k_tt, k_li, k_lb, k_ls, k_lt, k_ni, k_nb, k_ns, k_nt]
theorem wE_Isi {T : String} {f : FE} {ρ : Ev} {w : Ws} {Q : PyData → Ws → Prop} : wO Q (eIsi T f ρ w) = wO (fun d w1 => wO (fun b w2 => Q (.bool b) w2) (Oc.of ((tyD w1 d).bind fun t => kitB t T) w1)) (f ρ w) := by
  simp only [eIsi, wO_bind]
  congr 1
  funext d w1
  cases (tyD w1 d).bind fun t => kitB t T with
  | none => simp only [Oc.of, wO_no]
  | some b => simp only [Oc.of, wO_ok]
theorem okV_isD {B : Nat} {d : PyData} (h : okV B d = true) : isD d = true := by cases d <;> first | rfl | simp [okV] at h
theorem wO_cond {α : Type} {Q : α → Ws → Prop} {o : Option α} {a : α} {w : Ws} (h : o = some a) (q : Q a w) : wO Q (Oc.of o w) := by rw [h]; exact .mk q
theorem add_tt {w : Ws} {a b : List PyData} (h : a.length + b.length ≤ 10000000) : addD w (.tuple a) (.tuple b) = some (.tuple (a ++ b)) := by
  simp only [addD, szOk_of h, if_true]
theorem add_ss {w : Ws} {a b : Str} (h : a.length + b.length ≤ 10000000) : addD w (.str a) (.str b) = some (.str (a ++ b)) := by
  simp only [addD, szOk_of h, if_true]
theorem wtA_drop (j : Nat) (ds : List PyData) : wtA (ds.drop j) ≤ wtA ds := by have := wtA_take j ds; omega
theorem wtA_take1 (j : Nat) (ds : List PyData) : wtA (ds.take j) ≤ wtA ds := by have := wtA_take j ds; omega
theorem vb_sub {B N D B' N' D' : Nat} {ds ys : List PyData} (h : VB B N D (.tuple ds)) (hs : ∀ x ∈ ys, x ∈ ds) (hB : B ≤ B') (hN : wtA ys + 1 ≤ N') (hD : D ≤ D') : VB B' N' D' (.tuple ys) := by
  obtain ⟨o1, o2, o3, o4⟩ := h.un_tup
  exact VB.tup (fun x hx => okV_mono hB _ (o1 x (hs x hx))) hN (fun x hx => Nat.le_trans (o3 x (hs x hx)) hD) (by omega)
theorem add_l3 {w : Ws} {a0 a1 a2 a3 a4 : PyData} : addD w (.list [a0, a1, a2]) (.list [a3, a4]) = some (.list [a0, a1, a2, a3, a4]) := by
  have e : szOk (3 + 2) = true := szOk_of (by decide)
  simp only [addD, lstOf, List.length_cons, List.length_nil]
  rw [if_pos e]
  rfl
theorem log2_small {n : Nat} (h : n ≤ 1000) : n.log2 < 1920 := by
  by_cases h0 : n = 0
  · subst h0; decide
  · have : n.log2 < 10 := (Nat.log2_lt h0).mpr (by omega)
    omega
theorem add_ii {w : Ws} {i j : Int} : addD w (.int i) (.int j) = some (.int (i + j)) := rfl
theorem w_tsti {T : String} {i : Nat} {ρ : Ev} {w : Ws} {d : PyData} {b : Bool} {QT : Bool → Ws → Prop} (h : ρ[i]? = some (some d)) (hk : (tyD w d).bind (fun t => kitB t T) = some b) : wO QT (tTr (eIsi T (eV i)) ρ w) = QT b w := by
  rw [wT_Tr, wE_Isi, wE_V h, hk, wO_some]
  exact wO_ok
theorem w_lt {i : Nat} {ρ : Ev} {w : Ws} {v j : Int} {QT : Bool → Ws → Prop} (h : ρ[i]? = some (some (.int v))) : wO QT (tB' (eB ltD (eV i) (eC (.int j))) ρ w) = QT (decide (v < j)) w := by
  rw [wT_B, wE_B, wE_V h, wE_C]
  exact wO_ok
theorem w_cut_to {i j : Nat} {ρ : Ev} {w : Ws} {ds : List PyData} {k : Nat} {Q : PyData → Ws → Prop} (h : ρ[i]? = some (some (.tuple ds))) (h2 : ρ[j]? = some (some (.int k))) : wO Q (eSl (eV i) oN (oS (eV j)) ρ w) = Q (.tuple (ds.take k)) w := by
  rw [wE_Sl, wE_V h, wO_N, wO_S, wE_V h2]
  show wO Q (Oc.of (cutD w (.tuple ds) none (some (k : Int))) w) = _
  simp only [cutD, cut_to, wO_some]
theorem w_cut_from {i j : Nat} {ρ : Ev} {w : Ws} {ds : List PyData} {k : Nat} {Q : PyData → Ws → Prop} (h : ρ[i]? = some (some (.tuple ds))) (h2 : ρ[j]? = some (some (.int k))) : wO Q (eSl (eV i) (oS (eV j)) oN ρ w) = Q (.tuple (ds.drop k)) w := by
  rw [wE_Sl, wE_V h, wO_S, wE_V h2]
  dsimp only
  rw [wO_N]
  simp only [cutD, cut_from, wO_some]
theorem w_cut_from1 {i j : Nat} {ρ : Ev} {w : Ws} {ds : List PyData} {k : Nat} {Q : PyData → Ws → Prop} (h : ρ[i]? = some (some (.tuple ds))) (h2 : ρ[j]? = some (some (.int k))) : wO Q (eSl (eV i) (oS (eB addD (eV j) (eC (.int 1)))) oN ρ w) = Q (.tuple (ds.drop (k + 1))) w := by
  rw [wE_Sl, wE_V h, wO_S, wE_B, wE_V h2, wE_C, add_ii, wO_some]
  dsimp only
  rw [wO_N]
  simp only [cutD, cut_from1, wO_some]
theorem w_cut_one {i j : Nat} {ρ : Ev} {w : Ws} {ds : List PyData} {k : Nat} {Q : PyData → Ws → Prop} (h : ρ[i]? = some (some (.tuple ds))) (h2 : ρ[j]? = some (some (.int k))) : wO Q (eSl (eV i) (oS (eV j)) (oS (eB addD (eV j) (eC (.int 1)))) ρ w) = Q (.tuple ((ds.drop k).take 1)) w := by
  rw [wE_Sl, wE_V h, wO_S, wE_V h2]
  show wO (fun h w3 => wO Q (Oc.of (cutD w3 (.tuple ds) (some (k : Int)) h) w3)) (oS (eB addD (eV j) (eC (.int 1))) ρ w) = _
  rw [wO_S, wE_B, wE_V h2, wE_C, add_ii, wO_some]
  dsimp only
  simp only [cutD, cut_one, wO_some]
/-- tuples put together -/
theorem w_addT {a b : FE} {ρ : Ev} {w w1 w2 : Ws} {x y : List PyData} {Q : PyData → Ws → Prop} (ha : a ρ w = .ok (.tuple x) w1) (hb : b ρ w1 = .ok (.tuple y) w2) (hz : x.length + y.length ≤ 10000000) : wO Q (eB addD a b ρ w) = Q (.tuple (x ++ y)) w2 := by
  rw [wE_B, ha, wO_ok, hb, wO_ok, add_tt hz, wO_some]
theorem of_wO {α : Type} {x : Oc α} {a : α} {w : Ws} (h : ∀ Q : α → Ws → Prop, wO Q x = Q a w) : x = .ok a w := by
  have := (h (fun a' w' => a' = a ∧ w' = w)).mpr ⟨rfl, rfl⟩
  cases this with
  | mk e => rw [e.1, e.2]
theorem at5 {a0 a1 a2 a3 a4 : PyData} {v : Nat} (h : v < 5) : ∃ d, atI [a0, a1, a2, a3, a4] (v : Int) = some d ∧ (d = a0 ∨ d = a1 ∨ d = a2 ∨ d = a3 ∨ d = a4) := by
  match v, h with
  | 0, _ => exact ⟨a0, atI_nat rfl, by simp⟩
  | 1, _ => exact ⟨a1, atI_nat rfl, by simp⟩
  | 2, _ => exact ⟨a2, atI_nat rfl, by simp⟩
  | 3, _ => exact ⟨a3, atI_nat rfl, by simp⟩
  | 4, _ => exact ⟨a4, atI_nat rfl, by simp⟩
theorem at4 {a0 a1 a2 a3 : PyData} {v : Nat} (h : v < 4) : ∃ d, atI [a0, a1, a2, a3] (v : Int) = some d ∧ (d = a0 ∨ d = a1 ∨ d = a2 ∨ d = a3) := by
  match v, h with
  | 0, _ => exact ⟨a0, atI_nat rfl, by simp⟩
  | 1, _ => exact ⟨a1, atI_nat rfl, by simp⟩
  | 2, _ => exact ⟨a2, atI_nat rfl, by simp⟩
  | 3, _ => exact ⟨a3, atI_nat rfl, by simp⟩
/-- the first test: a tuple with parts, and a draw -/
theorem mut_wp : ∀ (l : Nat) {d : PyData} {B N D : Nat} {w w' : Ws} {k n : Nat} {Q : PyData → Ws → Prop}, VB B N D d → D < l → 1 ≤ B ∧ B ≤ 990 → N ≤ 200000 → D ≤ 50 → k < w.length → Kept w k n w' → n + 6 * l < 1000000 →
    (∀ d' w'', VB (B + 1) (3 * N + 20) (D + 1) d' → Kept w k (n + 6 * l) w'' → Q d' w'') → wO Q (F__law_mutate l [rf k, d, .list menuL] w')
  | 0, _, _, _, _, _, _, _, _, _, _, hl, _, _, _, _, _, _, _ => by omega
  | l + 1, d, B, N, D, w, w', k, n, Q, hv, hl, hB, hN, hD, hk, K, hn, q => by
    have iD := okV_isD hv.ok
    rw [F__law_mutate]
    refine wF rfl ?_
    rw [b__law_mutate, show startE 7 [rf k, d, PyData.list menuL] = [some (rf k), some d, some (.list menuL), none, none, none, none] from rfl]
    have lenK : ∀ {m : Nat} {w2 : Ws}, Kept w k m w2 → w2.length = w'.length := fun h => h.len.trans K.len.symm
    -- what is left behind the first test
    have rest : ∀ (m : Nat) (w1 : Ws), m ≤ n + 1 → Kept w k m w1 → wS (fun _ w1 => w1.length = w'.length ∧ Q .none w1) (fun d w1 => w1.length = w'.length ∧ Q d w1)
        ((sSeq (sAsg (eCall F__law_draw [] (aC (eV 0) (aC (eC (.int 7)) aN))) (gN 3))
    (sSeq (sIf (tAn (tTr (eIsi "tuple" (eV 1))) (tB' (eB ltD (eV 3) (eC (.int 5))))) (sSeq (sAsg (eCall F__law_draw [] (aC (eV 0) (aC (eB addD (eCb lenD (aC (eV 1) aN)) (eC (.int 1))) aN))) (gN 4))
    (sSeq (sAsg (eB ixD (eV 2) (eCall F__law_draw [] (aC (eV 0) (aC (eCb lenD (aC (eV 2) aN)) aN)))) (gN 5))
    (sSeq (sAsg (eLst (aC (eB addD (eSl (eV 1) oN (oS (eV 4))) (eSl (eV 1) (oS (eB addD (eV 4) (eC (.int 1)))) oN)) (aC (eB addD (eB addD (eSl (eV 1) oN (oS (eV 4))) (eSl (eV 1) (oS (eV 4)) (oS (eB addD (eV 4) (eC (.int 1)))))) (eSl (eV 1) (oS (eV 4)) oN)) (aC (eCb listD (aC (eV 1) aN)) aN)))) (gN 6))
    (sRet (eB ixD (eB addD (eV 6) (eLst (aC (eU revD (eV 1)) (aC (eB addD (eB addD (eSl (eV 1) oN (oS (eV 4))) (eTup (aC (eV 5) aN))) (eSl (eV 1) (oS (eV 4)) oN)) aN)))) (eV 3)))))) sNil)
    (sSeq (sIf (tAn (tTr (eIsi "str" (eV 1))) (tB' (eB ltD (eV 3) (eC (.int 4))))) (sRet (eB ixD (eLst (aC (eB addD (eV 1) (eC (.str "a"))) (aC (eSl (eV 1) (oS (eC (.int 1))) oN) (aC (eU upD (eV 1)) (aC (eB addD (eC (.str "-")) (eV 1)) aN))))) (eV 3))) sNil)
    (sSeq (sIf (tAn (tTr (eIsi "int" (eV 1))) (tB' (eB ltD (eV 3) (eC (.int 4))))) (sRet (eB ixD (eLst (aC (eB addD (eV 1) (eC (.int 1))) (aC (eB subD (eV 1) (eC (.int 1))) (aC (eB eqD (eV 1) (eC (.int 0))) (aC (eCb toStr (aC (eV 1) aN)) aN))))) (eV 3))) sNil)
    (sRet (eB ixD (eV 2) (eCall F__law_draw [] (aC (eV 0) (aC (eCb lenD (aC (eV 2) aN)) aN)))))))))
        [some (rf k), some d, some (.list menuL), none, none, none, none] w1) := by
      intro m w1 hm K1
      refine wS_Seq ?_
      rw [wS_Asg, wE_Call, wA_C, wE_V rfl, wA_C, wE_C, wA_N]
      refine draw_w hk K1 (by omega) (by decide) (by decide) fun way w2 hway K2 => ?_
      dsimp only [List.set_cons_succ, List.set_cons_zero, List.append_nil]
      -- the menu's
      have fin : ∀ (w2 : Ws), Kept w k (m + 1) w2 → wS (fun _ w1 => w1.length = w'.length ∧ Q .none w1) (fun d w1 => w1.length = w'.length ∧ Q d w1) (sRet (eB ixD (eV 2) (eCall F__law_draw [] (aC (eV 0) (aC (eCb lenD (aC (eV 2) aN)) aN)))) [some (rf k), some d, some (.list menuL), some (.int way), none, none, none] w2) := fun w2 K2 => by
        rw [wS_Ret]
        refine menu_w hk K2 (by omega) rfl rfl fun d' w3 v3 K3 => ⟨lenK K3, q d' w3 (v3.up (by omega) (by omega) (by omega)) (K3.mono (by omega))⟩
      refine wS_Seq ?_
      rw [wS_If, wT_An, w_tsti (i := 1) rfl (kit_t d w2 iD)]
      cases d with
      | tuple ds =>
        dsimp only [cond_true]
        rw [w_lt rfl]
        obtain ⟨o1, o2, o3, o4⟩ := hv.un_tup
        have hlen := len_wtA ds
        by_cases h5 : (way : Int) < 5
        · rw [decide_eq_true h5, cond_true]
          refine wS_Seq ?_
          rw [wS_Asg, wE_Call, wA_C, wE_V rfl, wA_C, wE_B, wE_Cb, wA_C, wE_V rfl, wA_N, lenD, wO_some, wE_C, add_ii, wO_some, wA_N, List.append_nil]
          refine draw_w hk K2 (by omega) (by omega) (by omega) fun at_ w3 hat K3 => ?_
          dsimp only [List.set_cons_succ, List.set_cons_zero]
          refine wS_Seq ?_
          rw [wS_Asg]
          refine menu_w hk K3 (by omega) rfl rfl fun more w4 hmore K4 => ?_
          dsimp only [List.set_cons_succ, List.set_cons_zero]
          have l1 := wtA_take at_ ds
          have l2 := wtA_drop 1 (ds.drop at_)
          rw [List.drop_drop] at l2
          have l3 := wtA_take1 1 (ds.drop at_)
          have n1 : (ds.take at_).length ≤ ds.length := List.length_take_le' ..
          have n2 : (ds.drop at_).length ≤ ds.length := by rw [List.length_drop]; omega
          have n3 : (ds.drop (at_ + 1)).length ≤ ds.length := by rw [List.length_drop]; omega
          have n4 : ((ds.drop at_).take 1).length ≤ ds.length := Nat.le_trans (List.length_take_le' ..) n2
          have eA : ∀ {ρ : Ev} {w : Ws}, ρ[1]? = some (some (.tuple ds)) → ρ[4]? = some (some (.int at_)) → (eB addD (eSl (eV 1) oN (oS (eV 4))) (eSl (eV 1) (oS (eB addD (eV 4) (eC (.int 1)))) oN)) ρ w = .ok (.tuple (ds.take at_ ++ ds.drop (at_ + 1))) w := fun h1 h4 =>
            of_wO fun Q => w_addT (of_wO fun _ => w_cut_to h1 h4) (of_wO fun _ => w_cut_from1 h1 h4) (by omega)
          have eB' : ∀ {ρ : Ev} {w : Ws}, ρ[1]? = some (some (.tuple ds)) → ρ[4]? = some (some (.int at_)) → (eB addD (eB addD (eSl (eV 1) oN (oS (eV 4))) (eSl (eV 1) (oS (eV 4)) (oS (eB addD (eV 4) (eC (.int 1)))))) (eSl (eV 1) (oS (eV 4)) oN)) ρ w = .ok (.tuple (ds.take at_ ++ (ds.drop at_).take 1 ++ ds.drop at_)) w := fun h1 h4 =>
            of_wO fun Q => w_addT (of_wO fun _ => w_addT (of_wO fun _ => w_cut_to h1 h4) (of_wO fun _ => w_cut_one h1 h4) (by omega)) (of_wO fun _ => w_cut_from h1 h4) (by rw [List.length_append]; omega)
          refine wS_Seq ?_
          rw [wS_Asg, wE_Lst, wA_C, eA rfl rfl, wO_ok, wA_C, eB' rfl rfl, wO_ok, wA_C, wE_Cb, wA_C, wE_V rfl, wA_N, listD, wO_some, wA_N]
          refine wO_on (szOk_of (by simp only [List.length_cons, List.length_nil]; omega)) ?_
          rw [wO_ok]
          dsimp only [List.set_cons_succ, List.set_cons_zero]
          rw [wS_Ret, wE_B, wE_B, wE_V rfl, wE_Lst, wA_C, wE_U, wE_V rfl, revD, wO_some, wA_C]
          have eE : ∀ {ρ : Ev} {w : Ws}, ρ[1]? = some (some (.tuple ds)) → ρ[4]? = some (some (.int at_)) → ρ[5]? = some (some more) → (eB addD (eB addD (eSl (eV 1) oN (oS (eV 4))) (eTup (aC (eV 5) aN))) (eSl (eV 1) (oS (eV 4)) oN)) ρ w = .ok (.tuple (ds.take at_ ++ [more] ++ ds.drop at_)) w := fun h1 h4 h5 =>
            of_wO fun Q => w_addT (of_wO fun _ => w_addT (of_wO fun _ => w_cut_to h1 h4) (of_wO fun Q => by
              rw [wE_Tup, wA_C, wE_V h5, wA_N, szOk_of (show [more].length ≤ 10000000 by simp)]; exact wO_ok) (by simp only [List.length_cons, List.length_nil]; omega)) (of_wO fun _ => w_cut_from h1 h4) (by rw [List.length_append]; simp only [List.length_cons, List.length_nil]; omega)
          rw [eE rfl rfl rfl, wO_ok, wA_N]
          refine wO_on (szOk_of (by simp only [List.length_cons, List.length_nil]; omega)) ?_
          rw [wO_ok, add_l3, wO_some, wE_V rfl]
          obtain ⟨d', e', hd'⟩ := at5 (a0 := .tuple (ds.take at_ ++ ds.drop (at_ + 1))) (a1 := .tuple (ds.take at_ ++ (ds.drop at_).take 1 ++ ds.drop at_)) (a2 := .list ds) (a3 := .tuple ds.reverse) (a4 := .tuple (ds.take at_ ++ [more] ++ ds.drop at_)) (v := way) (by omega)
          refine wO_cond (a := d') (by simp only [ixD, lstOf, e']) ⟨lenK K4, q d' w4 ?_ (K4.mono (by omega))⟩
          rcases hd' with rfl | rfl | rfl | rfl | rfl
          · exact vb_sub hv (fun x hx => by
              rcases List.mem_append.mp hx with h | h
              · exact List.mem_of_mem_take h
              · exact List.mem_of_mem_drop h) (by omega) (by rw [wtA_app]; omega) (by omega)
          · exact vb_sub hv (fun x hx => by
              rcases List.mem_append.mp hx with h | h
              · rcases List.mem_append.mp h with h | h
                · exact List.mem_of_mem_take h
                · exact List.mem_of_mem_drop (List.mem_of_mem_take h)
              · exact List.mem_of_mem_drop h) (by omega) (by rw [wtA_app, wtA_app]; omega) (by omega)
          · exact VB.lst (fun x hx => okV_mono (by omega) _ (o1 x hx)) (by omega) (fun x hx => by have := o3 x hx; omega) (by omega)
          · exact vb_sub hv (fun x hx => List.mem_reverse.mp hx) (by omega) (by rw [wtA_rev]; omega) (by omega)
          · have hm1 := hmore.wt
            have hm2 := hmore.dp
            refine VB.tup (fun x hx => ?_) (by rw [wtA_app, wtA_app]; simp only [wtA]; omega) (fun x hx => ?_) (by omega)
            · rcases List.mem_append.mp hx with h | h
              · rcases List.mem_append.mp h with h | h
                · exact okV_mono (by omega) _ (o1 x (List.mem_of_mem_take h))
                · rw [List.mem_singleton.mp h]; exact okV_mono (by omega) _ hmore.ok
              · exact okV_mono (by omega) _ (o1 x (List.mem_of_mem_drop h))
            · rcases List.mem_append.mp hx with h | h
              · rcases List.mem_append.mp h with h | h
                · have := o3 x (List.mem_of_mem_take h); omega
                · rw [List.mem_singleton.mp h]; omega
              · have := o3 x (List.mem_of_mem_drop h); omega
        · rw [decide_eq_false h5, cond_false, wS_Nil]
          refine wS_Seq ?_
          rw [wS_If, wT_An, w_tsti (i := 1) rfl (kit_s (.tuple ds) w2 rfl)]
          dsimp only [cond_false]
          rw [wS_Nil]
          refine wS_Seq ?_
          rw [wS_If, wT_An, w_tsti (i := 1) rfl (kit_i (.tuple ds) w2 rfl)]
          dsimp only [cond_false]
          rw [wS_Nil]
          exact fin w2 K2
      | str z =>
        dsimp only [cond_false]
        rw [wS_Nil]
        refine wS_Seq ?_
        rw [wS_If, wT_An, w_tsti (i := 1) rfl (kit_s (.str z) w2 rfl)]
        dsimp only [cond_true]
        rw [w_lt rfl]
        have hz := hv.wt
        have ha : ascS z = true := by simpa [okV] using hv.ok
        simp only [wt] at hz
        by_cases h4 : (way : Int) < 4
        · rw [decide_eq_true h4, cond_true, wS_Ret, wE_B, wE_Lst, wA_C, wE_B, wE_V rfl, wE_C, add_ss (show z.length + Str.length "a" ≤ 10000000 by rw [show Str.length "a" = 1 from by decide +kernel]; omega), wO_some, wA_C, wE_Sl, wE_V rfl, wO_S, wE_C]
          dsimp only
          have sz : szOk z.length = true := szOk_of (by omega)
          have up : upD w2 (.str z) = some (.str (Txt.upper z)) := by
            simp only [upD]; rw [if_pos (decide_eq_true (by omega))]
          rw [wO_N, show cutD w2 (.str z) (some 1) none = some (.str (cutS z (some 1) none)) from by simp only [cutD, sz, if_true], wO_some, wA_C, wE_U, wE_V rfl, up, wO_some, wA_C, wE_B, wE_C, wE_V rfl,
            add_ss (show Str.length "-" + z.length ≤ 10000000 by rw [show Str.length "-" = 1 from by decide +kernel]; omega), wO_some, wA_N]
          refine wO_on (szOk_of (by simp only [List.length_cons, List.length_nil]; omega)) ?_
          rw [wO_ok, wE_V rfl]
          obtain ⟨d', e', hd'⟩ := at4 (a0 := .str (z ++ "a")) (a1 := .str (cutS z (some 1) none)) (a2 := .str (Txt.upper z)) (a3 := .str ("-" ++ z)) (v := way) (by omega)
          refine wO_cond (a := d') (by simp only [ixD, lstOf, e']) ⟨lenK K2, q d' w2 ?_ (K2.mono (by omega))⟩
          have la : ascS "a" = true := by decide +kernel
          have lm : ascS "-" = true := by decide +kernel
          have l1 : Str.length "a" = 1 := by decide +kernel
          have l2 : Str.length "-" = 1 := by decide +kernel
          have l3 := PyProof.Rows.len_upper z
          have l4 : (cutS z (some 1) none).length ≤ z.length := by
            unfold cutS
            simp only [Str.length, List.size_toArray, List.length_take, List.length_drop, Array.length_toList]
            omega
          have mk : ∀ {y : Str}, ascS y = true → y.length ≤ 3 * z.length + 1 → VB (B + 1) (3 * N + 20) (D + 1) (.str y) := fun {y} h1 h2 => ⟨by simpa [okV] using h1, by simp only [wt]; omega, by simp [PyData.depth]⟩
          rcases hd' with rfl | rfl | rfl | rfl
          · exact mk (asc_app ha la) (by rw [len_app, l1]; omega)
          · exact mk (asc_cut ha _ _) (by omega)
          · exact mk (asc_upper ha) (by omega)
          · exact mk (asc_app lm ha) (by rw [len_app, l2]; omega)
        · rw [decide_eq_false h4, cond_false, wS_Nil]
          refine wS_Seq ?_
          rw [wS_If, wT_An, w_tsti (i := 1) rfl (kit_i (.str z) w2 rfl)]
          dsimp only [cond_false]
          rw [wS_Nil]
          exact fin w2 K2
      | int i =>
        dsimp only [cond_false]
        rw [wS_Nil]
        refine wS_Seq ?_
        rw [wS_If, wT_An, w_tsti (i := 1) rfl (kit_s (.int i) w2 rfl)]
        dsimp only [cond_false]
        rw [wS_Nil]
        refine wS_Seq ?_
        rw [wS_If, wT_An, w_tsti (i := 1) rfl (kit_i (.int i) w2 rfl)]
        dsimp only [cond_true]
        rw [w_lt rfl]
        have hi : i.natAbs ≤ B := by simpa [okV] using hv.ok
        by_cases h4 : (way : Int) < 4
        · have ts : toStr w2 [.int i] = some (.str (toString i)) := by
            simp only [toStr]; rw [if_pos (decide_eq_true (log2_small (by omega)))]
          rw [decide_eq_true h4, cond_true, wS_Ret, wE_B, wE_Lst, wA_C, wE_B, wE_V rfl, wE_C, addD, wO_some, wA_C, wE_B, wE_V rfl, wE_C, subD, wO_some, wA_C, wE_B, wE_V rfl, wE_C, eqD, if_pos (by rfl), wO_some, wA_C, wE_Cb, wA_C, wE_V rfl, wA_N, ts, wO_some, wA_N]
          refine wO_on (szOk_of (by simp only [List.length_cons, List.length_nil]; omega)) ?_
          rw [wO_ok, wE_V rfl]
          obtain ⟨d', e', hd'⟩ := at4 (a0 := .int (i + 1)) (a1 := .int (i - 1)) (a2 := .bool (PyData.eqv (.int i) (.int 0))) (a3 := .str (toString i : String)) (v := way) (by omega)
          refine wO_cond (a := d') (by simp only [ixD, lstOf, e']) ⟨lenK K2, q d' w2 ?_ (K2.mono (by omega))⟩
          obtain ⟨s1, s2⟩ := str_small i (by omega)
          rcases hd' with rfl | rfl | rfl | rfl
          · exact ⟨by simp only [okV]; exact decide_eq_true (by omega), by simp only [wt]; omega, by simp [PyData.depth]⟩
          · exact ⟨by simp only [okV]; exact decide_eq_true (by omega), by simp only [wt]; omega, by simp [PyData.depth]⟩
          · exact ⟨rfl, by simp only [wt]; omega, by simp [PyData.depth]⟩
          · exact ⟨by simpa [okV] using s1, by simp only [wt]; omega, by simp [PyData.depth]⟩
        · rw [decide_eq_false h4, cond_false, wS_Nil]
          exact fin w2 K2
      | bool b =>
        dsimp only [cond_false]
        rw [wS_Nil]
        refine wS_Seq ?_
        rw [wS_If, wT_An, w_tsti (i := 1) rfl (kit_s (.bool b) w2 rfl)]
        dsimp only [cond_false]
        rw [wS_Nil]
        refine wS_Seq ?_
        rw [wS_If, wT_An, w_tsti (i := 1) rfl (kit_i (.bool b) w2 rfl)]
        dsimp only [cond_true]
        rw [w_lt rfl]
        by_cases h4 : (way : Int) < 4
        · rw [decide_eq_true h4, cond_true, wS_Ret, wE_B, wE_Lst, wA_C, wE_B, wE_V rfl, wE_C, addD, wO_some, wA_C, wE_B, wE_V rfl, wE_C, subD, wO_some, wA_C, wE_B, wE_V rfl, wE_C, eqD, if_pos (by rfl), wO_some, wA_C, wE_Cb, wA_C, wE_V rfl, wA_N, toStr, wO_some, wA_N]
          refine wO_on (szOk_of (by simp only [List.length_cons, List.length_nil]; omega)) ?_
          rw [wO_ok, wE_V rfl]
          obtain ⟨d', e', hd'⟩ := at4 (a0 := .int (b01 b + 1)) (a1 := .int (b01 b - 1)) (a2 := .bool (PyData.eqv (.bool b) (.int 0))) (a3 := .str (if b then "True" else "False")) (v := way) (by omega)
          refine wO_cond (a := d') (by simp only [ixD, lstOf, e']) ⟨lenK K2, q d' w2 ?_ (K2.mono (by omega))⟩
          have hb1 : (b01 b + 1).natAbs ≤ 2 := by cases b <;> decide
          have hb2 : (b01 b - 1).natAbs ≤ 2 := by cases b <;> decide
          have hs1 : ascS (if b then "True" else "False") = true := by cases b <;> decide +kernel
          have hs2 : (if b then ("True" : Str) else "False").length ≤ 5 := by cases b <;> decide +kernel
          rcases hd' with rfl | rfl | rfl | rfl
          · exact ⟨by simp only [okV]; exact decide_eq_true (by omega), by simp only [wt]; omega, by simp [PyData.depth]⟩
          · exact ⟨by simp only [okV]; exact decide_eq_true (by omega), by simp only [wt]; omega, by simp [PyData.depth]⟩
          · exact ⟨rfl, by simp only [wt]; omega, by simp [PyData.depth]⟩
          · exact ⟨by simpa [okV] using hs1, by simp only [wt]; omega, by simp [PyData.depth]⟩
        · rw [decide_eq_false h4, cond_false, wS_Nil]
          exact fin w2 K2
      | none =>
        dsimp only [cond_false]
        rw [wS_Nil]
        refine wS_Seq ?_
        rw [wS_If, wT_An, w_tsti (i := 1) rfl (kit_s .none w2 rfl)]
        dsimp only [cond_false]
        rw [wS_Nil]
        refine wS_Seq ?_
        rw [wS_If, wT_An, w_tsti (i := 1) rfl (kit_i .none w2 rfl)]
        dsimp only [cond_false]
        rw [wS_Nil]
        exact fin w2 K2
      | list ds =>
        dsimp only [cond_false]
        rw [wS_Nil]
        refine wS_Seq ?_
        rw [wS_If, wT_An, w_tsti (i := 1) rfl (kit_s (.list ds) w2 rfl)]
        dsimp only [cond_false]
        rw [wS_Nil]
        refine wS_Seq ?_
        rw [wS_If, wT_An, w_tsti (i := 1) rfl (kit_i (.list ds) w2 rfl)]
        dsimp only [cond_false]
        rw [wS_Nil]
        exact fin w2 K2
      | dict kvs => cases iD
    refine wS_Seq ?_
    rw [wS_If, wT_An, w_tsti (i := 1) rfl (kit_t d w' iD)]
    cases d with
    | tuple ds =>
      dsimp only [cond_true]
      obtain ⟨o1, o2, o3, o4⟩ := hv.un_tup
      have hlen := len_wtA ds
      have ne : (eB neD (eV 1) (eTup aN)) [some (rf k), some (.tuple ds), some (.list menuL), none, none, none, none] w' = .ok (.bool (!ds.isEmpty)) w' := of_wO fun Q => by
        rw [wE_B, wE_V rfl, wE_Tup, wA_N, szOk_of (show ([] : List PyData).length ≤ 10000000 by decide)]
        rw [show ∀ {Q : PyData → Ws → Prop} {x : Oc PyData}, wO Q (Oc.on true x) = wO Q x from rfl, wO_ok, neD, hv.shaped (by omega), shaped_t0, neD_tup]
        exact wO_ok
      rw [wT_An, wT_B, ne, wO_ok]
      dsimp only
      cases hds : ds.isEmpty with
      | true =>
        show cond (!true) _ _
        rw [Bool.not_true, cond_false]
        rw [wS_Nil]
        exact rest n w' (by omega) K
      | false =>
        show cond (!false) _ _
        rw [Bool.not_false, cond_true]
        have hpos : 1 ≤ ds.length := by
          cases ds with
          | nil => cases hds
          | cons => simp
        rw [wT_B, wE_B, wE_Call, wA_C, wE_V rfl, wA_C, wE_C, wA_N]
        refine draw_w hk K (by omega) (by decide) (by decide) fun v w1 hv4 K1 => ?_
        rw [wE_C, show gtD w1 (.int (v : Int)) (.int 0) = some (.bool (decide (0 < (v : Int)))) from rfl, wO_some]
        dsimp only
        by_cases h0 : 0 < (v : Int)
        · rw [decide_eq_true h0, cond_true]
          refine wS_Seq ?_
          rw [wS_Asg, wE_Call, wA_C, wE_V rfl, wA_C, wE_Cb, wA_C, wE_V rfl, wA_N, lenD, wO_some, wA_N]
          refine draw_w hk K1 (by omega) (by omega) (by omega) fun at_ w2 hat K2 => ?_
          dsimp only [List.set_cons_succ, List.set_cons_zero]
          have hat' : at_ < ds.length := by omega
          have n1 : (ds.take at_).length ≤ ds.length := List.length_take_le' ..
          have n3 : (ds.drop (at_ + 1)).length ≤ ds.length := by rw [List.length_drop]; omega
          rw [wS_Ret, wE_B, wE_B, w_cut_to rfl rfl, wE_Tup, wA_C, wE_Call, wA_C, wE_V rfl, wA_C, wE_B, wE_V rfl, wE_V rfl]
          rw [show ixD w2 (.tuple ds) (.int at_) = some ds[at_] from by simp only [ixD]; exact atI_nat (List.getElem?_eq_getElem hat'), wO_some, wA_C, wE_V rfl, wA_N]
          have vx : VB B (wt ds[at_]) (D - 1) ds[at_] := by
            have hm := List.getElem_mem hat'
            have := o3 _ hm
            exact ⟨o1 _ hm, Nat.le_refl _, by omega⟩
          refine mut_wp l vx (by omega) hB (by have := wtA_mem (List.getElem_mem hat'); omega) (by omega) hk K2 (by omega) fun d' w3 v3 K3 => ?_
          rw [wA_N]
          refine wO_on (szOk_of (by simp only [List.length_cons, List.length_nil]; omega)) ?_
          rw [wO_ok, add_tt (by simp only [List.length_cons, List.length_nil]; omega), wO_some, w_cut_from1 rfl rfl, add_tt (by rw [List.length_append]; simp only [List.length_cons, List.length_nil]; omega), wO_some]
          refine ⟨lenK K3, q _ w3 ?_ (K3.mono (by omega))⟩
          have l1 := wtA_take at_ ds
          have l2 := wtA_drop 1 (ds.drop at_)
          rw [List.drop_drop] at l2
          have ev : wtA (ds.drop at_) = wt ds[at_] + wtA (ds.drop (at_ + 1)) := by rw [List.drop_eq_getElem_cons hat']; rfl
          have w3' := v3.wt
          have d3' := v3.dp
          refine VB.tup (fun x hx => ?_) (by rw [wtA_app, wtA_app]; simp only [wtA]; omega) (fun x hx => ?_) (by omega)
          · rcases List.mem_append.mp hx with h | h
            · rcases List.mem_append.mp h with h | h
              · exact okV_mono (by omega) _ (o1 x (List.mem_of_mem_take h))
              · rw [List.mem_singleton.mp h]; exact v3.ok
            · exact okV_mono (by omega) _ (o1 x (List.mem_of_mem_drop h))
          · rcases List.mem_append.mp hx with h | h
            · rcases List.mem_append.mp h with h | h
              · have := o3 x (List.mem_of_mem_take h); omega
              · rw [List.mem_singleton.mp h]; omega
            · have := o3 x (List.mem_of_mem_drop h); omega
        · rw [decide_eq_false h0, cond_false, wS_Nil]
          exact rest (n + 1) w1 (by omega) K1
    | _ =>
      dsimp only [cond_false]
      rw [wS_Nil]
      exact rest n w' (by omega) K
end Tk

set_option Elab.async false
set_option linter.all false
set_option maxRecDepth 100000
set_option maxHeartbeats 4000000
namespace Tk
open PySem L2 Td
theorem reader_ok (ns : List Int) (h : ns.length ≤ 63) : F__law_reader [intsD ns] [] = .ok (rf 0) [rd ns 0 0 0] := by
  have c : cutL (ns.map PyData.int) none (some 63) = ns.map PyData.int := by
    have := cut_to (ns.map PyData.int) 63
    rw [List.take_of_length_le (by rw [List.length_map]; exact h)] at this
    exact this
  have m : mergeD [] (rdL (.list (ns.map .int)) (.int 0) (.int 0) (.int 0)) = rdL (.list (ns.map .int)) (.int 0) (.int 0) (.int 0) := by
    simp [mergeD, rdL, putD, ne_cs, ne_cr, ne_cc, ne_sr, ne_sk, ne_rk]
  have l : eDisp (((eC (.str "cells")), (eCb listD (aC (eSl (eV 0) oN (oS (eC (.int 63)))) aN))) :: (((eC (.str "spot")), (eC (.int 0))) :: (((eC (.str "rest")), (eC (.int 0))) :: (((eC (.str "calls")), (eC (.int 0))) :: [])))) [some (intsD ns)] [] = .ok (rf 0) [rd ns 0 0 0] := by
    simp only [eDisp, pairsF, eC, eCb, aC, aN, eSl, eV, oN, oS, Oc.bind, Oc.of, List.getElem?_cons_zero, intsD, cutD, lstOf, c, listD, Option.map_some, keysOf, keyD]
    rw [if_pos (by simp only [List.length_cons, List.length_nil]; decide)]
    have m' := m
    unfold rdL at m'
    rw [m']
    rfl
  rw [F__law_reader, defF, if_pos (show [intsD ns].length = 1 from rfl), b__law_reader, show startE 1 [intsD ns] = [some (intsD ns)] from rfl, sRet, l]
  rfl
def chk (d : PyData) : Bool := okV (10 ^ 60) d && decide (wt d ≤ 200000) && decide (d.depth ≤ 60) && d.leavesShort 64 && d.showable
theorem wS_AsgE {f : FE} {gt : FG} {ρ ρ' : Ev} {w w1 w' : Ws} {d : PyData} {N : Ev → Ws → Prop} {R : PyData → Ws → Prop} (h : f ρ w = .ok d w1) (h2 : gt d ρ w1 = .ok ρ' w') : wS N R (sAsg f gt ρ w) = N ρ' w' := by
  simp only [sAsg, h, Oc.thenS, h2, wS_nx]
theorem chk_str {z : Str} (h : ascS z = true) (hl : z.length ≤ 100000) : chk (.str z) = true := by
  unfold chk
  have e1 : okV (10 ^ 60) (.str z) = true := by simpa [okV] using h
  have e2 : decide (wt (.str z) ≤ 200000) = true := decide_eq_true (by simp only [wt]; omega)
  have e4 : (PyData.str z).leavesShort 64 = true := by
    simp only [PyData.leavesShort, List.all_eq_true, decide_eq_true_eq]
    intro c hc
    unfold ascS at h
    rw [List.all_eq_true] at h
    have := of_decide_eq_true (h c hc)
    omega
  rw [e1, e2, e4]
  rfl
theorem chk_un {d : PyData} (h : chk d = true) : okV (10 ^ 60) d = true ∧ wt d ≤ 200000 ∧ d.depth ≤ 60 ∧ d.leavesShort 64 = true ∧ d.showable = true := by
  unfold chk at h
  simp only [Bool.and_eq_true] at h
  exact ⟨h.1.1.1.1, of_decide_eq_true h.1.1.1.2, of_decide_eq_true h.1.1.2, h.1.2, h.2⟩
theorem chk_mk {d : PyData} (h : okV (10 ^ 60) d = true ∧ wt d ≤ 200000 ∧ d.depth ≤ 60 ∧ d.leavesShort 64 = true ∧ d.showable = true) : chk d = true := by
  unfold chk
  rw [h.1, decide_eq_true h.2.1, decide_eq_true h.2.2.1, h.2.2.2.1, h.2.2.2.2]
  rfl
theorem short_all {xs : List PyData} : PyData.leavesShortAll 64 xs = true ↔ ∀ x ∈ xs, x.leavesShort 64 = true := by
  induction xs with
  | nil => simp [PyData.leavesShortAll]
  | cons x xs ih => simp [PyData.leavesShortAll, ih]
theorem show_all {xs : List PyData} : PyData.showableAll xs = true ↔ ∀ x ∈ xs, x.showable = true := by
  induction xs with
  | nil => simp [PyData.showableAll]
  | cons x xs ih => simp [PyData.showableAll, ih]
/-- a small one -/
structure Sm (d : PyData) : Prop where
  c : chk d = true
  w : wt d ≤ 10
  d : d.depth ≤ 5
theorem wtA_sm : ∀ {xs : List PyData}, (∀ x ∈ xs, Sm x) → wtA xs ≤ 10 * xs.length
  | [], _ => Nat.le_refl _
  | x :: xs, h => by
    have h1 := (h x List.mem_cons_self).w
    have h2 := wtA_sm fun y hy => h y (List.mem_cons_of_mem x hy)
    simp only [wtA, List.length_cons]
    omega
theorem chk_tup {xs : List PyData} (h : ∀ x ∈ xs, Sm x) (hl : xs.length ≤ 2000) : chk (.tuple xs) = true := by
  have hw := wtA_sm h
  have hd := (depthAll_le (D := 5) (a := xs)).mpr fun x hx => (h x hx).d
  refine chk_mk ⟨?_, by simp only [wt]; omega, by simp only [PyData.depth]; omega, ?_, ?_⟩
  · simpa [okV] using okA_iff.mpr fun x hx => (chk_un (h x hx).c).1
  · simpa [PyData.leavesShort] using short_all.mpr fun x hx => (chk_un (h x hx).c).2.2.2.1
  · simpa [PyData.showable] using show_all.mpr fun x hx => (chk_un (h x hx).c).2.2.2.2
def far : Int := 10 ^ (59 : Int).toNat
def fx0 : List PyData := [.none, .bool true, .bool false, .int 0, .int 1, .int (-1), .int far, .int (-far), .str "", .str "a", .str "z"]
def fx1 : List PyData := [.str "abcdefgh", .str "abcdefghi", .str "-abcdefgh", .str "=abcdefghi", .str "-", .str "="]
def fx2 : List PyData := [.str "--a", .str "-=a", .str "a-", .str "=a=", .str "- a", .str "-A", .str "=a1", .str "{", .str "backtick~", .str "a b"]
def fx3 : List PyData := [.str "a.", .str "a,b", .str (Txt.mul "a" 4000), .str ("-" ++ Txt.mul "a" 3999), .tuple [], .list [], .tuple [.str "a"], .list [.str "a"]]
def fx4 : List PyData := [.tuple [.str "-a", .str "=a", .str "a"], .tuple [.str "=a", .str "-a"], .tuple [.str "a", .str "-a"], .tuple [.str "a", .str "a"], .tuple [.str "-a", .str "-a"]]
def fx5 : List PyData := [.tuple [.str "-a", .str "-b", .str "=a", .str "=b", .str "a", .str "b"], .tuple [.str "a", .str ""], .tuple [.str "", .str "a"], .tuple [.str "a", .none]]
def fx6 : List PyData := [.tuple [.str "a", .tuple [.str "b"]], .tuple [.tuple [.str "a"]], .tuple [.int 0], .tuple [.int 0, .int 1], .tuple [.int 1, .int 0], .tuple [.int 0, .int (-1)], .tuple [.int 0, .bool true]]
def fx7 : List PyData := [.tuple [.bool false], .tuple [.int far], .tuple [.int 0, .str "0"], .tuple [.tuple [.int 0]], .list [.int 0], .tuple [.int 0, .list [.int 0]]]
theorem fx_chk : (fx0 ++ fx1 ++ fx2 ++ fx4 ++ fx5 ++ fx6 ++ fx7).all chk = true := by decide +kernel
theorem len_a (k : Int) (N : Nat) (h : k ≤ N) : (Txt.mul "a" k).length ≤ N := by
  have := PyProof.Rows.len_mul_one (y := "a") (c := 97) (n := k) (N := N) (by decide +kernel) h
  exact this
theorem asc_a (k : Int) : ascS (Txt.mul "a" k) = true := by
  unfold ascS
  rw [show ("a" : Str) = ⟨#[97]⟩ from by decide +kernel, PyProof.Rows.mul_one_list, List.all_eq_true]
  intro c hc
  rw [(List.mem_replicate.mp hc).2]
  decide
theorem fx3_chk : ∀ x ∈ fx3, chk x = true := by
  intro x hx
  unfold fx3 at hx
  simp only [List.mem_cons, List.not_mem_nil, or_false] at hx
  rcases hx with rfl | rfl | rfl | rfl | rfl | rfl | rfl | rfl
  · decide +kernel
  · decide +kernel
  · exact chk_str (asc_a _) (Nat.le_trans (len_a 4000 4000 (by decide)) (by decide))
  · have h1 := len_a 3999 3999 (by decide)
    exact chk_str (asc_app (by decide +kernel) (asc_a _)) (by rw [len_app, show Str.length "-" = 1 from by decide +kernel]; omega)
  · decide +kernel
  · decide +kernel
  · decide +kernel
  · decide +kernel
end Tk

set_option Elab.async false
set_option linter.all false
set_option maxRecDepth 100000
set_option maxHeartbeats 4000000
namespace Tk
open PySem L2 Td
def sgn : Str := "abcdefghijklmnopqrstuvwxyz"
theorem sgn_asc : ascS sgn = true := by decide +kernel
theorem sgn_len : sgn.cps.toList.length = 26 := by decide +kernel
theorem sgn_sz : szOk sgn.length = true := szOk_of (by rw [show sgn.length = 26 from by decide +kernel]; omega)
theorem sgn_at {w : Ws} (j : Nat) (h : j < 26) : ∃ c, c < 128 ∧ ixD w (.str sgn) (.int (j : Int)) = some (.str ⟨#[c]⟩) := by
  have hj : j < sgn.cps.toList.length := by rw [sgn_len]; exact h
  have a : atI sgn.cps.toList (j : Int) = some (sgn.cps.toList[j]) := atI_nat (List.getElem?_eq_getElem hj)
  refine ⟨sgn.cps.toList[j], ?_, ?_⟩
  · have := sgn_asc
    unfold ascS at this
    rw [List.all_eq_true] at this
    exact of_decide_eq_true (this _ (List.getElem_mem hj))
  · simp only [ixD, sgn_sz, if_true, a, Option.map_some]
/-- one of the four hundred -/
def Mk (x : PyData) : Prop := ∃ z : Str, x = .str z ∧ ascS z = true ∧ z.length ≤ 5
theorem Mk.sm {x : PyData} (h : Mk x) : Sm x := by
  obtain ⟨z, rfl, h1, h2⟩ := h
  exact ⟨chk_str h1 (by omega), by simp only [wt]; omega, by simp [PyData.depth]⟩
theorem asc_one {c : Nat} (h : c < 128) : ascS ⟨#[c]⟩ = true := by simp [ascS, h]
theorem cut_mem {xs : List PyData} {a b : Option Int} {x : PyData} (h : x ∈ cutL xs a b) : x ∈ xs := by
  unfold cutL at h
  exact List.mem_of_mem_drop (List.mem_of_mem_take h)
theorem cut_len {xs : List PyData} {a b : Option Int} : (cutL xs a b).length ≤ xs.length := by
  unfold cutL
  rw [List.length_take, List.length_drop]
  omega
theorem sm7 : Sm (.int 7) := ⟨by decide +kernel, by decide +kernel, by decide +kernel⟩
theorem sm7' : Sm (.int (-7)) := ⟨by decide +kernel, by decide +kernel, by decide +kernel⟩
theorem smA : Sm (.str "=A") := ⟨by decide +kernel, by decide +kernel, by decide +kernel⟩
theorem rep7 {x : PyData} (h : x ∈ (List.replicate (900 : Int).toNat [PyData.int 7]).flatten) : x = .int 7 := by
  obtain ⟨l, hl, hx⟩ := List.mem_flatten.mp h
  rw [(List.mem_replicate.mp hl).2] at hx
  exact List.mem_singleton.mp hx
theorem rep7_len : (List.replicate (900 : Int).toNat [PyData.int 7]).flatten.length ≤ 900 := by decide +kernel
theorem add_ll {w : Ws} {a b : List PyData} (h : a.length + b.length ≤ 10000000) : addD w (.list a) (.list b) = some (.list (a ++ b)) := by
  simp only [addD, lstOf, szOk_of h, if_true]
theorem wO_onT {α : Type} {Q : α → Ws → Prop} {x : Oc α} : wO Q (Oc.on true x) = wO Q x := rfl
theorem mark_w (w : Ws) (ρ : Ev) (k : Nat) (hk : k < 400) (h3 : ρ[3]? = some (some (.str sgn))) (h4 : ρ[4]? = some (some (.int (0 + (k : Int))))) {Q : PyData → Ws → Prop} (q : ∀ x, Mk x → Q x w) :
    wO Q (eB addD (eB addD (eC (.str "=")) (eB ixD (eV 3) (eB fdvD (eV 4) (eC (.int 20))))) (eB ixD (eV 3) (eB modD (eCb toInt (aC (eV 4) aN)) (eC (.int 20)))) ρ w) := by
  have e0 : (0 : Int) + (k : Int) = (k : Int) := by omega
  rw [e0] at h4
  have e1 : (k : Int).fdiv 20 = ((k / 20 : Nat) : Int) := by rw [Int.fdiv_eq_ediv_of_nonneg _ (by decide)]; omega
  have e2 : (k : Int).fmod 20 = ((k % 20 : Nat) : Int) := by rw [Int.fmod_eq_emod_of_nonneg _ (by decide)]; omega
  obtain ⟨c1, hc1, i1⟩ := sgn_at (w := w) (k / 20) (by omega)
  obtain ⟨c2, hc2, i2⟩ := sgn_at (w := w) (k % 20) (by omega)
  rw [wE_B, wE_B, wE_C, wE_B, wE_V h3, wE_B, wE_V h4, wE_C]
  have d1 : fdvD w (.int (k : Int)) (.int 20) = some (.int ((k / 20 : Nat) : Int)) := by
    simp only [fdvD, intD]
    rw [if_pos (show cDv (k : Int) 20 = true by unfold cDv; decide), e1]
  have d2 : modD w (.int (k : Int)) (.int 20) = some (.int ((k % 20 : Nat) : Int)) := by
    simp only [modD, intD]
    rw [if_pos (show cNz (k : Int) 20 = true by unfold cNz; decide), e2]
  have l1 : Str.length "=" = 1 := by decide +kernel
  have l2 : ∀ c : Nat, Str.length ⟨#[c]⟩ = 1 := fun c => rfl
  rw [d1, wO_some, i1, wO_some, add_ss (by rw [l1, l2]; omega), wO_some, wE_B, wE_V h3, wE_B, wE_Cb, wA_C, wE_V h4, wA_N, toInt, wO_some, wE_C, d2, wO_some, i2, wO_some, add_ss (by rw [len_app, l1, l2, l2]; omega), wO_some]
  refine q _ ⟨_, rfl, asc_app (asc_app (by decide +kernel) (asc_one hc1)) (asc_one hc2), ?_⟩
  rw [len_app, len_app, l1, l2, l2]
  omega
theorem fixed_w (w : Ws) {Q : PyData → Ws → Prop} (q : ∀ L : List PyData, L.length ≤ 100 → (∀ x ∈ L, chk x = true) → Q (.list L) w) : wO Q (F__law_fixed_values [] w) := by
  unfold F__law_fixed_values
  refine wF rfl ?_
  unfold b__law_fixed_values
  rw [show startE 5 [] = [none, none, none, none, none] from rfl]
  refine wS_Seq ?_
  rw [wS_AsgE (d := .tuple [.int far, .str sgn]) (w1 := w) (ρ' := [none, none, some (.int far), some (.str sgn), none]) (w' := w) (by kernel_rfl) (by kernel_rfl)]
  refine wS_Seq ?_
  rw [wS_AsgE (d := .list fx0) (w1 := w) (ρ' := [some (.list fx0), none, some (.int far), some (.str sgn), none]) (w' := w) (by kernel_rfl) rfl]
  have step : ∀ {fa : FA} {a b : List PyData} {ρ : Ev}, ρ[0]? = some (some (.list a)) → fa ρ w = .ok b w → a.length + b.length ≤ 10000000 → (eB addD (eV 0) (eLst fa)) ρ w = .ok (.list (a ++ b)) w := fun {fa a b ρ} h0 h1 hz =>
    of_wO fun Q => by
      rw [wE_B, wE_V h0, wE_Lst, h1, wO_ok, szOk_of (show b.length ≤ 10000000 by omega), wO_onT, wO_ok, add_ll hz, wO_some]
  refine wS_Seq ?_
  rw [wS_AsgE (step (b := fx1) rfl (by kernel_rfl) (by decide)) rfl]
  refine wS_Seq ?_
  rw [wS_AsgE (step (b := fx2) rfl (by kernel_rfl) (by decide)) rfl]
  refine wS_Seq ?_
  rw [wS_AsgE (step (b := fx3) rfl (by kernel_rfl) (by decide)) rfl]
  refine wS_Seq ?_
  rw [wS_AsgE (step (b := fx4) rfl (by kernel_rfl) (by decide)) rfl]
  refine wS_Seq ?_
  rw [wS_AsgE (step (b := fx5) rfl (by kernel_rfl) (by decide)) rfl]
  refine wS_Seq ?_
  rw [wS_AsgE (step (b := fx6) rfl (by kernel_rfl) (by decide)) rfl]
  refine wS_Seq ?_
  rw [wS_AsgE (step (b := fx7) rfl (by kernel_rfl) (by decide)) rfl]
  dsimp only [List.set_cons_zero]
  refine wS_Seq ?_
  rw [wS_Asg, wE_Cb, wA_C, wE_Lc, wA_R1, wA_C, wE_C, wA_N]
  refine wO_on (c62_of (by decide)) ?_
  rw [wO_ok]
  have r4 : (rgD 0 400).length = 400 := rgD_len 400
  refine wA_lcL (fun i acc w' => w' = w ∧ acc.length = i ∧ ∀ x ∈ acc, Mk x) _ 0 w [] (by rw [r4, sizeLine_eq]; decide) ⟨rfl, rfl, fun x hx => by cases hx⟩ (fun j d acc w' hd ⟨hw, hl, hm⟩ => ?_) fun ms w' ⟨hw, hl, hm⟩ => ?_
  · subst hw
    have hj : j < 400 := by rw [← r4]; exact (List.getElem?_eq_some_iff.mp hd).1
    have ed : d = .int (0 + (j : Int)) := by
      simp only [rgD, List.getElem?_map] at hd
      rw [List.getElem?_range (by simpa using hj)] at hd
      exact (Option.some.inj hd).symm
    subst ed
    rw [gN, wO_ok, tYs, wO_ok, cond_true]
    refine mark_w _ _ j hj rfl rfl fun x hx => ⟨rfl, by rw [List.length_append, hl]; simp, fun y hy => ?_⟩
    rcases List.mem_append.mp hy with h | h
    · exact hm y h
    · rw [List.mem_singleton.mp h]; exact hx
  subst hw
  rw [r4] at hl
  rw [wA_N, show tupleD w' [PyData.list ms] = some (.tuple ms) from rfl, wO_some]
  dsimp only [List.set_cons_succ, List.set_cons_zero]
  have hm' : ∀ x ∈ ms, Sm x := fun x hx => (hm x hx).sm
  have c1 : ∀ a b, (cutL ms a b).length ≤ 400 := fun a b => Nat.le_trans cut_len (by omega)
  have n1 : negD w' (.int 1) = some (.int (-1)) := rfl
  have n7 : negD w' (.int 7) = some (.int (-7)) := rfl
  have m7 : mulD w' (.tuple [.int 7]) (.int 900) = some (.tuple (List.replicate (900 : Int).toNat [PyData.int 7]).flatten) := by
    simp only [mulD]
    rw [if_pos (show cMt [PyData.int 7].length 900 = true by unfold cMt; decide)]
  have o1 : ∀ d : PyData, szOk [d].length = true := fun d => szOk_of (show [d].length ≤ 10000000 by simp)
  have r7 := rep7_len
  rw [wS_Ret, wE_B, wE_V rfl, wE_Lst, wA_C, wE_V rfl, wA_C, wE_B, wE_V rfl, wE_Sl, wE_V rfl, wO_S, wE_U, wE_C, n1, wO_some]
  dsimp only
  rw [wO_N, cutD, wO_some, add_tt (by have := c1 (some (-1)) none; omega), wO_some, wA_C, wE_B, wE_Sl, wE_V rfl, wO_N, wO_S, wE_C]
  dsimp only
  rw [cutD, wO_some, wE_Tup, wA_C, wE_C, wA_N, o1, wO_onT, wO_ok, add_tt (by have := c1 none (some 399); simp only [List.length_cons, List.length_nil]; omega), wO_some, wA_C, wE_B, wE_Tup, wA_C, wE_C, wA_N, o1, wO_onT, wO_ok, wE_C, m7, wO_some, wA_C, wE_B, wE_B, wE_Tup, wA_C, wE_C, wA_N, o1, wO_onT, wO_ok, wE_C, m7, wO_some, wE_Tup, wA_C, wE_U, wE_C, n7, wO_some, wA_N, o1, wO_onT, wO_ok, add_tt (by simp only [List.length_cons, List.length_nil]; omega), wO_some, wA_N]
  refine wO_on (szOk_of (by simp only [List.length_cons, List.length_nil]; omega)) ?_
  rw [wO_ok, add_ll (show (fx0 ++ fx1 ++ fx2 ++ fx3 ++ fx4 ++ fx5 ++ fx6 ++ fx7).length + 5 ≤ 10000000 by decide), wO_some]
  refine ⟨rfl, q _ (by rw [List.length_append]; exact (by decide : (fx0 ++ fx1 ++ fx2 ++ fx3 ++ fx4 ++ fx5 ++ fx6 ++ fx7).length + 5 ≤ 100)) fun x hx => ?_⟩
  rcases List.mem_append.mp hx with h | h
  · have all : ∀ x ∈ fx0 ++ fx1 ++ fx2 ++ fx4 ++ fx5 ++ fx6 ++ fx7, chk x = true := List.all_eq_true.mp fx_chk
    by_cases h3 : x ∈ fx3
    · exact fx3_chk x h3
    · refine all x ?_
      simp only [List.mem_append] at h ⊢
      rcases h with ((((((h | h) | h) | h) | h) | h) | h) | h
      all_goals first | exact absurd h h3 | simp only [h, true_or, or_true]
  · simp only [List.mem_cons, List.not_mem_nil, or_false] at h
    rcases h with rfl | rfl | rfl | rfl | rfl
    · exact chk_tup hm' (by omega)
    · refine chk_tup (fun x hx => ?_) (by rw [List.length_append]; have := c1 (some (-1)) none; omega)
      rcases List.mem_append.mp hx with h | h
      · exact hm' x h
      · exact hm' x (cut_mem h)
    · refine chk_tup (fun x hx => ?_) (by rw [List.length_append]; have := c1 none (some 399); simp only [List.length_cons, List.length_nil]; omega)
      rcases List.mem_append.mp hx with h | h
      · exact hm' x (cut_mem h)
      · rw [List.mem_singleton.mp h]; exact smA
    · exact chk_tup (fun x hx => by rw [rep7 hx]; exact sm7) (by omega)
    · refine chk_tup (fun x hx => ?_) (by rw [List.length_append]; simp only [List.length_cons, List.length_nil]; omega)
      rcases List.mem_append.mp hx with h | h
      · rw [rep7 h]; exact sm7
      · rw [List.mem_singleton.mp h]; exact sm7'
end Tk

set_option Elab.async false
set_option linter.all false
set_option maxRecDepth 100000
set_option maxHeartbeats 4000000
namespace Tk
open PySem L2 Td
mutual
theorem ok_short : ∀ d : PyData, okV 1000 d = true → d.leavesShort 64 = true ∧ d.showable = true
  | .none, _ => ⟨rfl, rfl⟩
  | .bool b, _ => ⟨rfl, rfl⟩
  | .int i, h => by
    have hi : i.natAbs ≤ 1000 := by simpa [okV] using h
    obtain ⟨s1, s2⟩ := str_small i hi
    refine ⟨?_, ?_⟩
    · simp only [PyData.leavesShort]
      exact decide_eq_true (by
        have : (PyData.shown (.int i)).length ≤ 10 := s2
        omega)
    · simp only [PyData.showable]
      exact decide_eq_true (log2_small hi)
  | .str z, h => (fun c => ⟨c.2.2.2.1, rfl⟩) (show True ∧ True ∧ True ∧ (PyData.str z).leavesShort 64 = true ∧ True from ⟨trivial, trivial, trivial, by
      simp only [PyData.leavesShort, List.all_eq_true, decide_eq_true_eq]
      intro c hc
      have h' : ascS z = true := by simpa [okV] using h
      unfold ascS at h'
      rw [List.all_eq_true] at h'
      have := of_decide_eq_true (h' c hc)
      omega, trivial⟩)
  | .list xs, h => by
    have := ok_shortA xs (by simpa [okV] using h)
    exact ⟨by simpa [PyData.leavesShort] using this.1, by simpa [PyData.showable] using this.2⟩
  | .tuple xs, h => by
    have := ok_shortA xs (by simpa [okV] using h)
    exact ⟨by simpa [PyData.leavesShort] using this.1, by simpa [PyData.showable] using this.2⟩
  | .dict _, h => by simp [okV] at h
theorem ok_shortA : ∀ xs : List PyData, okA 1000 xs = true → PyData.leavesShortAll 64 xs = true ∧ PyData.showableAll xs = true
  | [], _ => ⟨rfl, rfl⟩
  | x :: xs, h => by
    have h' : okV 1000 x = true ∧ okA 1000 xs = true := by simpa [okA] using h
    have h1 := ok_short x h'.1
    have h2 := ok_shortA xs h'.2
    exact ⟨by simp [PyData.leavesShortAll, h1.1, h2.1], by simp [PyData.showableAll, h1.2, h2.2]⟩
end
theorem VB.chk {B N D : Nat} {d : PyData} (h : VB B N D d) (hB : B ≤ 1000) (hN : N ≤ 200000) (hD : D ≤ 60) : chk d = true := by
  have s := ok_short d (okV_mono hB d h.ok)
  exact chk_mk ⟨okV_mono (Nat.le_trans hB (by decide)) d h.ok, Nat.le_trans h.wt hN, Nat.le_trans h.dp hD, s.1, s.2⟩
mutual
theorem bulk_wt : ∀ d : PyData, okV (10 ^ 60) d = true → d.bulk + 1 ≤ wt d
  | .none, _ => Nat.le_refl _
  | .bool b, _ => Nat.le_refl _
  | .int i, _ => Nat.le_refl _
  | .str z, _ => by simp only [PyData.bulk, wt, Str.length]; omega
  | .list xs, h => by
    have := bulk_wtA xs (by simpa only [okV] using h)
    simp only [PyData.bulk, wt]; omega
  | .tuple xs, h => by
    have := bulk_wtA xs (by simpa only [okV] using h)
    simp only [PyData.bulk, wt]; omega
  | .dict _, h => by simp [okV] at h
theorem bulk_wtA : ∀ xs : List PyData, okA (10 ^ 60) xs = true → PyData.bulkAll xs ≤ wtA xs
  | [], _ => Nat.le_refl _
  | x :: xs, h => by
    have h' : okV (10 ^ 60) x = true ∧ okA (10 ^ 60) xs = true := by simpa only [okA, Bool.and_eq_true] using h
    have h1 := bulk_wt x h'.1
    have h2 := bulk_wtA xs h'.2
    simp only [PyData.bulkAll, wtA]; omega
end
theorem repr_ok {d : PyData} (w : Ws) (h : chk d = true) : reprD w [d] = some (.str d.shown) := by
  obtain ⟨h1, h2, h3, h4, h5⟩ := chk_un h
  have s : SeqAt.shaped d = true := (VB.mk h1 h2 h3).shaped (Nat.le_refl _)
  have b := bulk_wt d h1
  have l := PyData.shown_le_bulk 64 (by decide) d h4
  have z : szOk d.shown.length = true := decide_eq_true (by rw [sizeLine_eq]; omega)
  simp only [reprD, s, h5, z, Bool.and_true, if_true]
theorem chk_facts {d : PyData} (h : chk d = true) : isD d = true ∧ szD d = true ∧ ∀ ds, d = .tuple ds → szOk ds.length = true ∧ ds.all goodE = true ∧ ds.all layE = true := by
  have one : ∀ x : PyData, okV (10 ^ 60) x = true → wt x ≤ 200000 → isD x = true ∧ szD x = true := fun x h1 h2 => ⟨okV_isD h1, by
    cases x with
    | str z =>
      simp only [wt] at h2
      have h' : ascS z = true := by simpa only [okV] using h1
      simp only [szD, szOk_of (show z.length ≤ 10000000 by omega), asc_ok h']
      rfl
    | _ => rfl⟩
  obtain ⟨h1, h2, h3, h4, h5⟩ := chk_un h
  obtain ⟨i1, i2⟩ := one d h1 h2
  refine ⟨i1, i2, fun ds e => ?_⟩
  subst e
  obtain ⟨o1, o2, o3, o4⟩ := (VB.mk h1 h2 h3).un_tup
  have hl := len_wtA ds
  refine ⟨szOk_of (by omega), List.all_eq_true.mpr fun x hx => ?_, List.all_eq_true.mpr fun x hx => ?_⟩
  · have := wtA_mem hx
    have := one x (o1 x hx) (by omega)
    simp only [goodE, this.1, this.2]
    rfl
  · have := o3 x hx
    simp only [layE, okV_lay x (o1 x hx), Bool.true_and]
    exact decide_eq_true (by omega)
theorem ne_same (w : Ws) (a : Str) : neD w (.str a) (.str a) = some (.bool false) := by
  unfold neD
  split
  · rw [eqv_str]; simp
  · simp [strsE]
theorem seven_chk (d : PyData) : chk (seven d) = true := chk_mk ⟨rfl, by simp [seven, wt, wtA], by simp [seven, PyData.depth, PyData.depthAll], rfl, rfl⟩
theorem wO_onT' {α : Type} {Q : α → Ws → Prop} {x : Oc α} : wO Q (Oc.on true x) = wO Q x := rfl
/-- the last loop's round -/
theorem round_ok {s0 s1 s2 s3 s4 s5 a7 a8 a9 a10 a11 a12 : Option PyData} {d : PyData} {w : Ws} (h : chk d = true) {N : Ev → Ws → Prop} {R : PyData → Ws → Prop}
    (q : ∀ b9 b10, N [s0, s1, s2, s3, s4, s5, some d, a7, a8, b9, b10, a11, a12] w) :
    wS N R ((sSeq (sAsg (eCb reprD (aC (eV 6) aN)) (gN 9))
    (sSeq (sAsg (eLst (aC (eCall F_is_integer [] (aC (eV 6) aN)) (aC (eCall F_is_number [] (aC (eV 6) aN)) (aC (eCall F_is_name [] (aC (eV 6) aN)) (aC (eCall F_is_remark [] (aC (eV 6) aN)) (aC (eCall F_is_note [] (aC (eV 6) aN)) aN)))))) (gN 10))
    (sSeq (sAsg (eB addD (eV 10) (eLst (aC (eCall F_is_notes [] (aC (eV 6) aN)) (aC (eCall F_is_place [] (aC (eV 6) aN)) aN)))) (gN 10))
    (sIf (tOr' (tB' (eB neD (eCb reprD (aC (eV 10) aN)) (eCb reprD (aC (eCall F__law_due [] (aC (eV 6) aN)) aN)))) (tB' (eB neD (eCb reprD (aC (eV 6) aN)) (eV 9)))) (sRet (eC (.bool false))) sNil)))) [s0, s1, s2, s3, s4, s5, some d, a7, a8, a9, a10, a11, a12] w) := by
  obtain ⟨f1, f2, f3⟩ := chk_facts h
  have f3' : ∀ ds, d = .tuple ds → szOk ds.length = true ∧ ds.all goodE = true := fun ds e => ⟨(f3 ds e).1, (f3 ds e).2.1⟩
  have rp : ∀ {ρ : Ev}, ρ[6]? = some (some d) → (eCb reprD (aC (eV 6) aN)) ρ w = .ok (.str d.shown) w := fun h6 => of_wO fun Q => by
    rw [wE_Cb, wA_C, wE_V h6, wA_N, repr_ok w h, wO_some]
  have call : ∀ {F : FF} {b : PyData} {ρ : Ev}, ρ[6]? = some (some d) → F [d] w = .ok b w → (eCall F [] (aC (eV 6) aN)) ρ w = .ok b w := fun {F b ρ} h6 hF => of_wO fun Q => by
    rw [wE_Call, wA_C, wE_V h6, wA_N, List.append_nil, hF, wO_ok]
  refine wS_Seq ?_
  rw [wS_AsgE (rp rfl) rfl]
  refine wS_Seq ?_
  rw [wS_Asg, wE_Lst, wA_C, call rfl (is_integer_ok d w f1), wO_ok, wA_C, call rfl (is_number_ok d w f1), wO_ok, wA_C, call rfl (is_name_ok d w f1 f2), wO_ok, wA_C, call rfl (is_remark_ok d w f1 f2), wO_ok, wA_C, call rfl (is_note_ok d w f1 f2), wO_ok, wA_N]
  refine wO_on (szOk_of (by simp only [List.length_cons, List.length_nil]; omega)) ?_
  rw [wO_ok]
  refine wS_Seq ?_
  rw [wS_Asg, wE_B, wE_V rfl, wE_Lst, wA_C, call rfl (is_notes_ok d w f1 f3'), wO_ok, wA_C, call rfl (is_place_ok d w f1 f3'), wO_ok, wA_N]
  refine wO_on (szOk_of (by simp only [List.length_cons, List.length_nil]; omega)) ?_
  rw [wO_ok, add_ll (by simp only [List.length_cons, List.length_nil]; omega), wO_some]
  show wS N R (sIf _ _ _ [s0, s1, s2, s3, s4, s5, some d, a7, a8, some (.str d.shown), some (seven d), a11, a12] w)
  rw [wS_If, wT_Or, wT_B, wE_B, wE_Cb, wA_C, wE_V rfl, wA_N, repr_ok w (seven_chk d), wO_some, wE_Cb, wA_C, call rfl (law_due_ok d w f1 f2 f3), wO_ok, wA_N, repr_ok w (seven_chk d), wO_some, ne_same, wO_some]
  dsimp only [cond_false]
  rw [wT_B, wE_B, rp rfl, wO_ok, wE_V rfl, ne_same, wO_some]
  dsimp only [cond_false]
  rw [wS_Nil]
  exact q _ _
end Tk

set_option Elab.async false
set_option linter.all false
set_option maxRecDepth 100000
set_option maxHeartbeats 4000000
namespace Tk
open PySem L2 Td
def poolL : List PyData := [.str "-a", .str "-zzzzzzzz", .str "=a", .str "=b", .str "a", .str "b", .str "why"]
theorem pool_all : poolL.all (fun d => okV 1 d && decide (wt d ≤ 10) && decide (d.depth ≤ 0) && (match d with | .str z => ascS z && decide (z.length ≤ 9) | _ => false)) = true := by decide +kernel
theorem pool_str {x : PyData} (h : x ∈ poolL) : ∃ z : Str, x = .str z ∧ ascS z = true ∧ z.length ≤ 9 := by
  have := List.all_eq_true.mp pool_all x h
  simp only [Bool.and_eq_true] at this
  cases x with
  | str z =>
    have t := this.2
    simp only [Bool.and_eq_true] at t
    exact ⟨z, rfl, t.1, of_decide_eq_true t.2⟩
  | _ => exact absurd this.2 (by simp)
theorem strs_of : ∀ {ms : List PyData}, (∀ x ∈ ms, x ∈ poolL) → ∃ xs : List Str, strsD ms = some xs ∧ ms = xs.map .str ∧ ∀ z ∈ xs, ascS z = true ∧ z.length ≤ 9
  | [], _ => ⟨[], rfl, rfl, fun z h => by cases h⟩
  | m :: ms, h => by
    obtain ⟨z, rfl, h1, h2⟩ := pool_str (h m List.mem_cons_self)
    obtain ⟨xs, e1, e2, e3⟩ := strs_of fun x hx => h x (List.mem_cons_of_mem _ hx)
    refine ⟨z :: xs, by simp only [strsD, e1, Option.map_some], by rw [e2]; rfl, fun y hy => ?_⟩
    rcases List.mem_cons.mp hy with rfl | hy
    · exact ⟨h1, h2⟩
    · exact e3 y hy
theorem wt_strs : ∀ {xs : List Str}, (∀ z ∈ xs, ascS z = true ∧ z.length ≤ 9) → wtA (xs.map PyData.str) ≤ 10 * xs.length
  | [], _ => Nat.le_refl _
  | x :: xs, h => by
    have h1 := (h x List.mem_cons_self).2
    have h2 := wt_strs fun z hz => h z (List.mem_cons_of_mem x hz)
    simp only [List.map_cons, wtA, wt, List.length_cons]
    omega
theorem ok_strs {xs : List Str} (h : ∀ z ∈ xs, ascS z = true ∧ z.length ≤ 9) : ∀ x ∈ xs.map PyData.str, okV 12 x = true ∧ x.depth + 1 ≤ 1 := fun x hx => by
  obtain ⟨z, hz, rfl⟩ := List.mem_map.mp hx
  exact ⟨by simpa only [okV] using (h z hz).1, by simp [PyData.depth]⟩
theorem vb_tup {xs : List Str} (h : ∀ z ∈ xs, ascS z = true ∧ z.length ≤ 9) (hl : xs.length ≤ 5) : VB 12 60 1 (.tuple (xs.map .str)) :=
  VB.tup (fun x hx => (ok_strs h x hx).1) (by have := wt_strs h; omega) (fun x hx => (ok_strs h x hx).2) (Nat.le_refl _)
theorem vb_lst {xs : List Str} (h : ∀ z ∈ xs, ascS z = true ∧ z.length ≤ 9) (hl : xs.length ≤ 5) : VB 12 60 1 (.list (xs.map .str)) :=
  VB.lst (fun x hx => (ok_strs h x hx).1) (by have := wt_strs h; omega) (fun x hx => (ok_strs h x hx).2) (Nat.le_refl _)
theorem dd_mem : ∀ (xs : List Str) (L : List Str) (z : Str), z ∈ xs.foldl addS L → z ∈ L ∨ z ∈ xs
  | [], L, z, h => .inl h
  | x :: xs, L, z, h => by
    rcases dd_mem xs (addS L x) z h with q | q
    · unfold addS at q
      cases e : decide (x ∈ L) with
      | true => rw [e] at q; exact .inl q
      | false =>
        rw [e] at q
        rcases List.mem_append.mp q with q | q
        · exact .inl q
        · rw [List.mem_singleton.mp q]; exact .inr List.mem_cons_self
    · exact .inr (List.mem_cons_of_mem _ q)
theorem sd_mem {xs : List Str} {z : Str} (h : z ∈ srtS (ddS xs)) : z ∈ xs := by
  rcases dd_mem xs [] z ((srtS_perm _).mem_iff.mp h) with q | q
  · cases q
  · exact q
theorem sd_len (xs : List Str) : (srtS (ddS xs)).length ≤ xs.length := by
  rw [(srtS_perm _).length_eq]
  have := ddS_len xs xs.length (Nat.le_refl _)
  rwa [List.take_length] at this
theorem sos_ok {w : Ws} {ms : List PyData} {xs : List Str} (h : strsD ms = some xs) (hl : xs.length ≤ 5) : sosD w [.list ms] = some (.list ((srtS (ddS xs)).map .str)) := by
  have e : decide (xs.length + 1 < scanBound) = true := decide_eq_true (by unfold scanBound; omega)
  simp only [sosD, lstOf, h, e, if_true]
theorem wt_ints : ∀ {xs : List PyData}, (∀ x ∈ xs, ∃ v : Nat, v < 12 ∧ x = .int (v : Int)) → wtA xs ≤ xs.length
  | [], _ => Nat.le_refl _
  | x :: xs, h => by
    obtain ⟨v, _, rfl⟩ := h x List.mem_cons_self
    have h2 := wt_ints fun z hz => h z (List.mem_cons_of_mem _ hz)
    simp only [wtA, wt, List.length_cons]
    omega
theorem vb_spots {xs : List PyData} (h : ∀ x ∈ xs, ∃ v : Nat, v < 12 ∧ x = .int (v : Int)) (hl : xs.length ≤ 5) : VB 12 60 1 (.tuple xs) :=
  VB.tup (fun x hx => by
    obtain ⟨v, hv, rfl⟩ := h x hx
    simp only [okV]
    exact decide_eq_true (by omega)) (by have := wt_ints h; omega) (fun x hx => by
    obtain ⟨v, hv, rfl⟩ := h x hx
    simp [PyData.depth]) (Nat.le_refl _)
/-- the inner loop: a value, changed once and twice -/
theorem inner_ok {s0 a5 a7 a8 a9 a10 a12 : Option PyData} {d : PyData} {L : List PyData} {w0 w : Ws} {n : Nat} {a11 : Option PyData} (h : VB 12 60 1 d) (hk : 0 < w0.length) (K : Kept w0 0 n w) (hn : n < 900000) (hL : ∀ x ∈ L, chk x = true) (hl : L.length ≤ 100000)
    {N : Ev → Ws → Prop} {R : PyData → Ws → Prop} (q : ∀ L' b11 w', L'.length ≤ L.length + 3 → (∀ x ∈ L', chk x = true) → Kept w0 0 (n + 96) w' → N [s0, some (rf 0), some (.list menuL), some (.list L'), some (.list poolL), a5, some d, a7, a8, a9, a10, b11, a12] w') :
    wS N R ((sSeq (sAsg (eCall (F__law_mutate 8) [] (aC (eV 1) (aC (eV 6) (aC (eV 2) aN)))) (gN 11))
    (sAsg (eB addD (eV 3) (eLst (aC (eV 6) (aC (eV 11) (aC (eCall (F__law_mutate 8) [] (aC (eV 1) (aC (eV 11) (aC (eV 2) aN)))) aN))))) (gN 3))) [s0, some (rf 0), some (.list menuL), some (.list L), some (.list poolL), a5, some d, a7, a8, a9, a10, a11, a12] w) := by
  refine wS_Seq ?_
  rw [wS_Asg, wE_Call, wA_C, wE_V rfl, wA_C, wE_V rfl, wA_C, wE_V rfl, wA_N, List.append_nil]
  refine mut_wp 8 h (by decide) ⟨by decide, by decide⟩ (by decide) (by decide) hk K (by omega) fun d1 w1 v1 K1 => ?_
  dsimp only [List.set_cons_succ, List.set_cons_zero]
  rw [wS_Asg, wE_B, wE_V rfl, wE_Lst, wA_C, wE_V rfl, wA_C, wE_V rfl, wA_C, wE_Call, wA_C, wE_V rfl, wA_C, wE_V rfl, wA_C, wE_V rfl, wA_N, List.append_nil]
  refine mut_wp 8 v1 (by decide) ⟨by decide, by decide⟩ (by decide) (by decide) hk K1 (by omega) fun d2 w2 v2 K2 => ?_
  rw [wA_N]
  refine wO_on (szOk_of (by simp only [List.length_cons, List.length_nil]; omega)) ?_
  rw [wO_ok, add_ll (by simp only [List.length_cons, List.length_nil]; omega), wO_some]
  refine q _ _ _ (by rw [List.length_append]; exact Nat.le_refl _) (fun x hx => ?_) (K2.mono (by omega))
  rcases List.mem_append.mp hx with z | z
  · exact hL x z
  · simp only [List.mem_cons, List.not_mem_nil, or_false] at z
    rcases z with rfl | rfl | rfl
    · exact h.chk (by decide) (by decide) (by decide)
    · exact v1.chk (by decide) (by decide) (by decide)
    · exact v2.chk (by decide) (by decide) (by decide)
theorem rg_at {n j : Nat} {d : PyData} (h : (rgD 0 (n : Int))[j]? = some d) : j < n := by
  have := (List.getElem?_eq_some_iff.mp h).1
  rwa [rgD_len] at this
/-- a turn -/
theorem turn_ok {s0 a5 a6 a7 a8 a9 a10 a11 a12 : Option PyData} {L : List PyData} {w0 w : Ws} {n : Nat} (hk : 0 < w0.length) (K : Kept w0 0 n w) (hn : n < 800000) (hL : ∀ x ∈ L, chk x = true) (hl : L.length ≤ 90000)
    {N : Ev → Ws → Prop} {R : PyData → Ws → Prop} (q : ∀ L' b6 b7 b8 b11 w', L'.length ≤ L.length + 12 → (∀ x ∈ L', chk x = true) → Kept w0 0 (n + 400) w' → N [s0, some (rf 0), some (.list menuL), some (.list L'), some (.list poolL), a5, b6, b7, b8, a9, a10, b11, a12] w') :
    wS N R ((sSeq (sAsg (eLc (iR1 (aC (eCall F__law_draw [] (aC (eV 1) (aC (eC (.int 6)) aN))) aN)) (gN 12) tYs (eB ixD (eV 4) (eCall F__law_draw [] (aC (eV 1) (aC (eC (.int 7)) aN)))) [12]) (gN 7))
    (sSeq (sAsg (eCb tupleD (aC (eLc (iR1 (aC (eCall F__law_draw [] (aC (eV 1) (aC (eC (.int 5)) aN))) aN)) (gN 12) tYs (eCall F__law_draw [] (aC (eV 1) (aC (eC (.int 12)) aN))) [12]) aN)) (gN 8))
    (sFor (iE (eTup (aC (eCb tupleD (aC (eV 7) aN)) (aC (eCb tupleD (aC (eCb sosD (aC (eV 7) aN)) aN)) (aC (eV 7) (aC (eV 8) aN)))))) (gN 6)
    (sSeq (sAsg (eCall (F__law_mutate 8) [] (aC (eV 1) (aC (eV 6) (aC (eV 2) aN)))) (gN 11))
    (sAsg (eB addD (eV 3) (eLst (aC (eV 6) (aC (eV 11) (aC (eCall (F__law_mutate 8) [] (aC (eV 1) (aC (eV 11) (aC (eV 2) aN)))) aN))))) (gN 3)))))) [s0, some (rf 0), some (.list menuL), some (.list L), some (.list poolL), a5, a6, a7, a8, a9, a10, a11, a12] w) := by
  refine wS_Seq ?_
  rw [wS_Asg, wE_Lc, wA_R1, wA_C, wE_Call, wA_C, wE_V rfl, wA_C, wE_C, wA_N, List.append_nil]
  refine draw_w hk K (by omega) (by decide) (by decide) fun v w1 hv K1 => ?_
  rw [wA_N]
  dsimp only
  refine wO_on (c62_of (by omega)) ?_
  rw [wO_ok]
  refine wA_lcL (fun i acc w' => acc.length = i ∧ (∀ x ∈ acc, x ∈ poolL) ∧ Kept w0 0 (n + 1 + i) w') _ 0 w1 [] (by rw [rgD_len, sizeLine_eq]; simp; omega) ⟨rfl, fun x hx => (by cases hx), K1⟩ (fun j d acc w2 hd ⟨e1, e2, K2⟩ => ?_) fun ms w2 ⟨e1, e2, K2⟩ => ?_
  · have hj := rg_at hd
    rw [gN, wO_ok, tYs, wO_ok, cond_true, wE_B, wE_V rfl, wE_Call, wA_C, wE_V rfl, wA_C, wE_C, wA_N, List.append_nil]
    refine draw_w hk K2 (by omega) (by decide) (by decide) fun v2 w3 hv2 K3 => ?_
    have hp : v2 < poolL.length := by show v2 < 7; omega
    refine wO_cond (a := poolL[v2]) (by simp only [ixD, lstOf]; exact atI_nat (List.getElem?_eq_getElem hp)) ⟨by rw [List.length_append, e1]; rfl, fun x hx => ?_, K3.mono (by omega)⟩
    rcases List.mem_append.mp hx with z | z
    · exact e2 x z
    · rw [List.mem_singleton.mp z]; exact List.getElem_mem hp
  rw [rgD_len] at e1 K2
  have hv5 : v ≤ 5 := by omega
  obtain ⟨xs, x1, x2, x3⟩ := strs_of e2
  have xl : xs.length ≤ 5 := by rw [x2, List.length_map] at e1; omega
  dsimp only [List.set_cons_succ, List.set_cons_zero]
  refine wS_Seq ?_
  rw [wS_Asg, wE_Cb, wA_C, wE_Lc, wA_R1, wA_C, wE_Call, wA_C, wE_V rfl, wA_C, wE_C, wA_N, List.append_nil]
  refine draw_w hk K2 (by omega) (by decide) (by decide) fun u w3 hu K3 => ?_
  rw [wA_N]
  dsimp only
  refine wO_on (c62_of (by omega)) ?_
  rw [wO_ok]
  refine wA_lcL (fun i acc w' => acc.length = i ∧ (∀ x ∈ acc, ∃ v : Nat, v < 12 ∧ x = .int (v : Int)) ∧ Kept w0 0 (n + 7 + i) w') _ 0 w3 [] (by rw [rgD_len, sizeLine_eq]; simp; omega) ⟨rfl, fun x hx => (by cases hx), K3.mono (by omega)⟩ (fun j d acc w4 hd ⟨f1, f2, K4⟩ => ?_) fun ss w4 ⟨f1, f2, K4⟩ => ?_
  · have hj := rg_at hd
    rw [gN, wO_ok, tYs, wO_ok, cond_true, wE_Call, wA_C, wE_V rfl, wA_C, wE_C, wA_N, List.append_nil]
    refine draw_w hk K4 (by omega) (by decide) (by decide) fun v2 w5 hv2 K5 => ⟨by rw [List.length_append, f1]; rfl, fun x hx => ?_, K5.mono (by omega)⟩
    rcases List.mem_append.mp hx with z | z
    · exact f2 x z
    · exact ⟨v2, by omega, List.mem_singleton.mp z⟩
  rw [rgD_len] at f1 K4
  have hs5 : ss.length ≤ 5 := by omega
  rw [wA_N, show tupleD w4 [PyData.list ss] = some (.tuple ss) from rfl, wO_some]
  dsimp only [List.set_cons_succ, List.set_cons_zero]
  rw [wS_For, wA_E, wE_Tup, wA_C, wE_Cb, wA_C, wE_V rfl, wA_N, show tupleD w4 [PyData.list ms] = some (.tuple ms) from rfl, wO_some, wA_C, wE_Cb, wA_C, wE_Cb, wA_C, wE_V rfl, wA_N, sos_ok x1 xl, wO_some, wA_N,
    show tupleD w4 [PyData.list ((srtS (ddS xs)).map .str)] = some (.tuple ((srtS (ddS xs)).map .str)) from rfl, wO_some, wA_C, wE_V rfl, wA_C, wE_V rfl, wA_N]
  refine wO_on (szOk_of (by simp only [List.length_cons, List.length_nil]; omega)) ?_
  rw [wO_ok, itD, wO_some]
  have vs : ∀ x ∈ [PyData.tuple ms, .tuple ((srtS (ddS xs)).map .str), .list ms, .tuple ss], VB 12 60 1 x := fun x hx => by
    simp only [List.mem_cons, List.not_mem_nil, or_false] at hx
    rcases hx with rfl | rfl | rfl | rfl
    · rw [x2]; exact vb_tup x3 xl
    · exact vb_tup (fun z hz => x3 z (sd_mem hz)) (Nat.le_trans (sd_len xs) xl)
    · rw [x2]; exact vb_lst x3 xl
    · exact vb_spots f2 hs5
  refine wS_forL (fun i ρ w' => ∃ L' b6 b11, ρ = [s0, some (rf 0), some (.list menuL), some (.list L'), some (.list poolL), a5, b6, some (.list ms), some (.tuple ss), a9, a10, b11, a12] ∧ L'.length ≤ L.length + 3 * i ∧ (∀ x ∈ L', chk x = true) ∧ Kept w0 0 (n + 12 + 96 * i) w') _ 0 _ _
    ⟨L, _, _, rfl, by omega, hL, K4.mono (by omega)⟩ (fun j d ρ w5 hd ⟨L', b6, b11, e, hl', hL', K5⟩ => ?_) fun ρ w5 ⟨L', b6, b11, e, hl', hL', K5⟩ => ?_
  · subst e
    have hj : j < 4 := (List.getElem?_eq_some_iff.mp hd).1
    rw [gN, wO_ok]
    dsimp only [List.set_cons_succ, List.set_cons_zero]
    refine inner_ok (vs d (List.mem_of_getElem? hd)) hk K5 (by omega) hL' (by omega) fun L2 c11 w6 hl2 hL2 K6 => ?_
    exact ⟨L2, _, _, rfl, by omega, hL2, K6.mono (by omega)⟩
  · subst e
    exact q L' _ _ _ _ w5 (by simp only [List.length_cons, List.length_nil] at hl'; omega) hL' (K5.mono (by simp only [List.length_cons, List.length_nil]; omega))
theorem law_w (ns : List Int) (h : ns.length ≤ 63) : wS (fun _ _ => False) (fun d _ => d = .bool true) (b_law (startE 13 [intsD ns]) []) := by
  unfold b_law
  obtain ⟨FX, hFX⟩ : ∃ FX, FX = F__law_fixed_values := ⟨_, rfl⟩
  rw [← hFX]
  rw [show startE 13 [intsD ns] = [some (intsD ns), none, none, none, none, none, none, none, none, none, none, none, none] from rfl]
  have rdr : (eCall F__law_reader [] (aC (eV 0) aN)) [some (intsD ns), none, none, none, none, none, none, none, none, none, none, none, none] [] = .ok (rf 0) [rd ns 0 0 0] := of_wO fun Q => by
    rw [wE_Call, wA_C, wE_V rfl, wA_N, List.append_nil, reader_ok ns h, wO_ok]
  refine wS_Seq ?_
  rw [wS_AsgE rdr rfl]
  have hk : 0 < [rd ns 0 0 0].length := by simp
  have K0 : Kept [rd ns 0 0 0] 0 0 [rd ns 0 0 0] := Kept.start rfl ⟨⟨ns, 0, 0, 0, rfl, h, by decide, by decide, by decide, by decide⟩⟩
  generalize [rd ns 0 0 0] = w0 at hk K0 ⊢
  dsimp only [List.set_cons_succ, List.set_cons_zero]
  refine wS_Seq ?_
  rw [wS_AsgE (d := .list menuL) (w1 := w0) (by kernel_rfl) rfl]
  dsimp only [List.set_cons_succ, List.set_cons_zero]
  refine wS_Seq ?_
  rw [wS_Asg, wE_B, wE_V rfl, wE_Call, wA_N, List.append_nil]
  have fx : ∀ {Q : PyData → Ws → Prop}, (∀ L : List PyData, L.length ≤ 100 → (∀ x ∈ L, chk x = true) → Q (.list L) w0) → wO Q (FX [] w0) := fun q => by rw [hFX]; exact fixed_w w0 q
  clear hFX
  refine fx fun L hl hL => ?_
  rw [add_ll (show menuL.length + L.length ≤ 10000000 by rw [show menuL.length = 13 from rfl]; omega), wO_some]
  dsimp only [List.set_cons_succ, List.set_cons_zero]
  refine wS_Seq ?_
  rw [wS_AsgE (d := .list poolL) (w1 := w0) (by kernel_rfl) rfl]
  dsimp only [List.set_cons_succ, List.set_cons_zero]
  have hL0 : ∀ x ∈ menuL ++ L, chk x = true := fun x hx => by
    rcases List.mem_append.mp hx with z | z
    · exact (menu_vb z).chk (by decide) (by decide) (by decide)
    · exact hL x z
  have hl0 : (menuL ++ L).length ≤ 113 := by rw [List.length_append, show menuL.length = 13 from rfl]; omega
  refine wS_Seq ?_
  rw [wS_For, wA_R1, wA_C, wE_C, wA_N]
  dsimp only
  refine wO_on (c62_of (by decide)) ?_
  rw [wO_ok]
  have r14 : (rgD 0 14).length = 14 := rgD_len 14
  refine wS_forL (fun i ρ w' => ∃ L' a5 a6 a7 a8 a9 a10 a11 a12, ρ = [some (intsD ns), some (rf 0), some (.list menuL), some (.list L'), some (.list poolL), a5, a6, a7, a8, a9, a10, a11, a12] ∧ L'.length ≤ 113 + 12 * i ∧ (∀ x ∈ L', chk x = true) ∧ Kept w0 0 (400 * i) w') _ 0 _ _
    ⟨_, _, _, _, _, _, _, _, _, rfl, by omega, hL0, K0⟩ (fun j d ρ w5 hd ⟨L', a5, a6, a7, a8, a9, a10, a11, a12, e, hl', hL', K5⟩ => ?_) fun ρ w5 ⟨L', a5, a6, a7, a8, a9, a10, a11, a12, e, hl', hL', K5⟩ => ?_
  · subst e
    have hj : j < 14 := by rw [← r14]; exact (List.getElem?_eq_some_iff.mp hd).1
    rw [gN, wO_ok]
    dsimp only [List.set_cons_succ, List.set_cons_zero]
    refine turn_ok hk K5 (by omega) hL' (by omega) fun L2 b6 b7 b8 b11 w6 hl2 hL2 K6 => ?_
    exact ⟨L2, _, _, _, _, _, _, _, _, rfl, by omega, hL2, K6.mono (by omega)⟩
  · subst e
    refine wS_Seq ?_
    rw [wS_For, wA_E, wE_V rfl, itD, wO_some]
    refine wS_forL (fun i ρ w' => w' = w5 ∧ ∃ a5 a6 a7 a8 a9 a10 a11 a12, ρ = [some (intsD ns), some (rf 0), some (.list menuL), some (.list L'), some (.list poolL), a5, a6, a7, a8, a9, a10, a11, a12]) _ 0 _ _
      ⟨rfl, _, _, _, _, _, _, _, _, rfl⟩ (fun j d ρ w6 hd ⟨ew, a5, a6, a7, a8, a9, a10, a11, a12, e⟩ => ?_) fun ρ w6 _ => ?_
    · subst e ew
      rw [gN, wO_ok]
      dsimp only [List.set_cons_succ, List.set_cons_zero]
      refine round_ok (hL' d (List.mem_of_getElem? hd)) fun b9 b10 => ?_
      exact ⟨rfl, _, _, _, _, _, _, _, _, rfl⟩
    · rw [wS_Ret, wE_C]
theorem main : ∀ ns : List Int, ns.length ≤ 63 → ∃ wf, F_law [intsD ns] [] = .ok (.bool true) wf := by
  intro ns h
  have k := law_w ns h
  unfold F_law defF
  rw [if_pos (show [intsD ns].length = 1 from rfl)]
  generalize b_law (startE 13 [intsD ns]) [] = o at k
  cases o with
  | rt d w1 =>
    rw [wS_rt] at k
    subst k
    simp only [leave]
    split
    · exact ⟨_, rfl⟩
    · exact ⟨_, rfl⟩
  | nx ρ w1 => rw [wS_nx] at k; exact k.elim
  | _ => cases k
end Tk

set_option Elab.async false
set_option linter.all false
set_option maxRecDepth 100000
set_option maxHeartbeats 4000000
namespace Tk
open PySem L2 PySem.Spec PyProof.Rows Td
theorem all_mk {l : PySem.W.OpenLaw} {w : World} {K : PySem.W.Frag} {h : Heap} {mg : Str → Option Value} {fa : Addr} (X : K.In h) (G : h.Ns mainGlobals mg) (hfa : mg "law" = some (.ref fa))
    {f0 : Addr} {od0 an0 : Option Addr} {sl0 : Array (Option Value)} {oc0 kV0 dc0 pm0 cd0 ct0 : Value}
    (a0 : PySem.W.nsIn K mainGlobals "is_integer" = some (some (.ref f0)))
    (l0 : K.lookup f0 = some ⟨oc0, od0, .func (PySem.W.fnOf "is_integer" "is_integer" (defArgs s_is_integer) (defBody s_is_integer) (defScope s_is_integer) .none kV0 dc0 pm0 an0 cd0 ct0), sl0⟩)
    (c0 : PySem.W.codeIn K cd0 "is_integer" = true) (k0 : PySem.W.keepIn K (.ref f0) = true)
    {f1 : Addr} {od1 an1 : Option Addr} {sl1 : Array (Option Value)} {oc1 kV1 dc1 pm1 cd1 ct1 : Value}
    (a1 : PySem.W.nsIn K mainGlobals "is_number" = some (some (.ref f1)))
    (l1 : K.lookup f1 = some ⟨oc1, od1, .func (PySem.W.fnOf "is_number" "is_number" (defArgs s_is_number) (defBody s_is_number) (defScope s_is_number) .none kV1 dc1 pm1 an1 cd1 ct1), sl1⟩)
    (c1 : PySem.W.codeIn K cd1 "is_number" = true) (k1 : PySem.W.keepIn K (.ref f1) = true)
    {f2 : Addr} {od2 an2 : Option Addr} {sl2 : Array (Option Value)} {oc2 kV2 dc2 pm2 cd2 ct2 : Value}
    (a2 : PySem.W.nsIn K mainGlobals "is_name" = some (some (.ref f2)))
    (l2 : K.lookup f2 = some ⟨oc2, od2, .func (PySem.W.fnOf "is_name" "is_name" (defArgs s_is_name) (defBody s_is_name) (defScope s_is_name) .none kV2 dc2 pm2 an2 cd2 ct2), sl2⟩)
    (c2 : PySem.W.codeIn K cd2 "is_name" = true) (k2 : PySem.W.keepIn K (.ref f2) = true)
    {f3 : Addr} {od3 an3 : Option Addr} {sl3 : Array (Option Value)} {oc3 kV3 dc3 pm3 cd3 ct3 : Value}
    (a3 : PySem.W.nsIn K mainGlobals "is_remark" = some (some (.ref f3)))
    (l3 : K.lookup f3 = some ⟨oc3, od3, .func (PySem.W.fnOf "is_remark" "is_remark" (defArgs s_is_remark) (defBody s_is_remark) (defScope s_is_remark) .none kV3 dc3 pm3 an3 cd3 ct3), sl3⟩)
    (c3 : PySem.W.codeIn K cd3 "is_remark" = true) (k3 : PySem.W.keepIn K (.ref f3) = true)
    {f4 : Addr} {od4 an4 : Option Addr} {sl4 : Array (Option Value)} {oc4 kV4 dc4 pm4 cd4 ct4 : Value}
    (a4 : PySem.W.nsIn K mainGlobals "is_note" = some (some (.ref f4)))
    (l4 : K.lookup f4 = some ⟨oc4, od4, .func (PySem.W.fnOf "is_note" "is_note" (defArgs s_is_note) (defBody s_is_note) (defScope s_is_note) .none kV4 dc4 pm4 an4 cd4 ct4), sl4⟩)
    (c4 : PySem.W.codeIn K cd4 "is_note" = true) (k4 : PySem.W.keepIn K (.ref f4) = true)
    {f5 : Addr} {od5 an5 : Option Addr} {sl5 : Array (Option Value)} {oc5 kV5 dc5 pm5 cd5 ct5 : Value}
    (a5 : PySem.W.nsIn K mainGlobals "is_ascending" = some (some (.ref f5)))
    (l5 : K.lookup f5 = some ⟨oc5, od5, .func (PySem.W.fnOf "is_ascending" "is_ascending" (defArgs s_is_ascending) (defBody s_is_ascending) (defScope s_is_ascending) .none kV5 dc5 pm5 an5 cd5 ct5), sl5⟩)
    (c5 : PySem.W.codeIn K cd5 "is_ascending" = true) (k5 : PySem.W.keepIn K (.ref f5) = true)
    {f6 : Addr} {od6 an6 : Option Addr} {sl6 : Array (Option Value)} {oc6 kV6 dc6 pm6 cd6 ct6 : Value}
    (a6 : PySem.W.nsIn K mainGlobals "is_notes" = some (some (.ref f6)))
    (l6 : K.lookup f6 = some ⟨oc6, od6, .func (PySem.W.fnOf "is_notes" "is_notes" (defArgs s_is_notes) (defBody s_is_notes) (defScope s_is_notes) .none kV6 dc6 pm6 an6 cd6 ct6), sl6⟩)
    (c6 : PySem.W.codeIn K cd6 "is_notes" = true) (k6 : PySem.W.keepIn K (.ref f6) = true)
    {f7 : Addr} {od7 an7 : Option Addr} {sl7 : Array (Option Value)} {oc7 kV7 dc7 pm7 cd7 ct7 : Value}
    (a7 : PySem.W.nsIn K mainGlobals "is_place" = some (some (.ref f7)))
    (l7 : K.lookup f7 = some ⟨oc7, od7, .func (PySem.W.fnOf "is_place" "is_place" (defArgs s_is_place) (defBody s_is_place) (defScope s_is_place) .none kV7 dc7 pm7 an7 cd7 ct7), sl7⟩)
    (c7 : PySem.W.codeIn K cd7 "is_place" = true) (k7 : PySem.W.keepIn K (.ref f7) = true)
    {f8 : Addr} {od8 an8 : Option Addr} {sl8 : Array (Option Value)} {oc8 kV8 dc8 pm8 cd8 ct8 : Value}
    (a8 : PySem.W.nsIn K mainGlobals "_law_reader" = some (some (.ref f8)))
    (l8 : K.lookup f8 = some ⟨oc8, od8, .func (PySem.W.fnOf "_law_reader" "_law_reader" (defArgs s__law_reader) (defBody s__law_reader) (defScope s__law_reader) .none kV8 dc8 pm8 an8 cd8 ct8), sl8⟩)
    (c8 : PySem.W.codeIn K cd8 "_law_reader" = true) (k8 : PySem.W.keepIn K (.ref f8) = true)
    {f9 : Addr} {od9 an9 : Option Addr} {sl9 : Array (Option Value)} {oc9 kV9 dc9 pm9 cd9 ct9 : Value}
    (a9 : PySem.W.nsIn K mainGlobals "_law_draw" = some (some (.ref f9)))
    (l9 : K.lookup f9 = some ⟨oc9, od9, .func (PySem.W.fnOf "_law_draw" "_law_draw" (defArgs s__law_draw) (defBody s__law_draw) (defScope s__law_draw) .none kV9 dc9 pm9 an9 cd9 ct9), sl9⟩)
    (c9 : PySem.W.codeIn K cd9 "_law_draw" = true) (k9 : PySem.W.keepIn K (.ref f9) = true)
    {f10 : Addr} {od10 an10 : Option Addr} {sl10 : Array (Option Value)} {oc10 kV10 dc10 pm10 cd10 ct10 : Value}
    (a10 : PySem.W.nsIn K mainGlobals "_law_mutate" = some (some (.ref f10)))
    (l10 : K.lookup f10 = some ⟨oc10, od10, .func (PySem.W.fnOf "_law_mutate" "_law_mutate" (defArgs s__law_mutate) (defBody s__law_mutate) (defScope s__law_mutate) .none kV10 dc10 pm10 an10 cd10 ct10), sl10⟩)
    (c10 : PySem.W.codeIn K cd10 "_law_mutate" = true) (k10 : PySem.W.keepIn K (.ref f10) = true)
    {f11 : Addr} {od11 an11 : Option Addr} {sl11 : Array (Option Value)} {oc11 kV11 dc11 pm11 cd11 ct11 : Value}
    (a11 : PySem.W.nsIn K mainGlobals "_law_is_number" = some (some (.ref f11)))
    (l11 : K.lookup f11 = some ⟨oc11, od11, .func (PySem.W.fnOf "_law_is_number" "_law_is_number" (defArgs s__law_is_number) (defBody s__law_is_number) (defScope s__law_is_number) .none kV11 dc11 pm11 an11 cd11 ct11), sl11⟩)
    (c11 : PySem.W.codeIn K cd11 "_law_is_number" = true) (k11 : PySem.W.keepIn K (.ref f11) = true)
    {f12 : Addr} {od12 an12 : Option Addr} {sl12 : Array (Option Value)} {oc12 kV12 dc12 pm12 cd12 ct12 : Value}
    (a12 : PySem.W.nsIn K mainGlobals "_law_is_name" = some (some (.ref f12)))
    (l12 : K.lookup f12 = some ⟨oc12, od12, .func (PySem.W.fnOf "_law_is_name" "_law_is_name" (defArgs s__law_is_name) (defBody s__law_is_name) (defScope s__law_is_name) .none kV12 dc12 pm12 an12 cd12 ct12), sl12⟩)
    (c12 : PySem.W.codeIn K cd12 "_law_is_name" = true) (k12 : PySem.W.keepIn K (.ref f12) = true)
    {f13 : Addr} {od13 an13 : Option Addr} {sl13 : Array (Option Value)} {oc13 kV13 dc13 pm13 cd13 ct13 : Value}
    (a13 : PySem.W.nsIn K mainGlobals "_law_is_note" = some (some (.ref f13)))
    (l13 : K.lookup f13 = some ⟨oc13, od13, .func (PySem.W.fnOf "_law_is_note" "_law_is_note" (defArgs s__law_is_note) (defBody s__law_is_note) (defScope s__law_is_note) .none kV13 dc13 pm13 an13 cd13 ct13), sl13⟩)
    (c13 : PySem.W.codeIn K cd13 "_law_is_note" = true) (k13 : PySem.W.keepIn K (.ref f13) = true)
    {f14 : Addr} {od14 an14 : Option Addr} {sl14 : Array (Option Value)} {oc14 kV14 dc14 pm14 cd14 ct14 : Value}
    (a14 : PySem.W.nsIn K mainGlobals "_law_rises" = some (some (.ref f14)))
    (l14 : K.lookup f14 = some ⟨oc14, od14, .func (PySem.W.fnOf "_law_rises" "_law_rises" (defArgs s__law_rises) (defBody s__law_rises) (defScope s__law_rises) .none kV14 dc14 pm14 an14 cd14 ct14), sl14⟩)
    (c14 : PySem.W.codeIn K cd14 "_law_rises" = true) (k14 : PySem.W.keepIn K (.ref f14) = true)
    {f15 : Addr} {od15 an15 : Option Addr} {sl15 : Array (Option Value)} {oc15 kV15 dc15 pm15 cd15 ct15 : Value}
    (a15 : PySem.W.nsIn K mainGlobals "_law_are_notes" = some (some (.ref f15)))
    (l15 : K.lookup f15 = some ⟨oc15, od15, .func (PySem.W.fnOf "_law_are_notes" "_law_are_notes" (defArgs s__law_are_notes) (defBody s__law_are_notes) (defScope s__law_are_notes) .none kV15 dc15 pm15 an15 cd15 ct15), sl15⟩)
    (c15 : PySem.W.codeIn K cd15 "_law_are_notes" = true) (k15 : PySem.W.keepIn K (.ref f15) = true)
    {f16 : Addr} {od16 an16 : Option Addr} {sl16 : Array (Option Value)} {oc16 kV16 dc16 pm16 cd16 ct16 : Value}
    (a16 : PySem.W.nsIn K mainGlobals "_law_due" = some (some (.ref f16)))
    (l16 : K.lookup f16 = some ⟨oc16, od16, .func (PySem.W.fnOf "_law_due" "_law_due" (defArgs s__law_due) (defBody s__law_due) (defScope s__law_due) .none kV16 dc16 pm16 an16 cd16 ct16), sl16⟩)
    (c16 : PySem.W.codeIn K cd16 "_law_due" = true) (k16 : PySem.W.keepIn K (.ref f16) = true)
    {f17 : Addr} {od17 an17 : Option Addr} {sl17 : Array (Option Value)} {oc17 kV17 dc17 pm17 cd17 ct17 : Value}
    (a17 : PySem.W.nsIn K mainGlobals "_law_fixed_values" = some (some (.ref f17)))
    (l17 : K.lookup f17 = some ⟨oc17, od17, .func (PySem.W.fnOf "_law_fixed_values" "_law_fixed_values" (defArgs s__law_fixed_values) (defBody s__law_fixed_values) (defScope s__law_fixed_values) .none kV17 dc17 pm17 an17 cd17 ct17), sl17⟩)
    (c17 : PySem.W.codeIn K cd17 "_law_fixed_values" = true) (k17 : PySem.W.keepIn K (.ref f17) = true)
    {f18 : Addr} {od18 an18 : Option Addr} {sl18 : Array (Option Value)} {oc18 kV18 dc18 pm18 cd18 ct18 : Value}
    (a18 : PySem.W.nsIn K mainGlobals "law" = some (some (.ref f18)))
    (l18 : K.lookup f18 = some ⟨oc18, od18, .func (PySem.W.fnOf "law" "law" (defArgs s_law) (defBody s_law) (defScope s_law) .none kV18 dc18 pm18 an18 cd18 ct18), sl18⟩)
    (c18 : PySem.W.codeIn K cd18 "law" = true) (k18 : PySem.W.keepIn K (.ref f18) = true)
    (z_all : PySem.W.nsIn K mainGlobals "all" = some none)
    (z_bool : PySem.W.nsIn K mainGlobals "bool" = some none)
    (z_int : PySem.W.nsIn K mainGlobals "int" = some none)
    (z_isinstance : PySem.W.nsIn K mainGlobals "isinstance" = some none)
    (z_len : PySem.W.nsIn K mainGlobals "len" = some none)
    (z_list : PySem.W.nsIn K mainGlobals "list" = some none)
    (z_range : PySem.W.nsIn K mainGlobals "range" = some none)
    (z_repr : PySem.W.nsIn K mainGlobals "repr" = some none)
    (z_set : PySem.W.nsIn K mainGlobals "set" = some none)
    (z_sorted : PySem.W.nsIn K mainGlobals "sorted" = some none)
    (z_str : PySem.W.nsIn K mainGlobals "str" = some none)
    (z_tuple : PySem.W.nsIn K mainGlobals "tuple" = some none)
    (z_zip : PySem.W.nsIn K mainGlobals "zip" = some none)
    {t_LETTERS : Tok} (y_LETTERS : PySem.W.nsIn K mainGlobals "LETTERS" = some (some (.str "abcdefghijklmnopqrstuvwxyz" t_LETTERS)))
    {t_LONGEST_NAME : Tok} (y_LONGEST_NAME : PySem.W.nsIn K mainGlobals "LONGEST_NAME" = some (some (.int 8 t_LONGEST_NAME)))
    {t_SILENCE : Tok} (y_SILENCE : PySem.W.nsIn K mainGlobals "SILENCE" = some (some (.str "-" t_SILENCE)))
    {t_WIDE : Tok} (y_WIDE : PySem.W.nsIn K mainGlobals "WIDE" = some (some (.str "=" t_WIDE)))
    : ∃ fd : FuncData, (∀ (s : Shared) (v : Value), BindsTo s fd ⟨[v], []⟩ [("_law_script", v)]) ∧ ∀ base : Heap, K.In base → base.Ns mainGlobals mg → FnG l.prog w K mg base 10 fa fd ["_law_script"] F_law := by
  have e := hfa.symm.trans (PySem.W.mg_of X G a18)
  cases e
  have main : ∀ T : Tx K mg, T.d_law.f = fa → T.d_law.fd = PySem.W.fnOf "law" "law" (defArgs s_law) (defBody s_law) (defScope s_law) .none kV18 dc18 pm18 an18 cd18 ct18 → ∃ fd : FuncData, (∀ (s : Shared) (v : Value), BindsTo s fd ⟨[v], []⟩ [("_law_script", v)]) ∧ ∀ base : Heap, K.In base → base.Ns mainGlobals mg → FnG l.prog w K mg base 10 fa fd ["_law_script"] F_law := by
    intro T e1 e2
    refine ⟨T.d_law.fd, fun s v => ?_, fun base _ _ => ?_⟩
    · rw [e2]; exact .of_eq rfl
    · rw [← e1]; exact (G_law T).fn
  exact main {
    d_is_integer := defAt_mk X G a0 l0 c0 k0 fun _ _ _ _ _ _ us hl => match us, hl with | [_], _ => rfl
    d_is_number := defAt_mk X G a1 l1 c1 k1 fun _ _ _ _ _ _ us hl => match us, hl with | [_], _ => rfl
    d_is_name := defAt_mk X G a2 l2 c2 k2 fun _ _ _ _ _ _ us hl => match us, hl with | [_], _ => rfl
    d_is_remark := defAt_mk X G a3 l3 c3 k3 fun _ _ _ _ _ _ us hl => match us, hl with | [_], _ => rfl
    d_is_note := defAt_mk X G a4 l4 c4 k4 fun _ _ _ _ _ _ us hl => match us, hl with | [_], _ => rfl
    d_is_ascending := defAt_mk X G a5 l5 c5 k5 fun _ _ _ _ _ _ us hl => match us, hl with | [_], _ => rfl
    d_is_notes := defAt_mk X G a6 l6 c6 k6 fun _ _ _ _ _ _ us hl => match us, hl with | [_], _ => rfl
    d_is_place := defAt_mk X G a7 l7 c7 k7 fun _ _ _ _ _ _ us hl => match us, hl with | [_], _ => rfl
    d__law_reader := defAt_mk X G a8 l8 c8 k8 fun _ _ _ _ _ _ us hl => match us, hl with | [_], _ => rfl
    d__law_draw := defAt_mk X G a9 l9 c9 k9 fun _ _ _ _ _ _ us hl => match us, hl with | [_, _], _ => rfl
    d__law_mutate := defAt_mk X G a10 l10 c10 k10 fun _ _ _ _ _ _ us hl => match us, hl with | [_, _, _], _ => rfl
    d__law_is_number := defAt_mk X G a11 l11 c11 k11 fun _ _ _ _ _ _ us hl => match us, hl with | [_], _ => rfl
    d__law_is_name := defAt_mk X G a12 l12 c12 k12 fun _ _ _ _ _ _ us hl => match us, hl with | [_], _ => rfl
    d__law_is_note := defAt_mk X G a13 l13 c13 k13 fun _ _ _ _ _ _ us hl => match us, hl with | [_], _ => rfl
    d__law_rises := defAt_mk X G a14 l14 c14 k14 fun _ _ _ _ _ _ us hl => match us, hl with | [_], _ => rfl
    d__law_are_notes := defAt_mk X G a15 l15 c15 k15 fun _ _ _ _ _ _ us hl => match us, hl with | [_], _ => rfl
    d__law_due := defAt_mk X G a16 l16 c16 k16 fun _ _ _ _ _ _ us hl => match us, hl with | [_], _ => rfl
    d__law_fixed_values := defAt_mk X G a17 l17 c17 k17 fun _ _ _ _ _ _ us hl => match us, hl with | [], _ => rfl
    d_law := defAt_mk X G a18 l18 c18 k18 fun _ _ _ _ _ _ us hl => match us, hl with | [_], _ => rfl
    b_all := PySem.W.mg_none_of X G z_all
    b_bool := PySem.W.mg_none_of X G z_bool
    b_int := PySem.W.mg_none_of X G z_int
    b_isinstance := PySem.W.mg_none_of X G z_isinstance
    b_len := PySem.W.mg_none_of X G z_len
    b_list := PySem.W.mg_none_of X G z_list
    b_range := PySem.W.mg_none_of X G z_range
    b_repr := PySem.W.mg_none_of X G z_repr
    b_set := PySem.W.mg_none_of X G z_set
    b_sorted := PySem.W.mg_none_of X G z_sorted
    b_str := PySem.W.mg_none_of X G z_str
    b_tuple := PySem.W.mg_none_of X G z_tuple
    b_zip := PySem.W.mg_none_of X G z_zip
    c_LETTERS := ⟨_, PySem.W.mg_of X G y_LETTERS⟩
    c_LONGEST_NAME := ⟨_, PySem.W.mg_of X G y_LONGEST_NAME⟩
    c_SILENCE := ⟨_, PySem.W.mg_of X G y_SILENCE⟩
    c_WIDE := ⟨_, PySem.W.mg_of X G y_WIDE⟩
  } rfl rfl
end Tk
open PySem PySem.W PyProof.Rows
set_option maxRecDepth 100000 in
set_option maxHeartbeats 0 in
theorem PySem.Challenge.cw_tidyrules_k01_kinds_of_values_holds : PySem.Challenge.rw_tidyrules_k01_kinds_of_values.Holds := by
  w_on; o_law; k_head; (case hw => w_witness2)
  k_fill
  refine Td.walkG (l := PySem.Challenge.rw_tidyrules_k01_kinds_of_values) (n := 63) (k := 10) (x := "_law_script") (gf := Tk.F_law) rfl (by decide) rfl ⟨rfl, by decide, by decide⟩ (fun w h Y => PySem.W.kIn_of Y) ?F Tk.main
  case F =>
    intro w mg fa h KX G hmg
    refine' Tk.all_mk KX G hmg ?a0 ?l0 ?c0 ?k0 ?a1 ?l1 ?c1 ?k1 ?a2 ?l2 ?c2 ?k2 ?a3 ?l3 ?c3 ?k3 ?a4 ?l4 ?c4 ?k4 ?a5 ?l5 ?c5 ?k5 ?a6 ?l6 ?c6 ?k6 ?a7 ?l7 ?c7 ?k7 ?a8 ?l8 ?c8 ?k8 ?a9 ?l9 ?c9 ?k9 ?a10 ?l10 ?c10 ?k10 ?a11 ?l11 ?c11 ?k11 ?a12 ?l12 ?c12 ?k12 ?a13 ?l13 ?c13 ?k13 ?a14 ?l14 ?c14 ?k14 ?a15 ?l15 ?c15 ?k15 ?a16 ?l16 ?c16 ?k16 ?a17 ?l17 ?c17 ?k17 ?a18 ?l18 ?c18 ?k18 ?z_all ?z_bool ?z_int ?z_isinstance ?z_len ?z_list ?z_range ?z_repr ?z_set ?z_sorted ?z_str ?z_tuple ?z_zip ?y_LETTERS ?y_LONGEST_NAME ?y_SILENCE ?y_WIDE
    (case a0 => k_is)
    (case l0 => k_is)
    (case c0 => k_is)
    (case k0 => k_is)
    (case a1 => k_is)
    (case l1 => k_is)
    (case c1 => k_is)
    (case k1 => k_is)
    (case a2 => k_is)
    (case l2 => k_is)
    (case c2 => k_is)
    (case k2 => k_is)
    (case a3 => k_is)
    (case l3 => k_is)
    (case c3 => k_is)
    (case k3 => k_is)
    (case a4 => k_is)
    (case l4 => k_is)
    (case c4 => k_is)
    (case k4 => k_is)
    (case a5 => k_is)
    (case l5 => k_is)
    (case c5 => k_is)
    (case k5 => k_is)
    (case a6 => k_is)
    (case l6 => k_is)
    (case c6 => k_is)
    (case k6 => k_is)
    (case a7 => k_is)
    (case l7 => k_is)
    (case c7 => k_is)
    (case k7 => k_is)
    (case a8 => k_is)
    (case l8 => k_is)
    (case c8 => k_is)
    (case k8 => k_is)
    (case a9 => k_is)
    (case l9 => k_is)
    (case c9 => k_is)
    (case k9 => k_is)
    (case a10 => k_is)
    (case l10 => k_is)
    (case c10 => k_is)
    (case k10 => k_is)
    (case a11 => k_is)
    (case l11 => k_is)
    (case c11 => k_is)
    (case k11 => k_is)
    (case a12 => k_is)
    (case l12 => k_is)
    (case c12 => k_is)
    (case k12 => k_is)
    (case a13 => k_is)
    (case l13 => k_is)
    (case c13 => k_is)
    (case k13 => k_is)
    (case a14 => k_is)
    (case l14 => k_is)
    (case c14 => k_is)
    (case k14 => k_is)
    (case a15 => k_is)
    (case l15 => k_is)
    (case c15 => k_is)
    (case k15 => k_is)
    (case a16 => k_is)
    (case l16 => k_is)
    (case c16 => k_is)
    (case k16 => k_is)
    (case a17 => k_is)
    (case l17 => k_is)
    (case c17 => k_is)
    (case k17 => k_is)
    (case a18 => k_is)
    (case l18 => k_is)
    (case c18 => k_is)
    (case k18 => k_is)
    (case z_all => k_is)
    (case z_bool => k_is)
    (case z_int => k_is)
    (case z_isinstance => k_is)
    (case z_len => k_is)
    (case z_list => k_is)
    (case z_range => k_is)
    (case z_repr => k_is)
    (case z_set => k_is)
    (case z_sorted => k_is)
    (case z_str => k_is)
    (case z_tuple => k_is)
    (case z_zip => k_is)
    (case y_LETTERS => k_is)
    (case y_LONGEST_NAME => k_is)
    (case y_SILENCE => k_is)
    (case y_WIDE => k_is)

