import PyProof.Rows.All
import Wide.All
import OpenK.AllK
import Wide.FinOn
import HandS.ForMost
import HandS.ForExc
import HandS.TupAny
import HandS.TupMul
import HandS.Deep
import HandS.IsInst
import HandS.Walk
import HandS.Zip
import HandS.SetFor
import PyProof.Rows.SortStr
import PyProof.Rows.SortShellAny
import HandS.Strs
import HandS.Style
import PyProof.NeKinds
import HandS.FStr
import HandS.RaiseMore
import HandS.Defaults
import HandS.MakeKwOnly
import PyProof.Draws
import PyProof.EnumMake
import PyProof.Rows.ListMulArg
import KE.GoesMore
import PySem.Challenge.RW_tidyrules_k18_patterns_written
set_option Elab.async false
set_option linter.all false
set_option maxRecDepth 100000
set_option maxHeartbeats 4000000
/-! Td: readings as functions over data (PyData) and a store of objects that change. -/
namespace Td
open PySem L2

/-- the store's object l, as a datum -/
abbrev rf (l : Nat) : PyData := .dict [(.int (l : Int), .none)]

/-- frozen heap F, what others hold and change P, addresses of the store μ, its size n -/
structure Gd where
  K : PySem.W.Frag
  F : Hp
  P : Hp
  μ : Nat → Addr
  n : Nat

mutual
inductive Dq (g : Gd) : V → PyData → Prop
  | non : Dq g .non .none
  | bl (b : Bool) : Dq g (.bl b) (.bool b)
  | int (i : Int) : Dq g (.int i) (.int i)
  | str (x : Str) : Dq g (.str x) (.str x)
  | lst {a : Addr} {xs : List V} {ds : List PyData} : SqL g.K g.F a xs → DqA g xs ds → Dq g (.ref a) (.list ds)
  | tup {a : Addr} {xs : List V} {ds : List PyData} : SqT g.K g.F a xs → DqA g xs ds → Dq g (.ref a) (.tuple ds)
  | ref {l : Nat} : l < g.n → Dq g (.ref (g.μ l)) (rf l)
inductive DqA (g : Gd) : List V → List PyData → Prop
  | nil : DqA g [] []
  | cons {v : V} {vs : List V} {d : PyData} {ds : List PyData} : Dq g v d → DqA g vs ds → DqA g (v :: vs) (d :: ds)
end

/-- what stands in the store -/
inductive Ob where
  | lst (xs : List PyData)
  | dK (kvs : List (Key × PyData))
  | ins (c : Str) (fs : List (Str × PyData))
  | dead

abbrev Ws := List Ob

/-- the class of the name c stands at C -/
def ClsAt (K : PySem.W.Frag) (c : Str) (C : Addr) : Prop := PySem.W.nsIn K mainGlobals c = some (some (.ref C))
/-- pairs of a key and a value -/
def KvR {κ : Type} (g : Gd) : List (κ × V) → List (κ × PyData) → Prop := Paired fun p q => p.1 = q.1 ∧ Dq g p.2 q.2

def ObR (g : Gd) (H : Hp) (a : Addr) : Ob → Prop
  | .lst ds => g.F a = none ∧ ∃ xs, H a = some (.lst xs) ∧ DqA g xs ds
  | .dK kvs => g.F a = none ∧ ∃ ks, H a = some (.dK ks) ∧ KvR g ks kvs
  | .ins c fs => g.F a = none ∧ ∃ dx gs, (∃ C, ClsAt g.K c C ∧ H a = some (.ins C dx gs)) ∧ H dx = some (.own a) ∧ g.F dx = none ∧ KvR g gs fs
  | .dead => ∃ o, H a = some o

structure Rp (g : Gd) (H : Hp) (w : Ws) : Prop where
  fro : ∀ a o, g.F a = some o → H a = some o
  len : g.n = w.length
  cell : ∀ l ob, w[l]? = some ob → ObR g H (g.μ l) ob
  inj : ∀ l m, l < g.n → m < g.n → g.μ l = g.μ m → l = m
  pin : ∀ a o, g.P a = some o → H a = some o ∧ g.F a = none ∧ ∀ l, l < g.n → g.μ l ≠ a

/-- the ground grows -/
structure Xt0 (g g' : Gd) : Prop where
  k : g'.K = g.K
  ex : ∀ a o, g.F a = some o → g'.F a = some o
  at_ : ∀ l, l < g.n → g'.μ l = g.μ l
  le : g.n ≤ g'.n
structure Xt (g g' : Gd) : Prop extends Xt0 g g' where
  p : g'.P = g.P
instance {g g' : Gd} : Coe (Xt g g') (Xt0 g g') := ⟨Xt.toXt0⟩

theorem Xt.refl (g : Gd) : Xt g g := ⟨⟨rfl, fun _ _ h => h, fun _ _ => rfl, Nat.le_refl _⟩, rfl⟩
theorem Xt0.trans {g g1 g2 : Gd} (a : Xt0 g g1) (b : Xt0 g1 g2) : Xt0 g g2 :=
  ⟨b.k.trans a.k, fun x o h => b.ex x o (a.ex x o h), fun l h => (b.at_ l (Nat.lt_of_lt_of_le h a.le)).trans (a.at_ l h), Nat.le_trans a.le b.le⟩
theorem Xt.trans {g g1 g2 : Gd} (a : Xt g g1) (b : Xt g1 g2) : Xt g g2 := ⟨a.toXt0.trans b.toXt0, b.p.trans a.p⟩

theorem Xt0.rd {g g' : Gd} (x : Xt0 g g') {a : Addr} {u : HO} (h : Rd g.F a u) : Rd g'.F a u := by
  rcases h with h | ⟨o, h⟩
  · exact .inl (x.ex _ _ h)
  · exact .inr ⟨o, x.ex _ _ h⟩
theorem Xt0.sqL {g g' : Gd} (x : Xt0 g g') {a : Addr} {xs : List V} (h : SqL g.K g.F a xs) : SqL g'.K g'.F a xs := by
  rw [x.k]
  rcases h with h | h
  · exact .inl (x.rd h)
  · exact .inr h
theorem Xt0.sqT {g g' : Gd} (x : Xt0 g g') {a : Addr} {xs : List V} (h : SqT g.K g.F a xs) : SqT g'.K g'.F a xs := by
  rw [x.k]
  rcases h with h | h
  · exact .inl (x.rd h)
  · exact .inr h

mutual
theorem Dq.mono {g g' : Gd} (x : Xt0 g g') : ∀ (d : PyData) (v : V), Dq g v d → Dq g' v d
  | .none, _, h => by cases h; exact .non
  | .bool _, _, h => by cases h; exact .bl _
  | .int _, _, h => by cases h; exact .int _
  | .str _, _, h => by cases h; exact .str _
  | .list ds, _, h => by
    cases h with
    | lst a b => exact .lst (x.sqL a) (DqA.mono x ds _ b)
  | .tuple ds, _, h => by
    cases h with
    | tup a b => exact .tup (x.sqT a) (DqA.mono x ds _ b)
  | .dict _, _, h => by
    cases h with
    | ref hl =>
      rw [← x.at_ _ hl]
      exact .ref (Nat.lt_of_lt_of_le hl x.le)
theorem DqA.mono {g g' : Gd} (x : Xt0 g g') : ∀ (ds : List PyData) (vs : List V), DqA g vs ds → DqA g' vs ds
  | [], _, h => by cases h; exact .nil
  | d :: ds, _, h => by
    cases h with
    | cons a b => exact .cons (Dq.mono x d _ a) (DqA.mono x ds _ b)
end

theorem KvR.mono {κ : Type} {g g' : Gd} (x : Xt0 g g') : ∀ {ks : List (κ × V)} {kvs : List (κ × PyData)}, KvR g ks kvs → KvR g' ks kvs
  | _, _, .nil => .nil
  | _, _, .cons h t => .cons ⟨h.1, h.2.mono x _ _⟩ (KvR.mono x t)

theorem DqA.length {g : Gd} : ∀ {vs : List V} {ds : List PyData}, DqA g vs ds → vs.length = ds.length
  | _, _, .nil => rfl
  | _, _, .cons _ t => congrArg (· + 1) (DqA.length t)
theorem DqA.get {g : Gd} : ∀ {vs : List V} {ds : List PyData} {i : Nat} {d : PyData}, DqA g vs ds → ds[i]? = some d → ∃ v, vs[i]? = some v ∧ Dq g v d
  | _, _, _, _, .nil, e => by simp at e
  | _, _, 0, _, .cons h _, e => by simp at e; subst e; exact ⟨_, rfl, h⟩
  | _, _, i + 1, d, .cons _ t, e => by
    obtain ⟨v, h1, h2⟩ := DqA.get (i := i) (d := d) t (by simpa using e)
    exact ⟨v, by simpa using h1, h2⟩
theorem DqA.append {g : Gd} : ∀ {vs us : List V} {ds es : List PyData}, DqA g vs ds → DqA g us es → DqA g (vs ++ us) (ds ++ es)
  | _, _, _, _, .nil, s => s
  | _, _, _, _, .cons r t, s => .cons r (DqA.append t s)
theorem DqA.take {g : Gd} : ∀ {vs : List V} {ds : List PyData} (n : Nat), DqA g vs ds → DqA g (vs.take n) (ds.take n)
  | _, _, 0, _ => .nil
  | _, _, _ + 1, .nil => .nil
  | _, _, n + 1, .cons r t => .cons r (DqA.take n t)
theorem DqA.drop {g : Gd} : ∀ {vs : List V} {ds : List PyData} (n : Nat), DqA g vs ds → DqA g (vs.drop n) (ds.drop n)
  | _, _, 0, r => r
  | _, _, _ + 1, .nil => .nil
  | _, _, n + 1, .cons _ t => DqA.drop n t
theorem DqA.reverse {g : Gd} : ∀ {vs : List V} {ds : List PyData}, DqA g vs ds → DqA g vs.reverse ds.reverse
  | _, _, .nil => .nil
  | _, _, .cons r t => by
    rw [List.reverse_cons, List.reverse_cons]
    exact (DqA.reverse t).append (.cons r .nil)

/-- a frozen object more -/
def Gd.put (g : Gd) (p : Addr) (o : HO) : Gd := { g with F := upd g.F p o }
theorem Rp.fnone {g : Gd} {H : Hp} {w : Ws} (r : Rp g H w) {p : Addr} (h : H p = none) : g.F p = none := by
  cases e : g.F p with
  | none => rfl
  | some o => rw [r.fro p o e] at h; cases h
theorem Xt.put {g : Gd} {p : Addr} {o : HO} (h : g.F p = none) : Xt g (g.put p o) :=
  ⟨⟨rfl, fun a u e => by show upd g.F p o a = _; rw [upd_ne (ne_of_none e h)]; exact e, fun _ _ => rfl, Nat.le_refl _⟩, rfl⟩
theorem ObR.there {g : Gd} {H : Hp} {a : Addr} {ob : Ob} (h : ObR g H a ob) : ∃ o, H a = some o := by
  cases ob with
  | lst ds => obtain ⟨_, xs, h, _⟩ := h; exact ⟨_, h⟩
  | dK ds => obtain ⟨_, xs, h, _⟩ := h; exact ⟨_, h⟩
  | ins C fs => obtain ⟨_, dx, gs, ⟨_, _, h⟩, _⟩ := h; exact ⟨_, h⟩
  | dead => exact h
/-- an object at another address does not matter -/
theorem ObR.new {g g' : Gd} {H H' : Hp} {a : Addr} {ob : Ob} (x : Xt0 g g') (h : ObR g H a ob) (hf : ∀ b, (H b).isSome = true → g'.F b = g.F b ∧ H' b = H b) : ObR g' H' a ob := by
  have q : ∀ {b : Addr} {o : HO}, H b = some o → g'.F b = g.F b ∧ H' b = some o := fun {b o} e => by
    have z := hf b (by rw [e]; rfl)
    exact ⟨z.1, z.2.trans e⟩
  cases ob with
  | lst ds =>
    obtain ⟨hn, xs, h, d⟩ := h
    exact ⟨(q h).1.trans hn, xs, (q h).2, d.mono x _ _⟩
  | dK kvs =>
    obtain ⟨hn, ks, h, d⟩ := h
    exact ⟨(q h).1.trans hn, ks, (q h).2, d.mono x⟩
  | ins C fs =>
    obtain ⟨hn, dx, gs, ⟨C', hC, h⟩, hd, hn2, d⟩ := h
    exact ⟨(q h).1.trans hn, dx, gs, ⟨C', by rw [x.k]; exact hC, (q h).2⟩, (q hd).2, (q hd).1.trans hn2, d.mono x⟩
  | dead =>
    obtain ⟨o, h⟩ := h
    exact ⟨o, (q h).2⟩
theorem Rp.put {g : Gd} {H : Hp} {w : Ws} (r : Rp g H w) {p : Addr} {o : HO} (h : H p = none) : Rp (g.put p o) (upd H p o) w where
  fro := fun a u e => by
    by_cases q : a = p
    · subst q
      have e' : upd g.F a o a = some u := e
      rw [upd_same] at e' ⊢
      exact e'
    · have e' : upd g.F p o a = some u := e
      rw [upd_ne q] at e' ⊢
      exact r.fro a u e'
  len := r.len
  cell := fun l ob e => (r.cell l ob e).new (Xt.put (r.fnone h)).toXt0 fun b hb => by
    have nb : b ≠ p := fun z => by subst z; rw [h] at hb; cases hb
    exact ⟨upd_ne nb, upd_ne nb⟩
  inj := r.inj
  pin := fun a u e => by
    obtain ⟨h1, h2, h3⟩ := r.pin a u e
    have na : a ≠ p := fun z => by subst z; rw [h] at h1; cases h1
    exact ⟨by rw [upd_ne na]; exact h1, (upd_ne na).trans h2, h3⟩

/-! ### outcomes -/
inductive Oc (α : Type) where
  | ok (a : α) (w : Ws)
  | ex (c : Value) (fs : List (Str × PyData)) (w : Ws)
  | no
def Oc.bind {α β : Type} (x : Oc α) (f : α → Ws → Oc β) : Oc β :=
  match x with
  | .ok a w => f a w
  | .ex c fs w => .ex c fs w
  | .no => .no
abbrev Ev := List (Option PyData)
abbrev FE := Ev → Ws → Oc PyData
abbrev FT := Ev → Ws → Oc Bool
abbrev FA := Ev → Ws → Oc (List PyData)
inductive Os where
  | nx (ρ : Ev) (w : Ws)
  | rt (d : PyData) (w : Ws)
  | bk (ρ : Ev) (w : Ws)
  | ct (ρ : Ev) (w : Ws)
  | ex (ρ : Ev) (c : Value) (fs : List (Str × PyData)) (w : Ws)
  | no
abbrev FS := Ev → Ws → Os

/-- the frame's names -/
structure EnR (g : Gd) (σ : St) (ρ : Ev) : Prop where
  len : σ.length = ρ.length
  at_ : ∀ (i : Nat) (d : PyData), ρ[i]? = some (some d) → ∃ v, σ[i]? = some (some v) ∧ Dq g v d
theorem EnR.mono {g g' : Gd} (x : Xt0 g g') {σ : St} {ρ : Ev} (e : EnR g σ ρ) : EnR g' σ ρ :=
  ⟨e.len, fun i d h => let ⟨v, a, b⟩ := e.at_ i d h; ⟨v, a, b.mono x _ _⟩⟩
theorem EnR.set {g : Gd} {σ : St} {ρ : Ev} (e : EnR g σ ρ) {v : V} {d : PyData} (i : Nat) (h : Dq g v d) : EnR g (σ.set i (some v)) (ρ.set i (some d)) := by
  refine ⟨by rw [List.length_set, List.length_set]; exact e.len, fun j c hj => ?_⟩
  rw [List.getElem?_set] at hj ⊢
  by_cases q : i = j
  · subst q
    rw [if_pos rfl] at hj ⊢
    by_cases z : i < ρ.length
    · rw [if_pos z] at hj
      rw [if_pos (by rw [e.len]; exact z)]
      have := Option.some.inj (Option.some.inj hj)
      subst this
      exact ⟨v, rfl, h⟩
    · rw [if_neg z] at hj
      cases hj
  · rw [if_neg q] at hj ⊢
    exact e.at_ j c hj

/-- what is wanted of an exception: the fields of its own dict -/
def XdR (g : Gd) (H : Hp) (fs : List (Str × PyData)) : Option Addr → Prop
  | none => fs = []
  | some d => g.F d = none ∧ (∀ l, l < g.n → g.μ l ≠ d) ∧ ∃ gs, H d = some (.xd gs) ∧ KvR g gs fs

def oX {α β : Type} (W : WX) (σ : St) (R : Gd → β → α → Prop) (g : Gd) (Q : β → Hp → Prop) : Oc α → Prop
  | .ok d w => ∀ v H g', Xt g g' → Rp g' H w → R g' v d → Q v H
  | .ex c fs w => ∀ dd H g', Xt g g' → Rp g' H w → XdR g' H fs dd → W c dd σ H
  | .no => False
def lX {α β : Type} (K : PySem.W.Frag) (W : WX) (R : Gd → β → α → Prop) (f : Ev → Ws → Oc α) : St → Hp → (β → Hp → Prop) → Prop := fun σ H Q =>
  ∃ g ρ w, g.K = K ∧ Rp g H w ∧ EnR g σ ρ ∧ oX W σ R g Q (f ρ w)
abbrev lE (K : PySem.W.Frag) (W : WX) (f : FE) : TE := lX K W Dq f
abbrev lT (K : PySem.W.Frag) (W : WX) (f : FT) : TT := lX K W (fun _ (b c : Bool) => b = c) f
abbrev lA (K : PySem.W.Frag) (W : WX) (f : FA) : TA := lX K W DqA f

/-- the ground has grown: the wish stays -/
theorem oX.mono {α β : Type} {W : WX} {σ : St} {R : Gd → β → α → Prop} {g g' : Gd} {Q : β → Hp → Prop} (x : Xt g g') : ∀ {o : Oc α}, oX W σ R g Q o → oX W σ R g' Q o
  | .ok _ _, h => fun v H g2 y r q => h v H g2 (x.trans y) r q
  | .ex _ _ _, h => fun d H g2 y r q => h d H g2 (x.trans y) r q
  | .no, h => h

/-- a part first -/
theorem lX_bind {α β γ δ : Type} {W : WX} {R : Gd → β → α → Prop} {S : Gd → δ → γ → Prop} {f : Ev → Ws → Oc α} {k : α → Ws → Oc γ} {σ : St} {H : Hp} {g : Gd} {ρ : Ev} {w : Ws} {Q : δ → Hp → Prop} {T : β → Hp → Prop}
    {K : PySem.W.Frag} (hK : g.K = K) (r : Rp g H w) (e : EnR g σ ρ) (h : oX W σ S g Q ((f ρ w).bind k))
    (hT : ∀ v H1 g1 d w1, Xt g g1 → Rp g1 H1 w1 → EnR g1 σ ρ → R g1 v d → oX W σ S g1 Q (k d w1) → T v H1) : lX K W R f σ H T := by
  refine ⟨g, ρ, w, hK, r, e, ?_⟩
  cases q : f ρ w with
  | ok d w1 =>
    rw [q] at h
    exact fun v H1 g1 x r1 z => hT v H1 g1 d w1 x r1 (e.mono x) z (oX.mono x h)
  | ex c fs w1 =>
    rw [q] at h
    exact h
  | no =>
    rw [q] at h
    exact h

/-! ### weaker readings -/
theorem pe_imp {X : Cx} {e : Expr} {t t' : TE} (h : PE X e t) (i : ∀ σ H Q, t' σ H Q → t σ H Q) : PE X e t' := ⟨fun pins s σ H Q I q => h.run pins s σ H Q I (i σ H Q q)⟩
theorem pt_imp {X : Cx} {e : Expr} {t t' : TT} (h : PT X e t) (i : ∀ σ H Q, t' σ H Q → t σ H Q) : PT X e t' := ⟨fun pins s σ H Q I q => h.run pins s σ H Q I (i σ H Q q)⟩
theorem pw_imp {X : Cx} {e : Expr} {t t' : TT} (h : PW X e t) (i : ∀ σ H Q, t' σ H Q → t σ H Q) : PW X e t' := ⟨fun wh pins s σ H Q I q => h.run wh pins s σ H Q I (i σ H Q q)⟩
theorem pa_imp {X : Cx} {e : List Expr} {t t' : TA} (h : PA X e t) (i : ∀ σ H Q, t' σ H Q → t σ H Q) : PA X e t' := ⟨fun p pins s σ H Q I q => h.run p pins s σ H Q I (i σ H Q q)⟩
theorem ps_imp {X : Cx} {e : Stmt} {t t' : TS} (h : PS X e t) (i : ∀ D σ H, t' D σ H → t D σ H) : PS X e t' := ⟨fun pins s σ H D I q => h.run pins s σ H D I (i D σ H q)⟩
theorem pss_imp {X : Cx} {e : List Stmt} {t t' : TS} (h : PSs X e t) (i : ∀ D σ H, t' D σ H → t D σ H) : PSs X e t' := ⟨fun pins s σ H D I q => h.run pins s σ H D I (i D σ H q)⟩

end Td

set_option Elab.async false
set_option linter.all false
set_option maxRecDepth 100000
set_option maxHeartbeats 4000000
namespace Td
open PySem L2
abbrev PF (X : Cx) (W : WX) (e : Expr) (f : FE) : Prop := PE X e (lE X.K W f)
abbrev PTf (X : Cx) (W : WX) (e : Expr) (f : FT) : Prop := PT X e (lT X.K W f)
abbrev PWf (X : Cx) (W : WX) (e : Expr) (f : FT) : Prop := PW X e (lT X.K W f)
abbrev PAf (X : Cx) (W : WX) (es : List Expr) (f : FA) : Prop := PA X es (lA X.K W f)

section
variable {X : Cx} {W : WX}
/-! ### names, constants -/
def eV (i : Nat) : FE := fun ρ w => match ρ[i]? with
  | some (some d) => .ok d w
  | _ => .no
def eC (d : PyData) : FE := fun _ w => .ok d w
theorem lE_c {K : PySem.W.Frag} {v : V} {d : PyData} (h : ∀ g : Gd, Dq g v d) : ∀ σ H Q, lE K W (eC d) σ H Q → tC v σ H Q := fun σ H Q ⟨g, ρ, w, hK, r, e, q⟩ => q v H g (Xt.refl g) r (h g)
theorem pf_var (i : Nat) {x : Str} {pos : Pos} (hN : X.N[i]? = some x := by rfl) (hv : Vis X.env.scope x := by first | exact Or.inl rfl | exact Or.inr (Or.inl rfl) | exact Or.inr (Or.inr rfl)) (hd : (x == ("__debug__" : Str)) = false := by decide)
    (hcd : (x == ("__classdict__" : Str)) = false := by decide) : PF X W (.Name x pos) (eV i) := by
  refine pe_imp (pv i hN hv hd hcd) fun σ H Q ⟨g, ρ, w, hK, r, e, q⟩ => ?_
  unfold eV at q
  split at q
  · rename_i d hd'
    obtain ⟨v, hv', dv⟩ := e.at_ i d hd'
    exact ⟨v, hv', q v H g (Xt.refl g) r dv⟩
  · exact q.elim
theorem pf_int {i j pos} : PF X W (.Constant (.int i) j pos) (eC (.int i)) := pe_imp pe_int (lE_c fun _ => .int i)
theorem pf_bl {b j pos} : PF X W (.Constant (.bool b) j pos) (eC (.bool b)) := pe_imp pe_bl (lE_c fun _ => .bl b)
theorem pf_non {j pos} : PF X W (.Constant .none j pos) (eC .none) := pe_imp pe_non (lE_c fun _ => .non)
theorem pf_str {x j pos} : PF X W (.Constant (.str x) j pos) (eC (.str x)) := pe_imp pe_str (lE_c fun _ => .str _)
theorem pf_gint {x : Str} {i : Int} {t : Tok} {pos : Pos} (hg : Gl X x) (hm : X.mg x = some (.int i t)) (hd : (x == ("__debug__" : Str)) = false := by decide) : PF X W (.Name x pos) (eC (.int i)) := pe_imp (pe_glob hg hm (v := .int i) ⟨_, rfl⟩ hd) (lE_c fun _ => .int i)
theorem pf_gstr {x : Str} {z : Str} {t : Tok} {pos : Pos} (hg : Gl X x) (hm : X.mg x = some (.str z t)) (hd : (x == ("__debug__" : Str)) = false := by decide) : PF X W (.Name x pos) (eC (.str z)) := pe_imp (pe_glob hg hm (v := .str z) ⟨_, rfl⟩ hd) (lE_c fun _ => .str z)

/-! ### argument lists, displays -/
def aN : FA := fun _ w => .ok [] w
def aC (f : FE) (fr : FA) : FA := fun ρ w => (f ρ w).bind fun d w1 => (fr ρ w1).bind fun ds w2 => .ok (d :: ds) w2
theorem paf_nil : PAf X W [] aN := pa_imp pa_nil fun σ H Q ⟨g, ρ, w, hK, r, e, q⟩ => q [] H g (Xt.refl g) r .nil
theorem paf_cons {e : Expr} {es : List Expr} {f : FE} {fr : FA} (ha : PF X W e f) (hr : PAf X W es fr) (hs : starEach (e :: es) X.env = (false, eval e X.env) :: starEach es X.env := by rfl) : PAf X W (e :: es) (aC f fr) := by
  refine pa_imp (pa_cons ha hr hs) fun σ H Q ⟨g, ρ, w, hK, r, e, q⟩ => ?_
  refine lX_bind hK r e q fun v H1 g1 d w1 x r1 e1 dv z => ?_
  refine lX_bind (x.k.trans hK) r1 e1 z fun vs H2 g2 ds w2 x2 r2 e2 dvs z2 => ?_
  exact z2 _ H2 g2 (Xt.refl _) r2 (.cons (dv.mono x2 _ _) dvs)
def szOk (n : Nat) : Bool := decide (n ≤ sizeLine)
/-- only where a test holds -/
def Oc.on {α : Type} (b : Bool) (x : Oc α) : Oc α := cond b x .no
theorem oX.on {α β : Type} {σ : St} {R : Gd → β → α → Prop} {g : Gd} {Q : β → Hp → Prop} {b : Bool} {x : Oc α} (h : oX W σ R g Q (Oc.on b x)) : b = true ∧ oX W σ R g Q x := by
  cases b with
  | true => exact ⟨rfl, h⟩
  | false => exact h.elim
def eTup (fa : FA) : FE := fun ρ w => (fa ρ w).bind fun ds w1 => Oc.on (szOk ds.length) (.ok (.tuple ds) w1)
def eLst (fa : FA) : FE := fun ρ w => (fa ρ w).bind fun ds w1 => Oc.on (szOk ds.length) (.ok (.list ds) w1)
theorem newT {g : Gd} {H : Hp} {w : Ws} {vs : List V} {ds : List PyData} (r : Rp g H w) {p : Addr} (hp : H p = none) (d : DqA g vs ds) : Dq (g.put p (.tup vs)) (.ref p) (.tuple ds) :=
  .tup (SqT.of upd_same) (d.mono (Xt.put (r.fnone hp)).toXt0 _ _)
theorem newL {g : Gd} {H : Hp} {w : Ws} {vs : List V} {ds : List PyData} (r : Rp g H w) {p : Addr} (hp : H p = none) (d : DqA g vs ds) : Dq (g.put p (.lst vs)) (.ref p) (.list ds) :=
  .lst (SqL.of upd_same) (d.mono (Xt.put (r.fnone hp)).toXt0 _ _)
theorem pf_tup {es : List Expr} {fa : FA} {x1} {pos : Pos} (h : PAf X W es fa) : PF X W (.Tuple es x1 pos) (eTup fa) := by
  refine pe_imp (pe_tup h) fun σ H Q ⟨g, ρ, w, hK, r, e, q⟩ => ?_
  refine lX_bind hK r e q fun vs H1 g1 ds w1 x r1 e1 d z => ?_
  obtain ⟨hb, z⟩ := z.on
  refine ⟨by rw [d.length]; exact of_decide_eq_true hb, fun p hp => ?_⟩
  exact z _ _ _ (Xt.put (r1.fnone hp)) (r1.put hp) (newT r1 hp d)
theorem pf_lst {es : List Expr} {fa : FA} {pos : Pos} (h : PAf X W es fa) : PF X W (.List es pos) (eLst fa) := by
  refine pe_imp (pe_lst h) fun σ H Q ⟨g, ρ, w, hK, r, e, q⟩ => ?_
  refine lX_bind hK r e q fun vs H1 g1 ds w1 x r1 e1 d z => ?_
  obtain ⟨hb, z⟩ := z.on
  refine ⟨by rw [d.length]; exact of_decide_eq_true hb, fun p hp => ?_⟩
  exact z _ _ _ (Xt.put (r1.fnone hp)) (r1.put hp) (newL r1 hp d)

/-! ### data to Dp -/
mutual
theorem Dq.dp {g : Gd} {H : Hp} (hf : ∀ a o, g.F a = some o → H a = some o) : ∀ (d : PyData) (v : V), d.canLay0 = true → Dq g v d → Dp g.K H v d
  | .none, _, _, h => by cases h; exact .non
  | .bool _, _, _, h => by cases h; exact .bl _
  | .int _, _, _, h => by cases h; exact .int _
  | .str _, _, _, h => by cases h; exact .str _
  | .list ds, _, c, h => by
    cases h with
    | lst a b => exact .lst (by rcases a with (a | ⟨o, a⟩) | a; exact .inl (.inl (hf _ _ a)); exact .inl (.inr ⟨o, hf _ _ a⟩); exact .inr a) (DqA.dp hf ds _ (by simpa [PyData.canLay0] using c) b)
  | .tuple ds, _, c, h => by
    cases h with
    | tup a b => exact .tup (by rcases a with (a | ⟨o, a⟩) | a; exact .inl (.inl (hf _ _ a)); exact .inl (.inr ⟨o, hf _ _ a⟩); exact .inr a) (DqA.dp hf ds _ (by simpa [PyData.canLay0] using c) b)
  | .dict _, _, c, h => by simp [PyData.canLay0] at c
theorem DqA.dp {g : Gd} {H : Hp} (hf : ∀ a o, g.F a = some o → H a = some o) : ∀ (ds : List PyData) (vs : List V), PyData.canLayAll0 ds = true → DqA g vs ds → DpAll g.K H vs ds
  | [], _, _, h => by cases h; exact .nil
  | d :: ds, _, c, h => by
    have c' : d.canLay0 = true ∧ PyData.canLayAll0 ds = true := by simpa [PyData.canLayAll0] using c
    cases h with
    | cons a b => exact .cons (Dq.dp hf d _ c'.1 a) (DqA.dp hf ds _ c'.2 b)
end
theorem Rp.sqL {g : Gd} {H : Hp} {w : Ws} (r : Rp g H w) {a : Addr} {xs : List V} (h : SqL g.K g.F a xs) : SqL g.K H a xs := by
  rcases h with (a | ⟨o, a⟩) | a
  · exact .inl (.inl (r.fro _ _ a))
  · exact .inl (.inr ⟨o, r.fro _ _ a⟩)
  · exact .inr a
theorem Rp.sqT {g : Gd} {H : Hp} {w : Ws} (r : Rp g H w) {a : Addr} {xs : List V} (h : SqT g.K g.F a xs) : SqT g.K H a xs := by
  rcases h with (a | ⟨o, a⟩) | a
  · exact .inl (.inl (r.fro _ _ a))
  · exact .inl (.inr ⟨o, r.fro _ _ a⟩)
  · exact .inr a

/-! ### operations on data -/
def rD2 (K : PySem.W.Frag) (f : Ws → PyData → PyData → Option PyData) : R2 := fun x y H Q =>
  ∃ g w d e z, g.K = K ∧ Rp g H w ∧ Dq g x d ∧ Dq g y e ∧ f w d e = some z ∧ ∀ v H' g', Xt g g' → Rp g' H' w → Dq g' v z → Q v H'
def Oc.of {α : Type} (o : Option α) (w : Ws) : Oc α := match o with
  | some a => .ok a w
  | none => .no
def eB (f : Ws → PyData → PyData → Option PyData) (fa fb : FE) : FE := fun ρ w => (fa ρ w).bind fun d w1 => (fb ρ w1).bind fun e w2 => Oc.of (f w2 d e) w2
theorem tOp_of {f : Ws → PyData → PyData → Option PyData} {fa fb : FE} {K : PySem.W.Frag} : ∀ σ H Q, lE K W (eB f fa fb) σ H Q → tOp (rD2 K f) (lE K W fa) (lE K W fb) σ H Q := fun σ H Q ⟨g, ρ, w, hK, r, e, q⟩ => by
  refine lX_bind hK r e q fun v H1 g1 d w1 x r1 e1 dv z => ?_
  refine lX_bind (x.k.trans hK) r1 e1 z fun u H2 g2 c w2 x2 r2 e2 du z2 => ?_
  cases hz : f w2 d c with
  | none => rw [hz] at z2; exact z2.elim
  | some y =>
    rw [hz] at z2
    exact ⟨g2, w2, d, c, y, x2.k.trans (x.k.trans hK), r2, dv.mono x2 _ _, du, hz, fun v' H' g' x' r' d' => z2 v' H' g' x' r' d'⟩
theorem pf_bin {op : Operator} {f : Ws → PyData → PyData → Option PyData} {a b : Expr} {fa fb : FE} {pos : Pos} (ho : OpR X (binaryOp op) (rD2 X.K f)) (ha : PF X W a fa) (hb : PF X W b fb) : PF X W (.BinOp a op b pos) (eB f fa fb) :=
  pe_imp (pe_op ho ha hb) tOp_of
theorem pf_cmp {op : CmpOp} {f : Ws → PyData → PyData → Option PyData} {a b : Expr} {fa fb : FE} {pos : Pos} (ho : OpR X (compareOp op) (rD2 X.K f)) (ha : PF X W a fa) (hb : PF X W b fb) (hm : behindInMarks op b = false := by first | exact nomark _ | rfl) : PF X W (.Compare a [op] [b] pos) (eB f fa fb) :=
  pe_imp (pe_cmpR ho ha hb hm) tOp_of
/-- a test whose value is True or False -/
def tB' (f : FE) : FT := fun ρ w => (f ρ w).bind fun d w1 => match d with
  | .bool b => .ok b w1
  | _ => .no
theorem tTest_of {f : FE} {K : PySem.W.Frag} {t : TE} (ht : ∀ σ H Q, lE K W f σ H Q → t σ H Q) : ∀ σ H Q, lT K W (tB' f) σ H Q → t σ H (fun z H3 => ∃ k, z = V.bl k ∧ Q k H3) := fun σ H Q ⟨g, ρ, w, hK, r, e, q⟩ => by
  refine ht σ H _ (lX_bind hK r e q fun v H1 g1 d w1 x r1 e1 dv z => ?_)
  cases dv with
  | bl b => exact ⟨b, rfl, z b H1 g1 (Xt.refl _) r1 rfl⟩
  | non => exact z.elim
  | int => exact z.elim
  | str => exact z.elim
  | lst => exact z.elim
  | tup => exact z.elim
  | ref => exact z.elim
theorem ptf_cmp {op : CmpOp} {f : Ws → PyData → PyData → Option PyData} {a b : Expr} {fa fb : FE} {pos : Pos} (ho : OpR X (compareOp op) (rD2 X.K f)) (ha : PF X W a fa) (hb : PF X W b fb) (hm : behindInMarks op b = false := by first | exact nomark _ | rfl) : PTf X W (.Compare a [op] [b] pos) (tB' (eB f fa fb)) :=
  pt_imp (pt_cmpR ho ha hb hm) (tTest_of tOp_of)
/-- a op b op' c -/
def eCh (f f' : Ws → PyData → PyData → Option PyData) (fa fb fc : FE) : FE := fun ρ w => (fa ρ w).bind fun d w1 => (fb ρ w1).bind fun e w2 => match f w2 d e with
  | some (.bool true) => (fc ρ w2).bind fun c w3 => Oc.of (f' w3 e c) w3
  | some (.bool false) => .ok (.bool false) w2
  | _ => .no
theorem tChain_of {f f' : Ws → PyData → PyData → Option PyData} {fa fb fc : FE} {K : PySem.W.Frag} : ∀ σ H Q, lE K W (eCh f f' fa fb fc) σ H Q → tChain (rD2 K f) (rD2 K f') (lE K W fa) (lE K W fb) (lE K W fc) σ H Q := fun σ H Q ⟨g, ρ, w, hK, r, e, q⟩ => by
  refine lX_bind hK r e q fun v H1 g1 d w1 x r1 e1 dv z => ?_
  refine lX_bind (x.k.trans hK) r1 e1 z fun u H2 g2 c w2 x2 r2 e2 du z2 => ?_
  have hK2 := x2.k.trans (x.k.trans hK)
  split at z2
  · rename_i hz
    refine ⟨g2, w2, d, c, _, hK2, r2, dv.mono x2 _ _, du, hz, fun v' H' g' x' r' d' => ?_⟩
    cases d'
    refine ⟨true, rfl, ?_⟩
    rw [if_pos rfl]
    refine lX_bind (x'.k.trans hK2) r' (e2.mono x') (oX.mono x' z2) fun u3 H3 g3 c3 w3 x3 r3 e3 d3 z3 => ?_
    cases hz3 : f' w3 c c3 with
    | none => rw [hz3] at z3; exact z3.elim
    | some y =>
      rw [hz3] at z3
      exact ⟨g3, w3, c, c3, y, x3.k.trans (x'.k.trans hK2), r3, du.mono (x'.trans x3) _ _, d3, hz3, fun v' H' g' x' r' d' => z3 v' H' g' x' r' d'⟩
  · rename_i hz
    refine ⟨g2, w2, d, c, _, hK2, r2, dv.mono x2 _ _, du, hz, fun v' H' g' x' r' d' => ?_⟩
    cases d'
    refine ⟨false, rfl, ?_⟩
    rw [if_neg Bool.false_ne_true]
    exact z2 _ _ _ x' r' (.bl _)
  · exact z2.elim
theorem pf_chain {op op' : CmpOp} {f f' : Ws → PyData → PyData → Option PyData} {a b c : Expr} {fa fb fc : FE} {pos : Pos} (ho : OpR X (compareOp op) (rD2 X.K f)) (ho' : OpR X (compareOp op') (rD2 X.K f')) (ha : PF X W a fa) (hb : PF X W b fb) (hc : PF X W c fc)
    (hm : lastMarks [op, op'] [b, c] = false := by with_unfolding_all rfl) : PF X W (.Compare a [op, op'] [b, c] pos) (eCh f f' fa fb fc) := pe_imp (pe_chain ho ho' ha hb hc hm) tChain_of
theorem ptf_chain {op op' : CmpOp} {f f' : Ws → PyData → PyData → Option PyData} {a b c : Expr} {fa fb fc : FE} {pos : Pos} (ho : OpR X (compareOp op) (rD2 X.K f)) (ho' : OpR X (compareOp op') (rD2 X.K f')) (ha : PF X W a fa) (hb : PF X W b fb) (hc : PF X W c fc)
    (hm : lastMarks [op, op'] [b, c] = false := by with_unfolding_all rfl) : PTf X W (.Compare a [op, op'] [b, c] pos) (tB' (eCh f f' fa fb fc)) := pt_imp (pt_chain ho ho' ha hb hc hm) (tTest_of tChain_of)

/-! ### and, or, not, if .. else -/
def tAn (t u : FT) : FT := fun ρ w => (t ρ w).bind fun b w1 => cond b (u ρ w1) (.ok false w1)
def tOr' (t u : FT) : FT := fun ρ w => (t ρ w).bind fun b w1 => cond b (.ok true w1) (u ρ w1)
def tNo (t : FT) : FT := fun ρ w => (t ρ w).bind fun b w1 => .ok (!b) w1
theorem pwf_and1 {a : Expr} {pos : Pos} {t : FT} (ha : PTf X W a t) : PWf X W (.BoolOp .And [a] pos) t := pw_and1 ha
theorem pwf_or1 {a : Expr} {pos : Pos} {t : FT} (ha : PTf X W a t) : PWf X W (.BoolOp .Or [a] pos) t := pw_or1 ha
theorem pwf_and {a b : Expr} {rest : List Expr} {pos : Pos} {t u : FT} (ha : PTf X W a t) (hb : PWf X W (.BoolOp .And (b :: rest) pos) u) : PWf X W (.BoolOp .And (a :: b :: rest) pos) (tAn t u) := by
  refine pw_imp (pw_and ha hb) fun σ H Q ⟨g, ρ, w, hK, r, e, q⟩ => ?_
  refine lX_bind hK r e q fun v H1 g1 d w1 x r1 e1 dv z => ?_
  subst dv
  cases v with
  | true => exact iteT ⟨g1, ρ, w1, x.k.trans hK, r1, e1, z⟩
  | false => exact iteF (z _ _ _ (Xt.refl _) r1 rfl)
theorem pwf_or {a b : Expr} {rest : List Expr} {pos : Pos} {t u : FT} (ha : PTf X W a t) (hb : PWf X W (.BoolOp .Or (b :: rest) pos) u) : PWf X W (.BoolOp .Or (a :: b :: rest) pos) (tOr' t u) := by
  refine pw_imp (pw_or ha hb) fun σ H Q ⟨g, ρ, w, hK, r, e, q⟩ => ?_
  refine lX_bind hK r e q fun v H1 g1 d w1 x r1 e1 dv z => ?_
  subst dv
  cases v with
  | true => exact iteT (z _ _ _ (Xt.refl _) r1 rfl)
  | false => exact iteF ⟨g1, ρ, w1, x.k.trans hK, r1, e1, z⟩
theorem ptf_w {e : Expr} {t : FT} (h : PWf X W e t) : PTf X W e t := h.pt
theorem ptf_not {a : Expr} {pos : Pos} {t : FT} (ha : PTf X W a t) : PTf X W (.UnaryOp .Not a pos) (tNo t) := by
  refine pt_imp (pt_not ha) fun σ H Q ⟨g, ρ, w, hK, r, e, q⟩ => ?_
  refine lX_bind hK r e q fun v H1 g1 d w1 x r1 e1 dv z => ?_
  subst dv
  exact z _ _ _ (Xt.refl _) r1 rfl
/-- as values: all but the last are True or False -/
def eAn (f k : FE) : FE := fun ρ w => (f ρ w).bind fun d w1 => match d with
  | .bool true => k ρ w1
  | .bool false => .ok (.bool false) w1
  | _ => .no
def eOr (f k : FE) : FE := fun ρ w => (f ρ w).bind fun d w1 => match d with
  | .bool true => .ok (.bool true) w1
  | .bool false => k ρ w1
  | _ => .no
def eNo (f : FE) : FE := fun ρ w => (f ρ w).bind fun d w1 => match d with
  | .bool b => .ok (.bool (!b)) w1
  | _ => .no
theorem pf_one {op a pos} {f : FE} (h : PF X W a f) : PF X W (.BoolOp op [a] pos) f := pe_one h
theorem pf_and {a b : Expr} {rest : List Expr} {pos : Pos} {f k : FE} (ha : PF X W a f) (hb : PF X W (.BoolOp .And (b :: rest) pos) k) : PF X W (.BoolOp .And (a :: b :: rest) pos) (eAn f k) := by
  refine pe_imp (pe_and ha hb) fun σ H Q ⟨g, ρ, w, hK, r, e, q⟩ => ?_
  refine lX_bind hK r e q fun v H1 g1 d w1 x r1 e1 dv z => ?_
  cases dv with
  | bl b =>
    refine ⟨b, rfl, ?_⟩
    cases b with
    | true => exact iteT ⟨g1, ρ, w1, x.k.trans hK, r1, e1, z⟩
    | false => exact iteF (z _ _ _ (Xt.refl _) r1 (.bl _))
  | _ => exact z.elim
theorem pf_or {a b : Expr} {rest : List Expr} {pos : Pos} {f k : FE} (ha : PF X W a f) (hb : PF X W (.BoolOp .Or (b :: rest) pos) k) : PF X W (.BoolOp .Or (a :: b :: rest) pos) (eOr f k) := by
  refine pe_imp (pe_or ha hb) fun σ H Q ⟨g, ρ, w, hK, r, e, q⟩ => ?_
  refine lX_bind hK r e q fun v H1 g1 d w1 x r1 e1 dv z => ?_
  cases dv with
  | bl b =>
    refine ⟨b, rfl, ?_⟩
    cases b with
    | true => exact iteT (z _ _ _ (Xt.refl _) r1 (.bl _))
    | false => exact iteF ⟨g1, ρ, w1, x.k.trans hK, r1, e1, z⟩
  | _ => exact z.elim
theorem pf_not {a : Expr} {pos : Pos} {f : FE} (ha : PF X W a f) : PF X W (.UnaryOp .Not a pos) (eNo f) := by
  refine pe_imp (pe_not ha) fun σ H Q ⟨g, ρ, w, hK, r, e, q⟩ => ?_
  refine lX_bind hK r e q fun v H1 g1 d w1 x r1 e1 dv z => ?_
  cases dv with
  | bl b => exact ⟨b, rfl, z _ _ _ (Xt.refl _) r1 (.bl _)⟩
  | _ => exact z.elim
def eIf (t : FT) (f k : FE) : FE := fun ρ w => (t ρ w).bind fun b w1 => cond b (f ρ w1) (k ρ w1)
theorem pf_ifx {c a b : Expr} {pos : Pos} {t : FT} {f k : FE} (hc : PTf X W c t) (ha : PF X W a f) (hb : PF X W b k) : PF X W (.IfExp c a b pos) (eIf t f k) := by
  refine pe_imp (pe_ifExp hc ha hb) fun σ H Q ⟨g, ρ, w, hK, r, e, q⟩ => ?_
  refine lX_bind hK r e q fun v H1 g1 d w1 x r1 e1 dv z => ?_
  subst dv
  cases v with
  | true => exact iteT ⟨g1, ρ, w1, x.k.trans hK, r1, e1, z⟩
  | false => exact iteF ⟨g1, ρ, w1, x.k.trans hK, r1, e1, z⟩

/-! ### what stands in the store -/
def lstOf (w : Ws) : PyData → Option (List PyData)
  | .list ds => some ds
  | .dict [(.int l, .none)] => match w[l.toNat]? with
    | some (.lst xs) => some xs
    | _ => none
  | _ => none
def dkOf (w : Ws) : PyData → Option (List (Key × PyData))
  | .dict [(.int l, .none)] => match w[l.toNat]? with
    | some (.dK xs) => some xs
    | _ => none
  | _ => none
theorem lstOf_ok {g : Gd} {H : Hp} {w : Ws} (r : Rp g H w) {v : V} {d : PyData} (h : Dq g v d) {ds : List PyData} (e : lstOf w d = some ds) : ∃ a xs, v = .ref a ∧ SqL g.K H a xs ∧ DqA g xs ds := by
  cases h with
  | lst a da => cases e; exact ⟨_, _, rfl, r.sqL a, da⟩
  | @ref l hl =>
    simp only [lstOf, Int.toNat_natCast] at e
    split at e
    · rename_i xs hx
      cases e
      obtain ⟨_, ys, hy, dy⟩ := r.cell _ _ hx
      exact ⟨_, ys, rfl, SqL.of hy, dy⟩
    · cases e
  | _ => cases e
theorem dkOf_ok {g : Gd} {H : Hp} {w : Ws} (r : Rp g H w) {v : V} {d : PyData} (h : Dq g v d) {ds : List (Key × PyData)} (e : dkOf w d = some ds) : ∃ l xs, v = .ref (g.μ l) ∧ d = rf l ∧ w[l]? = some (.dK ds) ∧ g.F (g.μ l) = none ∧ H (g.μ l) = some (.dK xs) ∧ KvR g xs ds := by
  cases h with
  | @ref l hl =>
    simp only [dkOf, Int.toNat_natCast] at e
    split at e
    · rename_i xs hx
      cases e
      obtain ⟨hn, ys, hy, dy⟩ := r.cell _ _ hx
      exact ⟨l, ys, rfl, rfl, hx, hn, hy, dy⟩
    · cases e
  | _ => cases e

/-! ### truth -/
def truD : PyData → Ws → Option Bool
  | .none, _ => some false
  | .bool b, _ => some b
  | .int i, _ => some (i != 0)
  | .str y, _ => if szOk y.length then some ((y.length : Int) != 0) else none
  | .list xs, _ => some (!xs.isEmpty)
  | .tuple xs, _ => some (!xs.isEmpty)
  | .dict [(.int l, .none)], w => match w[l.toNat]? with
    | some (.lst xs) => some (!xs.isEmpty)
    | some (.dK xs) => some (!xs.isEmpty)
    | _ => none
  | .dict _, _ => none
def tTr (f : FE) : FT := fun ρ w => (f ρ w).bind fun d w1 => Oc.of (truD d w1) w1
theorem DqA.isEmpty {g : Gd} {xs : List V} {ds : List PyData} (h : DqA g xs ds) : ds.isEmpty = xs.isEmpty := by cases h <;> rfl
theorem KvR.isEmpty {κ : Type} {g : Gd} {xs : List (κ × V)} {ds : List (κ × PyData)} (h : KvR g xs ds) : ds.isEmpty = xs.isEmpty := by cases h <;> rfl
theorem truD_ok {g : Gd} {H : Hp} {w : Ws} (r : Rp g H w) {v : V} {d : PyData} (h : Dq g v d) {b : Bool} (e : truD d w = some b) : TruV g.K v H b := by
  cases h with
  | non => exact (Option.some.inj e).symm
  | bl => exact (Option.some.inj e).symm
  | int => exact (Option.some.inj e).symm
  | str =>
    simp only [truD] at e
    split at e
    · rename_i hz
      exact ⟨of_decide_eq_true hz, (Option.some.inj e).symm⟩
    · cases e
  | lst a da => exact .inl ⟨_, r.sqL a, by rw [← da.isEmpty]; exact (Option.some.inj e).symm⟩
  | tup a da => exact .inr (.inl ⟨_, r.sqT a, by rw [← da.isEmpty]; exact (Option.some.inj e).symm⟩)
  | @ref l hl =>
    simp only [truD, Int.toNat_natCast] at e
    split at e
    · rename_i xs hx
      obtain ⟨_, ys, hy, dy⟩ := r.cell _ _ hx
      exact .inl ⟨_, SqL.of hy, by rw [← dy.isEmpty]; exact (Option.some.inj e).symm⟩
    · rename_i xs hx
      obtain ⟨_, ys, hy, dy⟩ := r.cell _ _ hx
      exact .inr (.inr ⟨_, hy, by rw [← dy.isEmpty]; exact (Option.some.inj e).symm⟩)
    · cases e
theorem ptf_tru {a : Expr} {f : FE} (ha : PF X W a f) (he : ∀ whole, isTrue a X.env whole = (do let v ← whole; standAt a.pos; holding [v] (truthy v)) := by intro _; rfl) : PTf X W a (tTr f) := by
  refine pt_imp (pt_truth ha he) fun σ H Q ⟨g, ρ, w, hK, r, e, q⟩ => ?_
  refine lX_bind hK r e q fun v H1 g1 d w1 x r1 e1 dv z => ?_
  cases hz : truD d w1 with
  | none => rw [hz] at z; exact z.elim
  | some b =>
    rw [hz] at z
    refine ⟨b, ?_, z _ _ _ (Xt.refl _) r1 rfl⟩
    rw [← hK, ← x.k]
    exact truD_ok r1 dv hz
end
end Td

set_option Elab.async false
set_option linter.all false
set_option maxRecDepth 100000
set_option maxHeartbeats 4000000
namespace Td
open PySem L2
section
variable {X : Cx} {W : WX}
/-! ### lists that stand anywhere: + -/
theorem cat_lists {pins : List (Addr × Obj)} {s : Shared} {σ : St} {H : Hp} {a b : Addr} {xs ys : List V} {Q : VK} (I : Inv X pins σ H s) (ha : SqL X.K H a xs) (hb : SqL X.K H b ys) (hz : xs.length + ys.length ≤ sizeLine)
    (q : ∀ p, H p = none → Q (.ref p) (upd H p (.lst (xs ++ ys)))) : wpAny (model X.prog X.w) X.A (binaryOp .Add (.ref a) (.ref b)) (EP X pins σ Q) X.xe s := by
  obtain ⟨us, r1, ⟨⟨c1, d1, t1, s1⟩, n1, g1, hc1, hd1, ht1⟩, z1⟩ := I.list ha
  obtain ⟨vs, r2, ⟨⟨c2, d2, t2, s2⟩, n2, g2, hc2, hd2, ht2⟩, z2⟩ := I.list hb
  simp only at hc1 hd1 ht1 hc2 hd2 ht2
  subst hc1 hd1 ht1 hc2 hd2 ht2
  have l1 := r1.length
  have l2 := r2.length
  have hs : us.toArray.size + vs.toArray.size ≤ sizeLine := by rw [List.size_toArray, List.size_toArray, ← l1, ← l2]; exact hz
  refine PySem.concat_meets ⟨_, g1, rfl⟩ ⟨_, g2, rfl⟩ PySem.noFill_list_add PySem.seq_list_add PySem.F.slot_list_add PySem.F.entry_list_add (PySem.F.args_list_add_2 _ _)
    (PyProof.Rows.list_addW a b us.toArray vs.toArray n1 n2 none none s1 s2 hs) ⟨g1, g2, ?_⟩
  have ea : us.toArray ++ vs.toArray = (us ++ vs).toArray := by simp
  rw [ea]
  exact ⟨.ref _, _, I.lnew (t' := s.toks) (r1.append r2) (by rw [List.length_append]; exact hz), rfl, q _ I.fresh⟩

/-! ### + -/
def b01 (b : Bool) : Int := if b = true then (1 : Int) else 0
def addD (w : Ws) : PyData → PyData → Option PyData
  | .int i, .int j => some (.int (i + j))
  | .bool b, .int j => some (.int (b01 b + j))
  | .str a, .str b => if szOk (a.length + b.length) then some (.str (a ++ b)) else none
  | .tuple a, .tuple b => if szOk (a.length + b.length) then some (.tuple (a ++ b)) else none
  | d, e => match lstOf w d, lstOf w e with
    | some a, some b => if szOk (a.length + b.length) then some (.list (a ++ b)) else none
    | _, _ => none
theorem add_lst {pins : List (Addr × Obj)} {s : Shared} {σ : St} {H : Hp} {x y : V} {v u : Value} {Q : VK} {g : Gd} {w : Ws} {d e z : PyData} (I : Inv X pins σ H s) (rx : RelV x v) (ry : RelV y u) (hK : g.K = X.K) (r : Rp g H w) (dx : Dq g x d) (dy : Dq g y e)
    (hz : (match lstOf w d, lstOf w e with
    | some a, some b => if szOk (a.length + b.length) then some (PyData.list (a ++ b)) else none
    | _, _ => none) = some z) (q : ∀ v H' g', Xt g g' → Rp g' H' w → Dq g' v z → Q v H') : wpAny (model X.prog X.w) X.A (binaryOp .Add v u) (EP X pins σ Q) X.xe s := by
  split at hz
  · rename_i a b ha hb
    split at hz
    · rename_i hs
      cases hz
      obtain ⟨p1, xs, rfl, s1, d1⟩ := lstOf_ok r dx ha
      obtain ⟨p2, ys, rfl, s2, d2⟩ := lstOf_ok r dy hb
      cases rx
      cases ry
      refine cat_lists I (by rw [← hK]; exact s1) (by rw [← hK]; exact s2) (by rw [d1.length, d2.length]; exact of_decide_eq_true hs) fun p hp => ?_
      exact q _ _ _ (Xt.put (r.fnone hp)) (r.put hp) (newL r hp (d1.append d2))
    · cases hz
  · cases hz
theorem op_addD : OpR X (binaryOp .Add) (rD2 X.K addD) := by
  intro pins s σ H x y v u Q I rx ry ⟨g, w, d, e, z, hK, r, dx, dy, hz, q⟩
  unfold addD at hz
  split at hz
  · cases hz; cases dx; cases dy
    exact op_add pins s σ H _ _ v u Q I rx ry ⟨_, _, rfl, rfl, q _ H g (Xt.refl g) r (.int _)⟩
  · cases hz; cases dx; cases dy
    cases rx
    obtain ⟨t, rfl⟩ := ry
    exact PySem.IntBool.add_bool_int ⟨.int _, H, I.tok _, ⟨_, rfl⟩, q _ H g (Xt.refl g) r (.int _)⟩
  · cases dx; cases dy
    split at hz
    · rename_i hs
      cases hz
      exact op_add_str pins s σ H _ _ v u Q I rx ry ⟨_, _, rfl, rfl, of_decide_eq_true hs, q _ H g (Xt.refl g) r (.str _)⟩
    · cases hz
  · cases dx
    cases dy
    rename_i a1 b1 s1 d1 a2 b2 s2 d2
    split at hz
    · rename_i hs
      cases hz
      refine op_catA pins s σ H _ _ v u Q I rx ry ⟨_, _, _, _, rfl, rfl, by rw [← hK]; exact r.sqT s1, by rw [← hK]; exact r.sqT s2, by rw [d1.length, d2.length]; exact of_decide_eq_true hs, fun e0 => ?_, fun _ e0 => ?_, fun _ _ p hp => ?_⟩
      · subst e0
        cases d1
        exact q _ H g (Xt.refl g) r (.tup s2 d2)
      · subst e0
        cases d2
        rw [List.append_nil] at q
        exact q _ H g (Xt.refl g) r (.tup s1 d1)
      · exact q _ _ _ (Xt.put (r.fnone hp)) (r.put hp) (newT r hp (d1.append d2))
    · cases hz
  · exact add_lst I rx ry hK r dx dy hz q

/-! ### ints -/
def intD (c : Int → Int → Bool) (f : Int → Int → Int) (_ : Ws) : PyData → PyData → Option PyData
  | .int i, .int j => if c i j then some (.int (f i j)) else none
  | _, _ => none
theorem op_intD {fn : Value → Value → Sem Value} {c : Int → Int → Bool} {C : Int → Int → Prop} {f : Int → Int → Int} (h : OpR X fn (rI C fun i j => .int (f i j))) (hc : ∀ i j, c i j = true → C i j) : OpR X fn (rD2 X.K (intD c f)) := by
  intro pins s σ H x y v u Q I rx ry ⟨g, w, d, e, z, hK, r, dx, dy, hz, q⟩
  unfold intD at hz
  split at hz
  · cases dx; cases dy
    split at hz
    · rename_i hs
      cases hz
      exact h pins s σ H _ _ v u Q I rx ry ⟨_, _, rfl, rfl, hc _ _ hs, q _ H g (Xt.refl g) r (.int _)⟩
    · cases hz
  · cases hz
def cY : Int → Int → Bool := fun _ _ => true
def subD (_ : Ws) : PyData → PyData → Option PyData
  | .int i, .int j => some (.int (i - j))
  | .bool b, .int j => some (.int (b01 b - j))
  | _, _ => none
theorem op_subD : OpR X (binaryOp .Sub) (rD2 X.K subD) := by
  intro pins s σ H x y v u Q I rx ry ⟨g, w, d, e, z, hK, r, dx, dy, hz, q⟩
  unfold subD at hz
  split at hz
  · cases hz; cases dx; cases dy
    exact op_sub pins s σ H _ _ v u Q I rx ry ⟨_, _, rfl, rfl, q _ H g (Xt.refl g) r (.int _)⟩
  · cases hz; cases dx; cases dy
    cases rx
    obtain ⟨t, rfl⟩ := ry
    exact PySem.IntBool.sub_bool_int ⟨.int _, H, I.tok _, ⟨_, rfl⟩, q _ H g (Xt.refl g) r (.int _)⟩
  · cases hz
def cDv : Int → Int → Bool := fun _ j => decide (j ≠ 0) && decide (j.natAbs < 1073741824)
abbrev fdvD := intD cDv Int.fdiv
theorem op_fdvD : OpR X (binaryOp .FloorDiv) (rD2 X.K fdvD) := op_intD op_fdivN fun i j h => show _ ∧ _ from by
  unfold cDv at h
  rw [Bool.and_eq_true] at h
  exact ⟨of_decide_eq_true h.1, of_decide_eq_true h.2⟩
def cNz : Int → Int → Bool := fun _ j => decide (j ≠ 0)
abbrev modD := intD cNz Int.fmod
theorem op_modD : OpR X (binaryOp .Mod) (rD2 X.K modD) := op_intD op_modN fun i j h => show j ≠ 0 from by unfold cNz at h; exact of_decide_eq_true h
def cPw : Int → Int → Bool := fun i j => decide (0 ≤ j) && decide (j ≤ 1000000) && decide (i.natAbs < 2 ^ 64)
abbrev powD := intD cPw (fun i j => i ^ j.toNat)
theorem op_powD : OpR X (binaryOp .Pow) (rD2 X.K powD) := op_intD op_pow fun i j h => show _ ∧ _ ∧ _ from by
  unfold cPw at h
  rw [Bool.and_eq_true, Bool.and_eq_true] at h
  exact ⟨of_decide_eq_true h.1.1, of_decide_eq_true h.1.2, of_decide_eq_true h.2⟩

/-! ### * -/
def cMl (i j : Int) : Bool := decide (i.natAbs < 2 ^ 64) || decide (j.natAbs < 2 ^ 64)
def cMs (n : Nat) (k : Int) : Bool := decide (2 ≤ k ∧ k ≤ 10000 ∧ 1 ≤ n ∧ n ≤ 1000)
def cMt (n : Nat) (k : Int) : Bool := decide (2 ≤ k ∧ k ≤ 1000 ∧ 1 ≤ n ∧ n ≤ 1000)
def mulD (_ : Ws) : PyData → PyData → Option PyData
  | .int i, .int j => if cMl i j then some (.int (i * j)) else none
  | .str a, .int k => if cMs a.length k then some (.str (PySem.Txt.mul a k)) else none
  | .tuple a, .int k => if cMt a.length k then some (.tuple (List.replicate k.toNat a).flatten) else none
  | _, _ => none
theorem DqA.rep {g : Gd} {vs : List V} {ds : List PyData} (h : DqA g vs ds) : ∀ n, DqA g (List.replicate n vs).flatten (List.replicate n ds).flatten
  | 0 => .nil
  | n + 1 => by
    rw [List.replicate_succ, List.replicate_succ, List.flatten_cons, List.flatten_cons]
    exact h.append (DqA.rep h n)
theorem op_mulD : OpR X (binaryOp .Mult) (rD2 X.K mulD) := by
  intro pins s σ H x y v u Q I rx ry ⟨g, w, d, e, z, hK, r, dx, dy, hz, q⟩
  unfold mulD at hz
  split at hz
  · cases dx; cases dy
    split at hz
    · rename_i hs
      cases hz
      exact op_mul pins s σ H _ _ v u Q I rx ry ⟨_, _, rfl, rfl, (show _ ∨ _ from by
        unfold cMl at hs
        rw [Bool.or_eq_true] at hs
        rcases hs with hs | hs
        · have := of_decide_eq_true hs; exact Or.inl ⟨by omega, by omega⟩
        · have := of_decide_eq_true hs; exact Or.inr ⟨by omega, by omega⟩), q _ H g (Xt.refl g) r (.int _)⟩
    · cases hz
  · cases dx; cases dy
    split at hz
    · rename_i a k hs
      cases hz
      obtain ⟨t, rfl⟩ := rx
      obtain ⟨t2, rfl⟩ := ry
      obtain ⟨h1, h2, h3, h4⟩ := of_decide_eq_true hs
      have hb : a.length * k.toNat ≤ 1000 * 10000 := Nat.mul_le_mul h4 (by omega)
      refine PySem.SB.mul ⟨?_, fun _ _ => ?_, fun _ _ => ?_⟩ fun t' tk => ⟨.str _, H, I.tok _, ⟨_, rfl⟩, q _ H g (Xt.refl g) r (.str _)⟩
      · rw [decide_eq_false (by omega), decide_eq_false (by omega)]; rfl
      · have : (1000 : Int) ≤ (2 ^ 63 - 1) / k := by
          refine (Int.le_ediv_iff_mul_le (by omega)).mpr ?_
          omega
        omega
      · show decide (_ > sizeLine) = false
        refine decide_eq_false ?_
        rw [sizeLine_eq]
        omega
    · cases hz
  · cases dx; cases dy
    rename_i a1 b1 s1 d1
    split at hz
    · rename_i hs
      cases hz
      obtain ⟨h1, h2, h3, h4⟩ := of_decide_eq_true hs
      rw [← d1.length] at h3 h4
      refine op_repT pins s σ H _ _ v u Q I rx ry ⟨_, _, _, rfl, rfl, by rw [← hK]; exact r.sqT s1, fun e0 => ?_, h1, h2, h4, fun p hp => ?_⟩
      · rw [e0] at h3; cases h3
      · exact q _ _ _ (Xt.put (r.fnone hp)) (r.put hp) (newT r hp (d1.rep _))
    · cases hz
  · cases hz

/-! ### one-place -/
def rD1 (K : PySem.W.Frag) (f : Ws → PyData → Option PyData) : V → Hp → VK → Prop := fun x H Q =>
  ∃ g w d z, g.K = K ∧ Rp g H w ∧ Dq g x d ∧ f w d = some z ∧ ∀ v H' g', Xt g g' → Rp g' H' w → Dq g' v z → Q v H'
def eU (f : Ws → PyData → Option PyData) (fa : FE) : FE := fun ρ w => (fa ρ w).bind fun d w1 => Oc.of (f w1 d) w1
theorem pf_un {op : UnaryOp} {f : Ws → PyData → Option PyData} {a : Expr} {fa : FE} {pos : Pos} (ho : UnR X (unaryOp op) (rD1 X.K f)) (ha : PF X W a fa) : PF X W (.UnaryOp op a pos) (eU f fa) := by
  refine pe_imp (pe_un ho ha) fun σ H Q ⟨g, ρ, w, hK, r, e, q⟩ => ?_
  refine lX_bind hK r e q fun v H1 g1 d w1 x r1 e1 dv z => ?_
  cases hz : f w1 d with
  | none => rw [hz] at z; exact z.elim
  | some y =>
    rw [hz] at z
    exact ⟨g1, w1, d, y, x.k.trans hK, r1, dv, hz, z⟩
def negD (_ : Ws) : PyData → Option PyData
  | .int i => some (.int (-i))
  | _ => none
theorem un_negD : UnR X (unaryOp .USub) (rD1 X.K negD) := by
  intro pins s σ H x v Q I rx ⟨g, w, d, z, hK, r, dx, hz, q⟩
  unfold negD at hz
  split at hz
  · cases hz; cases dx
    exact un_neg pins s σ H _ v Q I rx ⟨_, rfl, q _ H g (Xt.refl g) r (.int _)⟩
  · cases hz

/-! ### comparisons -/
def strLt (a b : Str) : Bool := decide (a.cps.toList < b.cps.toList)
def cmpD (fi : Int → Int → Bool) (fs : Str → Str → Bool) (_ : Ws) : PyData → PyData → Option PyData
  | .int i, .int j => some (.bool (fi i j))
  | .str a, .str b => some (.bool (fs a b))
  | _, _ => none
theorem op_cmpD {fn : Value → Value → Sem Value} {fi : Int → Int → Bool} {fs : Str → Str → Bool} (h : OpR X fn (rI0 fun i j => .bl (fi i j))) (h2 : OpR X fn (fun x y H Q => ∃ i j, x = .str i ∧ y = .str j ∧ Q (.bl (fs i j)) H)) : OpR X fn (rD2 X.K (cmpD fi fs)) := by
  intro pins s σ H x y v u Q I rx ry ⟨g, w, d, e, z, hK, r, dx, dy, hz, q⟩
  unfold cmpD at hz
  split at hz
  · cases hz; cases dx; cases dy
    exact h pins s σ H _ _ v u Q I rx ry ⟨_, _, rfl, rfl, q _ H g (Xt.refl g) r (.bl _)⟩
  · cases hz; cases dx; cases dy
    exact h2 pins s σ H _ _ v u Q I rx ry ⟨_, _, rfl, rfl, q _ H g (Xt.refl g) r (.bl _)⟩
  · cases hz
abbrev ltD := cmpD (fun i j => decide (i < j)) (fun a b => strLt a b)
abbrev leD := cmpD (fun i j => decide (i ≤ j)) (fun a b => !strLt b a)
abbrev gtD := cmpD (fun i j => decide (j < i)) (fun a b => strLt b a)
abbrev geD := cmpD (fun i j => decide (j ≤ i)) (fun a b => !strLt a b)
theorem op_ltD : OpR X (compareOp .Lt) (rD2 X.K ltD) := op_cmpD op_lt op_lt_str
theorem op_leD : OpR X (compareOp .LtE) (rD2 X.K leD) := op_cmpD op_le op_le_str
theorem op_gtD : OpR X (compareOp .Gt) (rD2 X.K gtD) := op_cmpD op_gt op_gt_str
theorem op_geD : OpR X (compareOp .GtE) (rD2 X.K geD) := op_cmpD op_ge op_ge_str
/-- == of data -/

def strsE (d e : PyData) (f : Bool → Bool) : Option PyData := match d, e with
  | .str a, .str b => some (.bool (f (a.cps.toList == b.cps.toList)))
  | _, _ => none
def eqD (_ : Ws) (d e : PyData) : Option PyData := if SeqAt.shaped d && SeqAt.shaped e then some (.bool (PyData.eqv d e)) else strsE d e id
def neD (_ : Ws) (d e : PyData) : Option PyData := if SeqAt.shaped d && SeqAt.shaped e then some (.bool (!PyData.eqv d e)) else strsE d e not
theorem shaped_lay {d : PyData} (h : SeqAt.shaped d = true) : d.canLay0 = true := SeqAt.canLay_of_shaped h
theorem op_eqD' (hu : X.A.units + 64 < cLine) : OpR X (compareOp .Eq) (rD2 X.K eqD) := by
  intro pins s σ H x y v u Q I rx ry ⟨g, w, d, e, z, hK, r, dx, dy, hz, q⟩
  unfold eqD at hz
  split at hz
  · rename_i hs
    cases hz
    rw [Bool.and_eq_true] at hs
    exact op_eqD hu pins s σ H x y v u Q I rx ry ⟨d, e, hK ▸ dx.dp r.fro _ _ (shaped_lay hs.1), hK ▸ dy.dp r.fro _ _ (shaped_lay hs.2), hs.1, hs.2, q _ H g (Xt.refl g) r (.bl _)⟩
  · unfold strsE at hz
    split at hz
    · cases dx; cases dy; cases hz
      obtain ⟨t, rfl⟩ := rx
      obtain ⟨t', rfl⟩ := ry
      exact PySem.P.eq_str ⟨.bl _, H, I, rfl, q _ H g (Xt.refl g) r (.bl _)⟩
    · cases hz
theorem op_neD' (hu : X.A.units + 64 < cLine) : OpR X (compareOp .NotEq) (rD2 X.K neD) := by
  intro pins s σ H x y v u Q I rx ry ⟨g, w, d, e, z, hK, r, dx, dy, hz, q⟩
  unfold neD at hz
  split at hz
  · rename_i hs
    cases hz
    rw [Bool.and_eq_true] at hs
    exact op_neD hu pins s σ H x y v u Q I rx ry ⟨d, e, hK ▸ dx.dp r.fro _ _ (shaped_lay hs.1), hK ▸ dy.dp r.fro _ _ (shaped_lay hs.2), hs.1, hs.2, q _ H g (Xt.refl g) r (.bl _)⟩
  · unfold strsE at hz
    split at hz
    · cases dx; cases dy; cases hz
      obtain ⟨t, rfl⟩ := rx
      obtain ⟨t', rfl⟩ := ry
      exact PySem.P.ne_str ⟨.bl _, H, I, rfl, q _ H g (Xt.refl g) r (.bl _)⟩
    · cases hz
end
end Td

set_option Elab.async false
set_option linter.all false
set_option maxRecDepth 100000
set_option maxHeartbeats 4000000
namespace Td
open PySem L2
section
variable {X : Cx} {W : WX}
/-! ### in, not in -/
def strIn (a b : Str) : Bool := match a.cps.toList with
  | [c] => decide (c ∈ b.cps.toList)
  | _ => !(Builtin.Str.occurrences b a 0 b.length 1).isEmpty
def isIn (w : Ws) : PyData → PyData → Option Bool
  | .str a, .str b => some (strIn a b)
  | d, .tuple ds => if SeqAt.shaped d && SeqAt.shaped (.tuple ds) then some (ds.any fun z => PyData.eqv z d) else none
  | d, e => match lstOf w e with
    | some ds => if SeqAt.shaped d && SeqAt.shaped (.list ds) then some (ds.any fun z => PyData.eqv z d) else none
    | none => none
def inD (w : Ws) (d e : PyData) : Option PyData := (isIn w d e).map .bool
def niD (w : Ws) (d e : PyData) : Option PyData := (isIn w d e).map fun b => .bool (!b)
theorem str_one {a : Str} {c : Nat} (h : a.cps.toList = [c]) : a = ⟨#[c]⟩ := by
  obtain ⟨cps⟩ := a
  have : cps = #[c] := by
    have h' : cps.toList = [c] := h
    rw [← Array.toList_inj]; exact h'
  rw [this]
theorem op_inX (hu : X.A.units + 65 < cLine) : OpR X (compareOp .In) (rD2 X.K inD) := by
  intro pins s σ H x y v u Q I rx ry ⟨g, w, d, e, z, hK, r, dx, dy, hz, q⟩
  obtain ⟨b, hb, rfl⟩ := Option.map_eq_some_iff.mp hz
  clear hz
  have q := q _ H g (Xt.refl g) r (.bl b)
  unfold isIn at hb
  split at hb
  · cases dx; cases dy
    cases hb
    unfold strIn at q
    split at q
    · rename_i c hc
      rw [str_one hc] at rx
      exact op_in_sign pins s σ H _ _ v u Q I rx ry ⟨c, _, rfl, rfl, q⟩
    · exact op_in_str pins s σ H _ _ v u Q I rx ry ⟨_, _, rfl, rfl, q⟩
  · split at hb
    · rename_i hs
      cases hb
      rw [Bool.and_eq_true] at hs
      obtain ⟨as, r1⟩ := Dp.reads I _ _ v (hK ▸ dx.dp r.fro _ _ (shaped_lay hs.1)) rx
      obtain ⟨bs, r2⟩ := Dp.reads I _ _ u (hK ▸ dy.dp r.fro _ _ (shaped_lay hs.2)) ry
      exact SeqAt.in_tuple_reads r2 r1 (SeqAt.canLay_of_shaped hs.2) (SeqAt.canLay_of_shaped hs.1) (PyProof.Rows.room_in_shaped hs.1 hu) ⟨.bl _, H, I, rfl, q⟩
    · cases hb
  · split at hb
    · rename_i ds hl
      split at hb
      · rename_i hs
        cases hb
        rw [Bool.and_eq_true] at hs
        obtain ⟨a, xs, rfl, sq, da⟩ := lstOf_ok r dy hl
        have lay : PyData.canLayAll0 ds = true := by simpa [PyData.canLay0] using shaped_lay hs.2
        exact op_inD hu pins s σ H _ _ v u Q I rx ry ⟨d, ds, hK ▸ dx.dp r.fro _ _ (shaped_lay hs.1), hK ▸ .lst sq (da.dp r.fro _ _ lay), hs.1, hs.2, q⟩
      · cases hb
    · cases hb
theorem op_niX (hu : X.A.units + 65 < cLine) : OpR X (compareOp .NotIn) (rD2 X.K niD) := by
  intro pins s σ H x y v u Q I rx ry ⟨g, w, d, e, z, hK, r, dx, dy, hz, q⟩
  obtain ⟨b, hb, rfl⟩ := Option.map_eq_some_iff.mp hz
  clear hz
  have q := q _ H g (Xt.refl g) r (.bl (!b))
  unfold isIn at hb
  split at hb
  · cases dx; cases dy
    cases hb
    unfold strIn at q
    split at q
    · rename_i c hc
      rw [str_one hc] at rx
      exact op_notIn_sign pins s σ H _ _ v u Q I rx ry ⟨c, _, rfl, rfl, q⟩
    · exact op_notIn_str pins s σ H _ _ v u Q I rx ry ⟨_, _, rfl, rfl, q⟩
  · split at hb
    · rename_i hs
      cases hb
      rw [Bool.and_eq_true] at hs
      obtain ⟨as, r1⟩ := Dp.reads I _ _ v (hK ▸ dx.dp r.fro _ _ (shaped_lay hs.1)) rx
      obtain ⟨bs, r2⟩ := Dp.reads I _ _ u (hK ▸ dy.dp r.fro _ _ (shaped_lay hs.2)) ry
      exact SeqAt.notIn_tuple_reads r2 r1 (SeqAt.canLay_of_shaped hs.2) (SeqAt.canLay_of_shaped hs.1) (PyProof.Rows.room_in_shaped hs.1 hu) ⟨.bl _, H, I, rfl, q⟩
    · cases hb
  · split at hb
    · rename_i ds hl
      split at hb
      · rename_i hs
        cases hb
        rw [Bool.and_eq_true] at hs
        obtain ⟨a, xs, rfl, sq, da⟩ := lstOf_ok r dy hl
        have lay : PyData.canLayAll0 ds = true := by simpa [PyData.canLay0] using shaped_lay hs.2
        exact op_notInD hu pins s σ H _ _ v u Q I rx ry ⟨d, ds, hK ▸ dx.dp r.fro _ _ (shaped_lay hs.1), hK ▸ .lst sq (da.dp r.fro _ _ lay), hs.1, hs.2, q⟩
      · cases hb
    · cases hb

/-! ### xs[i] -/
def ixD (w : Ws) : PyData → PyData → Option PyData
  | .str z, .int i => if szOk z.length then (atI z.cps.toList i).map fun c => .str ⟨#[c]⟩ else none
  | .tuple ds, .int i => atI ds i
  | d, .int i => match lstOf w d with
    | some ds => atI ds i
    | none => none
  | _, _ => none
theorem DqA.atI {g : Gd} {vs : List V} {ds : List PyData} (h : DqA g vs ds) {i : Int} {d : PyData} (e : L2.atI ds i = some d) : ∃ v, L2.atI vs i = some v ∧ Dq g v d := by
  unfold L2.atI at e ⊢
  rw [h.length]
  cases hx : ixN ds.length i with
  | none => rw [hx] at e; cases e
  | some j =>
    rw [hx] at e
    exact h.get e
theorem ix_D : IxR X (rD2 X.K ixD) := by
  intro vl sl pins s σ H x y v u Q I rx ry ⟨g, w, d, e, z, hK, r, dx, dy, hz, q⟩ hsb
  unfold ixD at hz
  split at hz
  · cases dx; cases dy
    split at hz
    · rename_i hs
      obtain ⟨c, hc, rfl⟩ := Option.map_eq_some_iff.mp hz
      exact ix_seq vl sl pins s σ H _ _ v u Q I rx ry (.inr (.inr ⟨_, _, c, rfl, rfl, of_decide_eq_true hs, hc, q _ H g (Xt.refl g) r (.str _)⟩)) hsb
    · cases hz
  · cases dx; cases dy
    rename_i a1 b1 s1 d1
    obtain ⟨v1, hv, dv⟩ := d1.atI hz
    exact ix_seq vl sl pins s σ H _ _ v u Q I rx ry (.inr (.inl ⟨_, _, _, v1, rfl, rfl, hK ▸ r.sqT s1, hv, q _ H g (Xt.refl g) r dv⟩)) hsb
  · cases dy
    split at hz
    · rename_i ds hl
      obtain ⟨a, xs, rfl, sq, da⟩ := lstOf_ok r dx hl
      obtain ⟨v1, hv, dv⟩ := da.atI hz
      exact ix_seq vl sl pins s σ H _ _ v u Q I rx ry (.inl ⟨_, _, _, v1, rfl, rfl, hK ▸ sq, hv, q _ H g (Xt.refl g) r dv⟩) hsb
    · cases hz
  · cases hz
theorem pf_ix {a b : Expr} {fa fb : FE} {pos : Pos} (ha : PF X W a fa) (hb : PF X W b fb) (hs : PlainIx b := by exact fun _ _ => rfl) : PF X W (.Subscript a b pos) (eB ixD fa fb) := pe_imp (pe_ix ix_D ha hb hs) tOp_of

/-! ### xs[lo:hi] -/
abbrev FO := Ev → Ws → Oc (Option Int)
abbrev lO (K : PySem.W.Frag) (W : WX) (f : FO) : TO := lX K W (fun _ (b c : Option Int) => b = c) f
theorem po_imp {o : Option Expr} {t t' : TO} (h : PO X o t) (i : ∀ σ H Q, t' σ H Q → t σ H Q) : PO X o t' := ⟨fun pins s σ H Q I q => h.run pins s σ H Q I (i σ H Q q)⟩
def oN : FO := fun _ w => .ok none w
def oS (f : FE) : FO := fun ρ w => (f ρ w).bind fun d w1 => match d with
  | .int i => .ok (some i) w1
  | _ => .no
theorem pof_none : PO X none (lO X.K W oN) := po_imp po_none fun σ H Q ⟨g, ρ, w, hK, r, e, q⟩ => q _ H g (Xt.refl g) r rfl
theorem pof_some {e : Expr} {f : FE} (h : PF X W e f) : PO X (some e) (lO X.K W (oS f)) := by
  refine po_imp (po_some h) fun σ H Q ⟨g, ρ, w, hK, r, e, q⟩ => ?_
  refine lX_bind hK r e q fun v H1 g1 d w1 x r1 e1 dv z => ?_
  cases dv with
  | int i => exact ⟨i, rfl, z _ _ _ (Xt.refl _) r1 rfl⟩
  | _ => exact z.elim
def cutL {α : Type} (xs : List α) (lo hi : Option Int) : List α := (xs.drop (HT.sIx xs.length 0 lo)).take (HT.sIx xs.length xs.length hi - HT.sIx xs.length 0 lo)
def cutD (w : Ws) (d : PyData) (lo hi : Option Int) : Option PyData := match d with
  | .str z => if szOk z.length then some (.str (cutS z lo hi)) else none
  | .tuple ds => some (.tuple (cutL ds lo hi))
  | d => match lstOf w d with
    | some ds => some (.list (cutL ds lo hi))
    | none => none
theorem DqA.cut {g : Gd} {vs : List V} {ds : List PyData} (h : DqA g vs ds) (lo hi : Option Int) : DqA g (cutV vs lo hi) (cutL ds lo hi) := by
  unfold cutV cutL
  rw [h.length]
  exact (h.drop _).take _
def rCut (K : PySem.W.Frag) : V → Option Int → Option Int → Hp → VK → Prop := fun x lo hi H Q => ∃ g w d z, g.K = K ∧ Rp g H w ∧ Dq g x d ∧ cutD w d lo hi = some z ∧ ∀ v H' g', Xt g g' → Rp g' H' w → Dq g' v z → Q v H'
theorem sl_D : SlR X (rCut X.K) := by
  intro pins s σ H x v vl vu lo hi sl Q I rx hs pl pu ⟨g, w, d, z, hK, r, dx, hz, q⟩
  unfold cutD at hz
  split at hz
  · cases dx
    split at hz
    · rename_i hs'
      cases hz
      exact sl_str pins s σ H _ v vl vu lo hi sl Q I rx hs pl pu ⟨_, rfl, of_decide_eq_true hs', q _ H g (Xt.refl g) r (.str _)⟩
    · cases hz
  · cases dx
    cases hz
    rename_i a1 b1 s1 d1
    refine sl_tupA pins s σ H _ v vl vu lo hi sl Q I rx hs pl pu ⟨_, _, rfl, hK ▸ r.sqT s1, fun hw => ?_, fun _ p hp => ?_⟩
    · refine q _ H g (Xt.refl g) r (.tup s1 ?_)
      rw [d1.length] at hw
      unfold cutL
      rw [hw.1, hw.2, List.drop_zero, Nat.sub_zero, List.take_length]
      exact d1
    · exact q _ _ _ (Xt.put (r.fnone hp)) (r.put hp) (newT r hp (d1.cut lo hi))
  · split at hz
    · rename_i ds hl
      cases hz
      obtain ⟨a, xs, rfl, sq, da⟩ := lstOf_ok r dx hl
      exact sl_list pins s σ H _ v vl vu lo hi sl Q I rx hs pl pu ⟨_, _, rfl, hK ▸ sq, fun p hp => q _ _ _ (Xt.put (r.fnone hp)) (r.put hp) (newL r hp (da.cut lo hi))⟩
    · cases hz
def eSl (f : FE) (fl fh : FO) : FE := fun ρ w => (f ρ w).bind fun d w1 => (fl ρ w1).bind fun l w2 => (fh ρ w2).bind fun h w3 => Oc.of (cutD w3 d l h) w3
theorem pf_slice {e : Expr} {lo hi : Option Expr} {p2 pos : Pos} {f : FE} {fl fh : FO} (he : PF X W e f) (hl : PO X lo (lO X.K W fl)) (hh : PO X hi (lO X.K W fh)) : PF X W (.Subscript e (.Slice lo hi none p2) pos) (eSl f fl fh) := by
  refine pe_imp (pe_slice sl_D he hl hh) fun σ H Q ⟨g, ρ, w, hK, r, e, q⟩ => ?_
  refine lX_bind hK r e q fun v H1 g1 d w1 x r1 e1 dv z => ?_
  refine lX_bind (x.k.trans hK) r1 e1 z fun l H2 g2 l' w2 x2 r2 e2 hl2 z2 => ?_
  refine lX_bind (x2.k.trans (x.k.trans hK)) r2 e2 z2 fun h H3 g3 h' w3 x3 r3 e3 hh3 z3 => ?_
  subst hl2 hh3
  cases hz : cutD w3 d l h with
  | none => rw [hz] at z3; exact z3.elim
  | some y =>
    rw [hz] at z3
    exact ⟨g3, w3, d, y, x3.k.trans (x2.k.trans (x.k.trans hK)), r3, dv.mono (x2.trans x3) _ _, hz, z3⟩

/-! ### calls of what is built in -/
def rDN (K : PySem.W.Frag) (f : Ws → List PyData → Option PyData) : List V → Hp → VK → Prop := fun vs H Q =>
  ∃ g w ds z, g.K = K ∧ Rp g H w ∧ DqA g vs ds ∧ f w ds = some z ∧ ∀ v H' g', Xt g g' → Rp g' H' w → Dq g' v z → Q v H'
def eCb (f : Ws → List PyData → Option PyData) (fa : FA) : FE := fun ρ w => (fa ρ w).bind fun ds w1 => Oc.of (f w1 ds) w1
theorem tCB_of {f : Ws → List PyData → Option PyData} {fa : FA} {K : PySem.W.Frag} : ∀ σ H Q, lE K W (eCb f fa) σ H Q → tCB (rDN K f) (lA K W fa) σ H Q := fun σ H Q ⟨g, ρ, w, hK, r, e, q⟩ => by
  refine lX_bind hK r e q fun v H1 g1 d w1 x r1 e1 dv z => ?_
  cases hz : f w1 d with
  | none => rw [hz] at z; exact z.elim
  | some y =>
    rw [hz] at z
    exact ⟨g1, w1, d, y, x.k.trans hK, r1, dv, hz, z⟩
theorem pf_callB {f : Ws → List PyData → Option PyData} {id : String} {x : Str} {e : Expr} {es : List Expr} {fa : FA} {p pos : Pos} (hc : CallR X (.builtin id) (rDN X.K f)) (hg : Gl X x) (hm : X.mg x = none) (hv : bootBuiltins x = some (.builtin id)) (ha : PAf X W (e :: es) fa)
    (hn : x ≠ "__name__" := by decide) (hdb : (x == ("__debug__" : Str)) = false := by decide) (hs : starEach (e :: es) X.env = (false, eval e X.env) :: starEach es X.env := by rfl) (hpl : (backTo pos (starEach es X.env)).any (·.1) = false := by rfl) :
    PF X W (.Call (.Name x p) (e :: es) [] pos) (eCb f fa) := pe_imp (pe_callB hc hg hm hv ha hn hdb hs hpl) tCB_of
theorem pf_callTy {f : Ws → List PyData → Option PyData} {id : String} {x : Str} {e : Expr} {es : List Expr} {fa : FA} {p pos : Pos} (hc : CallR X (.type id) (rDN X.K f)) (hg : Gl X x) (hm : X.mg x = none) (hv : bootBuiltins x = some (.type id)) (ha : PAf X W (e :: es) fa)
    (hn : x ≠ "__name__" := by decide) (hdb : (x == ("__debug__" : Str)) = false := by decide) (hs : starEach (e :: es) X.env = (false, eval e X.env) :: starEach es X.env := by rfl) (hpl : (backTo pos (starEach es X.env)).any (·.1) = false := by rfl) :
    PF X W (.Call (.Name x p) (e :: es) [] pos) (eCb f fa) := pe_imp (pe_callTy hc hg hm hv ha hn hdb hs hpl) tCB_of

def lenD (w : Ws) : List PyData → Option PyData
  | [.str z] => if szOk z.length then some (.int z.length) else none
  | [.tuple ds] => some (.int ds.length)
  | [d] => (lstOf w d).map fun ds => .int ds.length
  | _ => none
theorem call_lenX : CallR X (.builtin "len") (rDN X.K lenD) := by
  intro pins s σ H xs us Q I rv ⟨g, w, ds, z, hK, r, dx, hz, q⟩
  unfold lenD at hz
  split at hz
  · cases dx with
    | cons d0 dn =>
      cases dn; cases d0
      split at hz
      · rename_i hs
        cases hz
        exact call_len pins s σ H _ us Q I rv ⟨_, _, rfl, ⟨of_decide_eq_true hs, rfl⟩, q _ H g (Xt.refl g) r (.int _)⟩
      · cases hz
  · cases dx with
    | cons d0 dn =>
      cases dn
      cases d0 with
      | tup s1 d1 =>
        cases hz
        exact call_len pins s σ H _ us Q I rv ⟨_, _, rfl, .inr ⟨_, hK ▸ r.sqT s1, rfl⟩, by rw [d1.length]; exact q _ H g (Xt.refl g) r (.int _)⟩
  · cases dx with
    | cons d0 dn =>
      cases dn
      obtain ⟨l, hl, rfl⟩ := Option.map_eq_some_iff.mp hz
      obtain ⟨a, xs, rfl, sq, da⟩ := lstOf_ok r d0 hl
      exact call_len pins s σ H _ us Q I rv ⟨_, _, rfl, .inl ⟨_, hK ▸ sq, rfl⟩, by rw [da.length]; exact q _ H g (Xt.refl g) r (.int _)⟩
  · cases hz
/-- all, any of a list of True, False -/
def boolsOf : List PyData → Option (List Bool)
  | [] => some []
  | .bool b :: r => (boolsOf r).map (b :: ·)
  | _ :: _ => none
theorem boolsOf_ok {g : Gd} : ∀ {vs : List V} {ds : List PyData} {bs : List Bool}, DqA g vs ds → boolsOf ds = some bs → vs = bs.map V.bl
  | _, _, _, .nil, e => by cases e; rfl
  | _, _, _, .cons h t, e => by
    cases h with
    | bl b =>
      obtain ⟨bs, hb, rfl⟩ := Option.map_eq_some_iff.mp e
      rw [boolsOf_ok t hb]
      rfl
    | _ => cases e
def qD (f : List Bool → Bool) (w : Ws) : List PyData → Option PyData
  | [d] => ((lstOf w d).bind boolsOf).map fun bs => .bool (f bs)
  | _ => none
abbrev allD := qD (fun bs => bs.all id)
abbrev anyD := qD (fun bs => bs.any id)
theorem call_qX {fn : Value} {f : List Bool → Bool} (h : CallR X fn (fun vs H Q => ∃ (a : Addr) (bs : List Bool), vs = [V.ref a] ∧ SqL X.K H a (bs.map V.bl) ∧ Q (.bl (f bs)) H)) : CallR X fn (rDN X.K (qD f)) := by
  intro pins s σ H xs us Q I rv ⟨g, w, ds, z, hK, r, dx, hz, q⟩
  unfold qD at hz
  split at hz
  · cases dx with
    | cons d0 dn =>
      cases dn
      obtain ⟨bs, hb, rfl⟩ := Option.map_eq_some_iff.mp hz
      obtain ⟨l, hl, hb⟩ := Option.bind_eq_some_iff.mp hb
      obtain ⟨a, xs, rfl, sq, da⟩ := lstOf_ok r d0 hl
      have e := boolsOf_ok da hb
      subst e
      exact h pins s σ H _ us Q I rv ⟨a, bs, rfl, hK ▸ sq, q _ H g (Xt.refl g) r (.bl _)⟩
  · cases hz
theorem call_allX (hc : X.calm = true) : CallR X (.builtin "all") (rDN X.K allD) := call_qX (cr_all hc)
theorem call_anyX (hc : X.calm = true) : CallR X (.builtin "any") (rDN X.K anyD) := call_qX (cr_any hc)
/-- list(x), tuple(x) -/
def listD (w : Ws) : List PyData → Option PyData
  | [.tuple ds] => some (.list ds)
  | [d] => (lstOf w d).map fun ds => .list ds
  | _ => none
theorem call_listX : CallR X (.type "list") (rDN X.K listD) := by
  intro pins s σ H xs us Q I rv ⟨g, w, ds, z, hK, r, dx, hz, q⟩
  unfold listD at hz
  split at hz
  · cases dx with
    | cons d0 dn =>
      cases dn
      cases d0 with
      | tup s1 d1 =>
        cases hz
        exact call_list_of pins s σ H _ us Q I rv ⟨_, _, rfl, .inr (hK ▸ r.sqT s1), fun p hp => q _ _ _ (Xt.put (r.fnone hp)) (r.put hp) (newL r hp d1)⟩
  · cases dx with
    | cons d0 dn =>
      cases dn
      obtain ⟨l, hl, rfl⟩ := Option.map_eq_some_iff.mp hz
      obtain ⟨a, xs, rfl, sq, da⟩ := lstOf_ok r d0 hl
      exact call_list_of pins s σ H _ us Q I rv ⟨_, _, rfl, .inl (hK ▸ sq), fun p hp => q _ _ _ (Xt.put (r.fnone hp)) (r.put hp) (newL r hp da)⟩
  · cases hz
def tupleD (w : Ws) : List PyData → Option PyData
  | [.tuple ds] => some (.tuple ds)
  | [d] => (lstOf w d).map fun ds => .tuple ds
  | _ => none
theorem call_tupleX : CallR X (.type "tuple") (rDN X.K tupleD) := by
  intro pins s σ H xs us Q I rv ⟨g, w, ds, z, hK, r, dx, hz, q⟩
  unfold tupleD at hz
  split at hz
  · cases dx with
    | cons d0 dn =>
      cases dn
      cases d0 with
      | tup s1 d1 =>
        cases hz
        exact call_tuple_of pins s σ H _ us Q I rv ⟨_, _, rfl, .inr ⟨hK ▸ r.sqT s1, q _ H g (Xt.refl g) r (.tup s1 d1)⟩⟩
  · cases dx with
    | cons d0 dn =>
      cases dn
      obtain ⟨l, hl, rfl⟩ := Option.map_eq_some_iff.mp hz
      obtain ⟨a, xs, rfl, sq, da⟩ := lstOf_ok r d0 hl
      exact call_tuple_of pins s σ H _ us Q I rv ⟨_, _, rfl, .inl ⟨hK ▸ sq, fun p hp => q _ _ _ (Xt.put (r.fnone hp)) (r.put hp) (newT r hp da)⟩⟩
  · cases hz
/-- int(n), str(n) -/
def toInt (_ : Ws) : List PyData → Option PyData
  | [.int i] => some (.int i)
  | [.bool b] => some (.int (if b = true then 1 else 0))
  | _ => none
theorem call_intX : CallR X (.type "int") (rDN X.K toInt) := by
  intro pins s σ H xs us Q I rv ⟨g, w, ds, z, hK, r, dx, hz, q⟩
  unfold toInt at hz
  split at hz
  · cases dx with
    | cons d0 dn =>
      cases dn; cases d0; cases hz
      exact call_int1 pins s σ H _ us Q I rv (.inl ⟨_, rfl, q _ H g (Xt.refl g) r (.int _)⟩)
  · cases dx with
    | cons d0 dn =>
      cases dn; cases d0; cases hz
      exact call_int1 pins s σ H _ us Q I rv (.inr ⟨_, rfl, q _ H g (Xt.refl g) r (.int _)⟩)
  · cases hz
def toStr (_ : Ws) : List PyData → Option PyData
  | [.int i] => if decide (i.natAbs.log2 < 1920) then some (.str (toString i)) else none
  | [.bool b] => some (.str (if b then "True" else "False"))
  | _ => none
theorem call_strX : CallR X (.type "str") (rDN X.K toStr) := by
  intro pins s σ H xs us Q I rv ⟨g, w, ds, z, hK, r, dx, hz, q⟩
  unfold toStr at hz
  split at hz
  · cases dx with
    | cons d0 dn =>
      cases dn; cases d0
      split at hz
      · rename_i hs
        cases hz
        exact call_str_int pins s σ H _ us Q I rv ⟨_, rfl, of_decide_eq_true hs, q _ H g (Xt.refl g) r (.str _)⟩
      · cases hz
  · cases dx with
    | cons d0 dn =>
      cases dn; cases d0
      cases hz
      obtain ⟨u, rfl, rb⟩ := vals1 rv
      cases rb
      exact PySem.P.str_of_bool ⟨.str _, H, I.tok _, ⟨_, rfl⟩, q _ H g (Xt.refl g) r (.str _)⟩
  · cases hz
/-- isinstance(x, T), T built in -/
def tyD (w : Ws) : PyData → Option String
  | .none => some "NoneType"
  | .bool _ => some "bool"
  | .int _ => some "int"
  | .str _ => some "str"
  | .list _ => some "list"
  | .tuple _ => some "tuple"
  | d => match dkOf w d with
    | some _ => some "dict"
    | none => (lstOf w d).map fun _ => "list"
theorem tyD_ok {g : Gd} {H : Hp} {w : Ws} (r : Rp g H w) {v : V} {d : PyData} (h : Dq g v d) {T : String} (e : tyD w d = some T) : TyX g.K H v (.type T) := by
  cases h with
  | non => cases e; exact .base (.non)
  | bl => cases e; exact .base (.bl _)
  | int => cases e; exact .base (.int _)
  | str => cases e; exact .base (.str _)
  | lst a da =>
    cases e
    rcases r.sqL a with (h | ⟨o, h⟩) | ⟨o, _, _, h, hc, _⟩
    · exact .base (.lst h)
    · exact .base (.frz h)
    · exact .kList h hc
  | tup a da =>
    cases e
    rcases r.sqT a with (h | ⟨o, h⟩) | ⟨o, _, _, h, hc, _⟩
    · exact .base (.tup h)
    · exact .fTuple h
    · exact .kTuple h hc
  | @ref l hl =>
    unfold tyD at e
    split at e <;> (try (rename_i hq; cases hq; done))
    split at e
    · rename_i ks hk
      cases e
      obtain ⟨l', xs, e1, _, _, _, hH, _⟩ := dkOf_ok r (.ref hl) hk
      rw [e1]
      exact .base (.dK hH)
    · obtain ⟨l2, hl2, rfl⟩ := Option.map_eq_some_iff.mp e
      obtain ⟨a, xs, e1, sq, da⟩ := lstOf_ok r (.ref hl) hl2
      rw [e1]
      rcases sq with (h | ⟨o, h⟩) | ⟨o, _, _, h, hc, _⟩
      · exact .base (.lst h)
      · exact .base (.frz h)
      · exact .kList h hc
def eIsi (T : String) (fa : FE) : FE := fun ρ w => (fa ρ w).bind fun d w1 => match (tyD w1 d).bind fun t => kitB t T with
  | some b => .ok (.bool b) w1
  | none => .no
theorem pf_isi {T : String} {x : Str} {a : Expr} {fa : FE} {p p2 pos : Pos} (ha : PF X W a fa) (hg : Gl X "isinstance") (hm : X.mg "isinstance" = none) (hgT : Gl X x) (hmT : X.mg x = none) (hv : bootBuiltins x = some (.type T)) (hn : x ≠ "__name__" := by decide) (hd : (x == ("__debug__" : Str)) = false := by decide)
    (hs1 : starEach [a, .Name x p2] X.env = (false, eval a X.env) :: starEach [.Name x p2] X.env := by rfl) (hs2 : starEach [.Name x p2] X.env = (false, eval (.Name x p2) X.env) :: starEach [] X.env := by rfl) (hpl : (backTo pos (starEach [.Name x p2] X.env)).any (·.1) = false := by rfl) :
    PF X W (.Call (.Name "isinstance" p) [a, .Name x p2] [] pos) (eIsi T fa) := by
  refine pe_imp (pe_callB call_isi hg hm (by decide +kernel) (pa_cons ha (pa_cons (pe_bltn (v := .ty T) hgT hmT hv rfl hn hd) pa_nil hs2) hs1) (by decide) (by decide) hs1 hpl) fun σ H Q ⟨g, ρ, w, hK, r, e, q⟩ => ?_
  refine lX_bind hK r e q fun v H1 g1 d w1 y r1 e1 dv z => ?_
  split at z
  · rename_i b hb
    obtain ⟨t, ht, hk⟩ := Option.bind_eq_some_iff.mp hb
    exact ⟨v, .ty T, .type t, .type T, b, rfl, .ty T, hK ▸ y.k ▸ tyD_ok r1 dv ht, kit_ty hk, z _ _ _ (Xt.refl _) r1 (.bl _)⟩
  · exact z.elim
end
end Td

set_option Elab.async false
set_option linter.all false
set_option maxRecDepth 100000
set_option maxHeartbeats 4000000
namespace Td
open PySem L2
/-! ### statements -/
def oSt (W : WX) (g : Gd) (D : Ends) : Os → Prop
  | .nx ρ w => ∀ σ H g', Xt g g' → Rp g' H w → EnR g' σ ρ → D.nx σ H
  | .rt d w => ∀ v H g', Xt g g' → Rp g' H w → Dq g' v d → D.rt v H
  | .bk ρ w => ∀ σ H g', Xt g g' → Rp g' H w → EnR g' σ ρ → D.bk σ H
  | .ct ρ w => ∀ σ H g', Xt g g' → Rp g' H w → EnR g' σ ρ → D.ct σ H
  | .ex ρ c fs w => ∀ dd σ H g', Xt g g' → Rp g' H w → EnR g' σ ρ → XdR g' H fs dd → W c dd σ H
  | .no => False
def lS (K : PySem.W.Frag) (W : WX) (f : FS) : TS := fun D σ H => ∃ g ρ w, g.K = K ∧ Rp g H w ∧ EnR g σ ρ ∧ oSt W g D (f ρ w)
abbrev PSf (X : Cx) (W : WX) (st : Stmt) (f : FS) : Prop := PS X st (lS X.K W f)
abbrev PSsf (X : Cx) (W : WX) (st : List Stmt) (f : FS) : Prop := PSs X st (lS X.K W f)
theorem oSt.mono {W : WX} {g g' : Gd} {D : Ends} (x : Xt g g') : ∀ {o : Os}, oSt W g D o → oSt W g' D o
  | .nx _ _, h => fun σ H g2 y r e => h σ H g2 (x.trans y) r e
  | .rt _ _, h => fun σ H g2 y r e => h σ H g2 (x.trans y) r e
  | .bk _ _, h => fun σ H g2 y r e => h σ H g2 (x.trans y) r e
  | .ct _ _, h => fun σ H g2 y r e => h σ H g2 (x.trans y) r e
  | .ex _ _ _ _, h => fun d σ H g2 y r e q => h d σ H g2 (x.trans y) r e q
  | .no, h => h
/-- an expression first -/
def Oc.thenS {α : Type} (x : Oc α) (ρ : Ev) (k : α → Ws → Os) : Os := match x with
  | .ok a w => k a w
  | .ex c fs w => .ex ρ c fs w
  | .no => .no
theorem lX_then {α β : Type} {W : WX} {R : Gd → β → α → Prop} {f : Ev → Ws → Oc α} {k : α → Ws → Os} {σ : St} {H : Hp} {g : Gd} {ρ : Ev} {w : Ws} {D : Ends} {T : β → Hp → Prop}
    {K : PySem.W.Frag} (hK : g.K = K) (r : Rp g H w) (e : EnR g σ ρ) (h : oSt W g D ((f ρ w).thenS ρ k))
    (hT : ∀ v H1 g1 d w1, Xt g g1 → Rp g1 H1 w1 → EnR g1 σ ρ → R g1 v d → oSt W g1 D (k d w1) → T v H1) : lX K W R f σ H T := by
  refine ⟨g, ρ, w, hK, r, e, ?_⟩
  cases q : f ρ w with
  | ok d w1 =>
    rw [q] at h
    exact fun v H1 g1 x r1 z => hT v H1 g1 d w1 x r1 (e.mono x) z (oSt.mono x h)
  | ex c fs w1 =>
    rw [q] at h
    exact fun dd H1 g1 x r1 z => h dd σ H1 g1 x r1 (e.mono x) z
  | no =>
    rw [q] at h
    exact h
section
variable {X : Cx} {W : WX}
def sNil : FS := fun ρ w => .nx ρ w
def sSeq (f k : FS) : FS := fun ρ w => match f ρ w with
  | .nx ρ1 w1 => k ρ1 w1
  | o => o
theorem pssf_nil : PSsf X W [] sNil := pss_imp pss_nil fun D σ H ⟨g, ρ, w, hK, r, e, q⟩ => q σ H g (Xt.refl g) r e
theorem pssf_cons {st : Stmt} {rest : List Stmt} {f k : FS} (h1 : PSf X W st f) (h2 : PSsf X W rest k) : PSsf X W (st :: rest) (sSeq f k) := by
  refine pss_imp (pss_cons h1 h2) fun D σ H ⟨g, ρ, w, hK, r, e, q⟩ => ?_
  refine ⟨g, ρ, w, hK, r, e, ?_⟩
  unfold sSeq at q
  cases z : f ρ w with
  | nx ρ1 w1 =>
    rw [z] at q
    exact fun σ' H' g' x r' e' => ⟨g', ρ1, w1, x.k.trans hK, r', e', oSt.mono x q⟩
  | rt d w1 => rw [z] at q; exact q
  | bk ρ1 w1 => rw [z] at q; exact q
  | ct ρ1 w1 => rw [z] at q; exact q
  | ex ρ1 c fs w1 => rw [z] at q; exact q
  | no => rw [z] at q; exact q
theorem pssf_one {st : Stmt} {f : FS} (h1 : PSf X W st f) : PSsf X W [st] f := pss_one h1
def sRet (f : FE) : FS := fun ρ w => (f ρ w).thenS ρ fun d w1 => .rt d w1
theorem psf_ret {e : Expr} {pos : Pos} {f : FE} (he : PF X W e f) : PSf X W (.Return (some e) pos) (sRet f) := by
  refine ps_imp (ps_ret he) fun D σ H ⟨g, ρ, w, hK, r, e, q⟩ => ?_
  exact lX_then hK r e q fun v H1 g1 d w1 x r1 e1 dv z => z v H1 g1 (Xt.refl _) r1 dv
def sExp (f : FE) : FS := fun ρ w => (f ρ w).thenS ρ fun _ w1 => .nx ρ w1
theorem psf_expr {e : Expr} {pos : Pos} {f : FE} (he : PF X W e f) (hs : swapsWith e none pos.line X.env = pure false := by rfl) : PSf X W (.Expr e pos) (sExp f) := by
  refine ps_imp (ps_expr he hs) fun D σ H ⟨g, ρ, w, hK, r, e, q⟩ => ?_
  exact lX_then hK r e q fun v H1 g1 d w1 x r1 e1 dv z => z σ H1 g1 (Xt.refl _) r1 e1
def sPass : FS := fun ρ w => .nx ρ w
theorem psf_pass {pos : Pos} : PSf X W (.Pass pos) sPass := ps_imp ps_pass fun D σ H ⟨g, ρ, w, hK, r, e, q⟩ => q σ H g (Xt.refl g) r e
def sBrk : FS := fun ρ w => .bk ρ w
theorem psf_break {pos : Pos} : PSf X W (.Break pos) sBrk := ps_imp ps_break fun D σ H ⟨g, ρ, w, hK, r, e, q⟩ => q σ H g (Xt.refl g) r e
def sCnt : FS := fun ρ w => .ct ρ w
theorem psf_continue {pos : Pos} : PSf X W (.Continue pos) sCnt := ps_imp ps_continue fun D σ H ⟨g, ρ, w, hK, r, e, q⟩ => q σ H g (Xt.refl g) r e
def sIf (t : FT) (f k : FS) : FS := fun ρ w => (t ρ w).thenS ρ fun b w1 => cond b (f ρ w1) (k ρ w1)
theorem psf_if {c : Expr} {a b : List Stmt} {pos : Pos} {t : FT} {f k : FS} (hc : PTf X W c t) (ha : PSsf X W a f) (hb : PSsf X W b k) : PSf X W (.If c a b pos) (sIf t f k) := by
  refine ps_imp (ps_if hc ha hb) fun D σ H ⟨g, ρ, w, hK, r, e, q⟩ => ?_
  refine lX_then hK r e q fun v H1 g1 d w1 x r1 e1 dv z => ?_
  subst dv
  cases v with
  | true => exact iteT ⟨g1, ρ, w1, x.k.trans hK, r1, e1, z⟩
  | false => exact iteF ⟨g1, ρ, w1, x.k.trans hK, r1, e1, z⟩

/-! ### targets -/
abbrev FG := PyData → Ev → Ws → Oc Ev
def Sm (is : List Nat) (σ σ' : St) : Prop := σ'.length = σ.length ∧ ∀ j, j ∉ is → σ'[j]? = σ[j]?
theorem Sm.refl (is : List Nat) (σ : St) : Sm is σ σ := ⟨rfl, fun _ _ => rfl⟩
theorem Sm.trans {is js : List Nat} {σ σ1 σ2 : St} (a : Sm is σ σ1) (b : Sm js σ1 σ2) : Sm (is ++ js) σ σ2 :=
  ⟨b.1.trans a.1, fun j h => (b.2 j fun z => h (List.mem_append_right _ z)).trans (a.2 j fun z => h (List.mem_append_left _ z))⟩
def lG (K : PySem.W.Frag) (is : List Nat) (f : FG) : TG := fun v σ H Q => ∃ g ρ w d, g.K = K ∧ Rp g H w ∧ EnR g σ ρ ∧ Dq g v d ∧ match f d ρ w with
  | .ok ρ' w' => ∀ σ' H' g', Xt g g' → Rp g' H' w' → EnR g' σ' ρ' → Sm is σ σ' → Q σ' H'
  | _ => False
theorem pg_imp {e : Expr} {t t' : TG} (h : PG X e t) (i : ∀ v σ H Q, t' v σ H Q → t v σ H Q) : PG X e t' := ⟨fun pins s σ H v u Q I r q => h.run pins s σ H v u Q I r (i v σ H Q q)⟩
abbrev PGf (X : Cx) (is : List Nat) (tg : Expr) (f : FG) : Prop := PG X tg (lG X.K is f)
def gN (i : Nat) : FG := fun d ρ w => .ok (ρ.set i (some d)) w
theorem pgf_name {i : Nat} {x : Str} {pos : Pos} (hN : X.N.Nodup) (hi : X.N[i]? = some x) (hx : Loc X.env.scope x) (hf : X.fn x = true ∨ X.env.scope.names.lookup x = some .local := by first | exact .inl rfl | exact .inr rfl) : PGf X [i] (.Name x pos) (gN i) := by
  refine pg_imp (pg_name hN hi hx hf) fun v σ H Q ⟨g, ρ, w, d, hK, r, e, dv, q⟩ => ?_
  refine q _ H g (Xt.refl g) r (e.set i dv) ⟨List.length_set, fun j hj => ?_⟩
  rw [List.getElem?_set_ne]
  exact fun z => hj (by rw [z]; exact List.mem_singleton.mpr rfl)
/-- a, b = .. : a tuple taken apart -/
abbrev FGs := List PyData → Ev → Ws → Oc Ev
def lGs (K : PySem.W.Frag) (is : List Nat) (f : FGs) : TGs := fun vs σ H Q => ∃ g ρ w ds, g.K = K ∧ Rp g H w ∧ EnR g σ ρ ∧ DqA g vs ds ∧ match f ds ρ w with
  | .ok ρ' w' => ∀ σ' H' g', Xt g g' → Rp g' H' w' → EnR g' σ' ρ' → Sm is σ σ' → Q σ' H'
  | _ => False
def gZ : FGs := fun ds ρ w => match ds with
  | [] => .ok ρ w
  | _ => .no
def gC (f : FG) (k : FGs) : FGs := fun ds ρ w => match ds with
  | d :: r => (f d ρ w).bind fun ρ1 w1 => k r ρ1 w1
  | [] => .no
def gT (n : Nat) (f : FGs) : FG := fun d ρ w => match d with
  | .tuple ds => if ds.length = n then f ds ρ w else .no
  | _ => .no
theorem pgs_imp {e : List Expr} {t t' : TGs} (h : PGs X e t) (i : ∀ v σ H Q, t' v σ H Q → t v σ H Q) : PGs X e t' := ⟨fun pins s σ H v u Q I r q => h.run pins s σ H v u Q I r (i v σ H Q q)⟩

theorem pgsf_nil : PGs X [] (lGs X.K [] gZ) := by
  refine pgs_imp pgs_nil fun vs σ H Q ⟨g, ρ, w, ds, hK, r, e, dv, q⟩ => ?_
  cases dv with
  | nil => exact ⟨rfl, q σ H g (Xt.refl g) r e (Sm.refl _ _)⟩
  | cons a b => exact q.elim
theorem pgsf_cons {e : Expr} {es : List Expr} {is js : List Nat} {f : FG} {k : FGs} (h1 : PGf X is e f) (h2 : PGs X es (lGs X.K js k))
    (hs : List.map (fun x => x.snd) (assignEach (e :: es) X.env) = assign e X.env :: List.map (fun x => x.snd) (assignEach es X.env) := by rfl) : PGs X (e :: es) (lGs X.K (is ++ js) (gC f k)) := by
  refine pgs_imp (pgs_cons h1 h2 hs) fun vs σ H Q ⟨g, ρ, w, ds, hK, r, e, dv, q⟩ => ?_
  cases dv with
  | nil => exact q.elim
  | @cons v vs d ds a b =>
    refine ⟨v, vs, rfl, g, ρ, w, d, hK, r, e, a, ?_⟩
    simp only [gC] at q
    cases z : f d ρ w with
    | ok ρ1 w1 =>
      rw [z] at q
      refine fun σ' H' g' x r' e' sm => ⟨g', ρ1, w1, ds, x.k.trans hK, r', e', b.mono x _ _, ?_⟩
      have q : (match k ds ρ1 w1 with
        | .ok ρ' w' => ∀ σ' H' g', Xt g g' → Rp g' H' w' → EnR g' σ' ρ' → Sm (is ++ js) σ σ' → Q σ' H'
        | _ => False) := q
      split at q
      · exact fun σ2 H2 g2 x2 r2 e2 sm2 => q σ2 H2 g2 (x.trans x2) r2 e2 (sm.trans sm2)
      · exact q.elim
    | ex c fs w1 => rw [z] at q; exact q.elim
    | no => rw [z] at q; exact q.elim
theorem pgf_tup {es : List Expr} {k n : Nat} {pos : Pos} {is : List Nat} {f : FGs} (hc : X.calm = true) (h : PGs X es (lGs X.K is f)) (hl : (assignEach es X.env).length = n := by rfl) (hf : List.findIdx? (fun x => x.fst) (assignEach es X.env) = none := by rfl) : PGf X is (.Tuple es k pos) (gT n f) := by
  refine pg_imp (pg_tup hc h hl hf) fun v σ H Q ⟨g, ρ, w, d, hK, r, e, dv, q⟩ => ?_
  unfold gT at q
  cases dv with
  | @tup a xs ds sq da =>
    by_cases hn : ds.length = n
    · simp only [if_pos hn] at q
      exact ⟨_, _, rfl, hK ▸ r.sqT sq, by rw [da.length]; exact hn, g, ρ, w, _, hK, r, e, da, q⟩
    · simp only [if_neg hn] at q
  | _ => exact q.elim
/-! ### assignments -/
def sAsg (f : FE) (gt : FG) : FS := fun ρ w => (f ρ w).thenS ρ fun d w1 => match gt d ρ w1 with
  | .ok ρ' w' => .nx ρ' w'
  | _ => .no
theorem asg_of {f : FE} {gt : FG} {is : List Nat} {K : PySem.W.Frag} : ∀ D σ H, lS K W (sAsg f gt) D σ H → tAsg (lE K W f) (lG K is gt) D σ H := fun D σ H ⟨g, ρ, w, hK, r, e, q⟩ => by
  refine lX_then hK r e q fun v H1 g1 d w1 x r1 e1 dv z => ?_
  refine ⟨g1, ρ, w1, d, x.k.trans hK, r1, e1, dv, ?_⟩
  cases y : gt d ρ w1 with
  | ok ρ' w' =>
    rw [y] at z
    exact fun σ' H' g' x' r' e' _ => z σ' H' g' x' r' e'
  | ex c fs w2 => rw [y] at z; exact z.elim
  | no => rw [y] at z; exact z.elim
theorem psf_asg {tg e : Expr} {pos : Pos} {f : FE} {gt : FG} {is : List Nat} (he : PF X W e f) (hg : PGf X is tg gt) (hs : swapsWithSole [tg] e pos.line X.env = pure false := by rfl) (hw : swappedStores [tg] e X.env = pure none := by rfl) (h1 : (assignEach [tg] X.env).map (·.2) = [assign tg X.env] := by rfl) : PSf X W (.Assign [tg] e pos) (sAsg f gt) :=
  ps_imp (ps_asg he hg hs hw h1) asg_of
theorem psf_set {i : Nat} {x : Str} {e : Expr} {pos' pos : Pos} {f : FE} (hN : X.N.Nodup) (hi : X.N[i]? = some x) (hx : Loc X.env.scope x) (he : PF X W e f) (hs : swapsWith e (some (.Name x pos')) pos.line X.env = pure false := by rfl) (hf : X.fn x = true ∨ X.env.scope.names.lookup x = some .local := by first | exact .inl rfl | exact .inr rfl) :
    PSf X W (.Assign [.Name x pos'] e pos) (sAsg f (gN i)) := by
  refine ps_imp (ps_set hN hi hx he hs hf) fun D σ H ⟨g, ρ, w, hK, r, e, q⟩ => ?_
  exact lX_then hK r e q fun v H1 g1 d w1 x r1 e1 dv z => z _ H1 g1 (Xt.refl _) r1 (e1.set i dv)
/-- a, b = e1, e2 -/
def sPar (i j : Nat) (fa : FA) : FS := fun ρ w => (fa ρ w).thenS ρ fun ds w1 => match ds with
  | [a, b] => .nx ((ρ.set i (some a)).set j (some b)) w1
  | _ => .no
theorem par_of {i j : Nat} {fa : FA} {K : PySem.W.Frag} : ∀ D σ H, lS K W (sPar i j fa) D σ H → tPar i j (lA K W fa) D σ H := fun D σ H ⟨g, ρ, w, hK, r, e, q⟩ => by
  refine lX_then hK r e q fun v H1 g1 d w1 x r1 e1 dv z => ?_
  split at z
  · cases dv with
    | cons d0 dn =>
      cases dn with
      | cons d1 dn =>
        cases dn
        exact ⟨_, _, rfl, z _ H1 g1 (Xt.refl _) r1 ((e1.set i d0).set j d1)⟩
  · exact z.elim

/-! ### what is walked -/
structure WkD (J : It) (g : Gd) (ds : List PyData) : Prop where
  stop : ∀ g' H w, Xt0 g g' → Rp g' H w → J.stop ds.length H
  go : ∀ g' H w i, Xt0 g g' → Rp g' H w → i < ds.length → J.go i H
  yld : ∀ g' H w i x H2, Xt0 g g' → Rp g' H w → i < ds.length → J.yld i H x H2 → ∃ g2 d, ds[i]? = some d ∧ Xt g' g2 ∧ Rp g2 H2 w ∧ Dq g2 x d
theorem WkD.mono {J : It} {g g' : Gd} {ds : List PyData} (k : WkD J g ds) (x : Xt0 g g') : WkD J g' ds :=
  ⟨fun a b c y r => k.stop a b c (x.trans y) r, fun a b c i y r h => k.go a b c i (x.trans y) r h, fun a b c i v d y r h z => k.yld a b c i v d (x.trans y) r h z⟩
def lI (K : PySem.W.Frag) (W : WX) (f : FA) : TI := lX K W (fun g J ds => WkD J g ds) f
theorem pi_imp {tg e : Expr} {t t' : TI} (h : PI X tg e t) (i : ∀ σ H R, t' σ H R → t σ H R) : PI X tg e t' := ⟨fun pins s σ H R I q => h.run pins s σ H R I (i σ H R q)⟩
abbrev PIf (X : Cx) (W : WX) (tg e : Expr) (f : FA) : Prop := PI X tg e (lI X.K W f)
theorem wk_list {g : Gd} {a : Addr} {xs : List V} {ds : List PyData} (h : SqL g.K g.F a xs) (d : DqA g xs ds) : WkD (Itl g.K a) g ds where
  stop := fun g' H w x r => ⟨xs, x.k ▸ r.sqL (x.sqL h), by rw [d.length]; exact Nat.le_refl _⟩
  go := fun g' H w i x r hi => by
    have hi' : i < xs.length := by rw [d.length]; exact hi
    exact ⟨xs, xs[i], x.k ▸ r.sqL (x.sqL h), List.getElem?_eq_getElem hi'⟩
  yld := fun g' H w i v H2 x r hi y => by
    obtain ⟨e, y⟩ := y
    subst e
    have hv := y xs (x.k ▸ r.sqL (x.sqL h))
    obtain ⟨v', h1, h2⟩ := d.get (List.getElem?_eq_getElem hi)
    rw [hv] at h1
    cases h1
    exact ⟨g', ds[i], List.getElem?_eq_getElem hi, Xt.refl _, r, h2.mono x _ _⟩
theorem wk_tup {g : Gd} {a : Addr} {xs : List V} {ds : List PyData} (h : SqT g.K g.F a xs) (d : DqA g xs ds) : WkD (Itt g.K a) g ds where
  stop := fun g' H w x r => ⟨xs, x.k ▸ r.sqT (x.sqT h), by rw [d.length]; exact Nat.le_refl _⟩
  go := fun g' H w i x r hi => by
    have hi' : i < xs.length := by rw [d.length]; exact hi
    exact ⟨xs, xs[i], x.k ▸ r.sqT (x.sqT h), List.getElem?_eq_getElem hi'⟩
  yld := fun g' H w i v H2 x r hi y => by
    obtain ⟨e, y⟩ := y
    subst e
    have hv := y xs (x.k ▸ r.sqT (x.sqT h))
    obtain ⟨v', h1, h2⟩ := d.get (List.getElem?_eq_getElem hi)
    rw [hv] at h1
    cases h1
    exact ⟨g', ds[i], List.getElem?_eq_getElem hi, Xt.refl _, r, h2.mono x _ _⟩
def chD (z : Str) : List PyData := z.cps.toList.map fun c => .str ⟨#[c]⟩
theorem wk_str {g : Gd} {z : Str} : WkD (Its z) g (chD z) where
  stop := fun g' H w x r => by show z.cps.size ≤ _; simp [chD]
  go := fun g' H w i x r hi => by show i < z.cps.size; simpa [chD] using hi
  yld := fun g' H w i v H2 x r hi y => by
    obtain ⟨e, c, hc, rfl⟩ := y
    subst e
    exact ⟨g', .str ⟨#[c]⟩, by simp [chD, hc], Xt.refl _, r, .str _⟩
theorem walk_zipT {K : PySem.W.Frag} {a b : Addr} {xs ys : List V} : Walk (RZ.ItzT K a b) (min xs.length ys.length) (fun H => SqT K H a xs ∧ SqT K H b ys) (YPair (fun i => xs[i]?) (fun i => ys[i]?)) where
  goes := fun i H hi g => ⟨xs, ys, xs[i]'(by omega), ys[i]'(by omega), g.1, g.2, List.getElem?_eq_getElem (by omega), List.getElem?_eq_getElem (by omega)⟩
  stops := fun H g => ⟨xs, ys, g.1, g.2, by omega⟩
  yields := fun i H x H' hi g y => by
    obtain ⟨T, u, v, e, hT, e2, h1, h2⟩ := y
    exact ⟨T, u, v, e, hT, e2, h1 xs g.1, h2 ys g.2⟩
/-- for x in e: a list, a tuple, a text -/
def itD : PyData → Option (List PyData)
  | .list ds => some ds
  | .tuple ds => some ds
  | .str z => some (chD z)
  | _ => none
def iE (f : FE) : FA := fun ρ w => (f ρ w).bind fun d w1 => Oc.of (itD d) w1
def iAny (K : PySem.W.Frag) (te : TE) : TI := fun σ H R => te σ H fun x H1 => (∃ a xs, x = .ref a ∧ SqL K H1 a xs ∧ R (Itl K a) H1) ∨ (∃ a xs, x = .ref a ∧ SqT K H1 a xs ∧ R (Itt K a) H1) ∨ ∃ z, x = .str z ∧ R (Its z) H1
theorem pi_any {tg e : Expr} {te : TE} (he : PE X e te) : PI X tg e (iAny X.K te) := by
  refine ⟨fun pins s σ H R I h => thn (he.run pins s σ H _ I h) fun v s1 ⟨y, H1, I1, r1, q⟩ => ?_⟩
  rcases q with ⟨a, xs, rfl, sq, q⟩ | ⟨a, xs, rfl, sq, q⟩ | ⟨z, rfl, q⟩
  · cases r1
    obtain ⟨its, _, pl, _⟩ := I1.list sq
    exact wpAny_pyIter_list pl.isList (pi_one (tk := s1.toks) I1 _ (turn_list a _) ⟨_, Heap.get?_push_size _ rfl, rfl, rfl⟩ q)
  · cases r1
    obtain ⟨its, _, pl, _⟩ := I1.tuple sq
    exact wpAny_pyIter_tuple pl (pi_one (tk := s1.toks) I1 _ (turn_tuple a _) ⟨_, Heap.get?_push_size _ rfl, rfl, rfl⟩ q)
  · obtain ⟨t, rfl⟩ := r1
    cases hq : z.cps.all fun c => c < 128 with
    | false => exact wpAny_pyIter_wide hq (pi_one (tk := s1.toks) I1 _ (turn_str _ z t "str_iterator" (Or.inr rfl)) ⟨_, Heap.get?_push_size _ rfl, rfl, rfl⟩ q)
    | true => exact wpAny_pyIter_ascii hq (pi_one (tk := s1.toks) I1 _ (turn_str _ z t "str_ascii_iterator" (Or.inl rfl)) ⟨_, Heap.get?_push_size _ rfl, rfl, rfl⟩ q)
theorem pif_any {tg e : Expr} {f : FE} (he : PF X W e f) : PIf X W tg e (iE f) := by
  refine pi_imp (pi_any he) fun σ H R ⟨g, ρ, w, hK, r, e, q⟩ => ?_
  refine lX_bind hK r e q fun v H1 g1 d w1 x r1 e1 dv z => ?_
  have hK1 := x.k.trans hK
  cases dv with
  | lst sq da => exact .inl ⟨_, _, rfl, hK1 ▸ r1.sqL sq, hK1 ▸ z _ H1 g1 (Xt.refl _) r1 (wk_list sq da)⟩
  | tup sq da => exact .inr (.inl ⟨_, _, rfl, hK1 ▸ r1.sqT sq, hK1 ▸ z _ H1 g1 (Xt.refl _) r1 (wk_tup sq da)⟩)
  | str y => exact .inr (.inr ⟨_, rfl, z _ H1 g1 (Xt.refl _) r1 wk_str⟩)
  | _ => exact z.elim
/-- range(n), range(a, b) -/
def rgD (lo hi : Int) : List PyData := (List.range (hi - lo).toNat).map fun i => .int (lo + (i : Nat))
theorem wk_rng {g : Gd} {lo hi : Int} : WkD (Itr lo (hi - lo).toNat) g (rgD lo hi) where
  stop := fun g' H w x r => by show (hi - lo).toNat ≤ _; simp [rgD]
  go := fun g' H w i x r hi' => by show i < (hi - lo).toNat; simpa [rgD] using hi'
  yld := fun g' H w i v H2 x r hi' y => by
    obtain ⟨e, rfl⟩ := y
    subst e
    have hi2 : i < (hi - lo).toNat := by simpa [rgD] using hi'
    exact ⟨g', .int (lo + (i : Nat)), by simp [rgD, hi2], Xt.refl _, r, .int _⟩
def c62 (i : Int) : Bool := decide (i.natAbs < 2 ^ 61)
def iR1 (fa : FA) : FA := fun ρ w => (fa ρ w).bind fun ds w1 => match ds with
  | [.int j] => Oc.on (c62 j) (.ok (rgD 0 j) w1)
  | _ => .no
def iR2 (fa : FA) : FA := fun ρ w => (fa ρ w).bind fun ds w1 => match ds with
  | [.int i, .int j] => Oc.on (c62 i && c62 j) (.ok (rgD i j) w1)
  | _ => .no
theorem pif_range1 {tg a : Expr} {fa : FA} {p pos : Pos} (hg : Gl X "range") (hm : X.mg "range" = none) (ha : PAf X W [a] fa) (hs : starEach [a] X.env = [(false, eval a X.env)] := by rfl) : PIf X W tg (.Call (.Name "range" p) [a] [] pos) (iR1 fa) := by
  refine pi_imp (pi_range1 hg hm ha hs) fun σ H R ⟨g, ρ, w, hK, r, e, q⟩ => ?_
  refine lX_bind hK r e q fun v H1 g1 d w1 x r1 e1 dv z => ?_
  split at z
  · cases dv with
    | cons d0 dn =>
      cases dn; cases d0
      obtain ⟨hb, z⟩ := z.on
      have hb := of_decide_eq_true hb
      refine ⟨_, rfl, by omega, by omega, ?_⟩
      have := z _ H1 g1 (Xt.refl _) r1 (wk_rng (lo := 0))
      rw [Int.sub_zero] at this
      exact this
  · exact z.elim
theorem pif_range2 {tg a b : Expr} {fa : FA} {p pos : Pos} (hg : Gl X "range") (hm : X.mg "range" = none) (ha : PAf X W [a, b] fa) (hs : starEach [a, b] X.env = [(false, eval a X.env), (false, eval b X.env)] := by rfl) (hs2 : starEach [b] X.env = [(false, eval b X.env)] := by rfl) : PIf X W tg (.Call (.Name "range" p) [a, b] [] pos) (iR2 fa) := by
  refine pi_imp (pi_range2 hg hm ha hs hs2) fun σ H R ⟨g, ρ, w, hK, r, e, q⟩ => ?_
  refine lX_bind hK r e q fun v H1 g1 d w1 x r1 e1 dv z => ?_
  split at z
  · cases dv with
    | cons d0 dn =>
      cases d0
      cases dn with
      | cons d1 dn =>
        cases dn; cases d1
        obtain ⟨hb, z⟩ := z.on
        rw [Bool.and_eq_true] at hb
        have h1 := of_decide_eq_true hb.1
        have h2 := of_decide_eq_true hb.2
        exact ⟨_, _, rfl, ⟨by omega, by omega, by omega, by omega⟩, z _ H1 g1 (Xt.refl _) r1 wk_rng⟩
  · exact z.elim
/-- zip(xs, ys): two lists, two tuples -/
def zipD : List PyData → List PyData → List PyData
  | a :: as, b :: bs => .tuple [a, b] :: zipD as bs
  | _, _ => []
theorem zipD_len : ∀ (as bs : List PyData), (zipD as bs).length = min as.length bs.length
  | [], _ => by simp [zipD]
  | _ :: _, [] => by simp [zipD]
  | _ :: as, _ :: bs => by simp [zipD, zipD_len as bs]
theorem zipD_get : ∀ {as bs : List PyData} {i : Nat} {a b : PyData}, as[i]? = some a → bs[i]? = some b → (zipD as bs)[i]? = some (.tuple [a, b])
  | [], _, _, _, _, h, _ => by simp at h
  | _ :: _, [], _, _, _, _, h => by simp at h
  | _ :: _, _ :: _, 0, _, _, h1, h2 => by simp at h1 h2; simp [zipD, h1, h2]
  | _ :: as, _ :: bs, i + 1, a, b, h1, h2 => by
    simp only [List.getElem?_cons_succ, zipD] at h1 h2 ⊢
    exact zipD_get h1 h2
theorem wk_pair {J : It} {g : Gd} {xs ys : List V} {as bs : List PyData} {G : Hp → Prop} (k : Walk J (min xs.length ys.length) G (YPair (fun i => xs[i]?) (fun i => ys[i]?))) (hG : ∀ g' H w, Xt0 g g' → Rp g' H w → G H) (da : DqA g xs as) (db : DqA g ys bs) : WkD J g (zipD as bs) where
  stop := fun g' H w x r => by
    rw [zipD_len, ← da.length, ← db.length]
    exact k.stops H (hG g' H w x r)
  go := fun g' H w i x r hi => k.goes i H (by rw [zipD_len, ← da.length, ← db.length] at hi; exact hi) (hG g' H w x r)
  yld := fun g' H w i v H2 x r hi y => by
    rw [zipD_len] at hi
    obtain ⟨T, a, b, rfl, hT, rfl, ha, hb⟩ := k.yields i H v H2 (by rw [da.length, db.length]; exact hi) (hG g' H w x r) y
    have ha' := List.getElem?_eq_getElem (show i < as.length by omega)
    have hb' := List.getElem?_eq_getElem (show i < bs.length by omega)
    obtain ⟨a', h1, h2⟩ := da.get ha'
    obtain ⟨b', h3, h4⟩ := db.get hb'
    have ha : xs[i]? = some a := ha
    have hb : ys[i]? = some b := hb
    rw [ha] at h1
    rw [hb] at h3
    cases h1
    cases h3
    exact ⟨g'.put T (.tup [a, b]), _, zipD_get ha' hb', Xt.put (r.fnone hT), r.put hT, newT r hT (.cons (h2.mono x _ _) (.cons (h4.mono x _ _) .nil))⟩
def iZ (fa : FA) : FA := fun ρ w => (fa ρ w).bind fun ds w1 => match ds with
  | [.list as, .list bs] => .ok (zipD as bs) w1
  | [.tuple as, .tuple bs] => .ok (zipD as bs) w1
  | _ => .no
theorem pif_zip {a b : Expr} {fa : FA} {p pos tpos : Pos} {elts : List Expr} {kk : Nat} (hg : Gl X "zip") (hm : X.mg "zip" = none) (ha : PAf X W [a, b] fa) (hs : starEach [a, b] X.env = (false, eval a X.env) :: starEach [b] X.env := by rfl) (hpl : (backTo pos (starEach [b] X.env)).any (·.1) = false := by rfl) :
    PIf X W (.Tuple elts kk tpos) (.Call (.Name "zip" p) [a, b] [] pos) (iZ fa) := by
  refine pi_imp (RZ.pi_zipA hg hm ha hs hpl) fun σ H R ⟨g, ρ, w, hK, r, e, q⟩ => ?_
  refine lX_bind hK r e q fun v H1 g1 d w1 x r1 e1 dv z => ?_
  have hK1 := x.k.trans hK
  split at z
  · cases dv with
    | cons d0 dn =>
      cases dn with
      | cons d1 dn =>
        cases dn
        cases d0 with
        | lst s0 a0 =>
          cases d1 with
          | lst s1 a1 =>
            refine ⟨_, _, _, _, rfl, .inl ⟨hK1 ▸ r1.sqL s0, hK1 ▸ r1.sqL s1, hK1 ▸ z _ H1 g1 (Xt.refl _) r1 (wk_pair (walk_zip rfl) (fun g' H w x r => ?_) a0 a1)⟩⟩
            exact ⟨x.k ▸ r.sqL (x.sqL s0), x.k ▸ r.sqL (x.sqL s1)⟩
  · cases dv with
    | cons d0 dn =>
      cases dn with
      | cons d1 dn =>
        cases dn
        cases d0 with
        | tup s0 a0 =>
          cases d1 with
          | tup s1 a1 =>
            refine ⟨_, _, _, _, rfl, .inr ⟨hK1 ▸ r1.sqT s0, hK1 ▸ r1.sqT s1, hK1 ▸ z _ H1 g1 (Xt.refl _) r1 (wk_pair walk_zipT (fun g' H w x r => ?_) a0 a1)⟩⟩
            exact ⟨x.k ▸ r.sqT (x.sqT s0), x.k ▸ r.sqT (x.sqT s1)⟩
  · exact z.elim

/-! ### for -/
def forL (gt : FG) (body : FS) : List PyData → Ev → Ws → Os
  | [], ρ, w => .nx ρ w
  | d :: ds, ρ, w => match gt d ρ w with
    | .ok ρ1 w1 => match body ρ1 w1 with
      | .nx ρ2 w2 => forL gt body ds ρ2 w2
      | .ct ρ2 w2 => forL gt body ds ρ2 w2
      | .bk ρ2 w2 => .nx ρ2 w2
      | o => o
    | _ => .no
def sFor (fi : FA) (gt : FG) (body : FS) : FS := fun ρ w => (fi ρ w).thenS ρ fun ds w1 => forL gt body ds ρ w1
theorem psf_for {tg iter : Expr} {body : List Stmt} {pos : Pos} {fi : FA} {gt : FG} {is : List Nat} {fb : FS} (hp : PassesOwn (model X.prog X.w) X.A X.env X.xe) (hc : X.calm = true) (hi : PIf X W tg iter fi) (hg : PGf X is tg gt) (hb : PSsf X W body fb)
    (hs : ∀ x, foldedSetIterable iter X.env x = pure x := by intro _; rfl) : PSf X W (.For tg iter body [] pos) (sFor fi gt fb) := by
  refine ps_imp (ps_for hp hc hi hg hb hs) fun D σ H ⟨g, ρ, w, hK, r, e, q⟩ => ?_
  refine lX_then hK r e q fun J H1 g1 ds w1 x r1 e1 wk z => ?_
  refine ⟨fun i m σ' H' => m = ds.length - i ∧ i ≤ ds.length ∧ ∃ g' ρ' w', Xt g1 g' ∧ Rp g' H' w' ∧ EnR g' σ' ρ' ∧ oSt W g' D (forL gt fb (ds.drop i) ρ' w'), ⟨ds.length, by simp, Nat.zero_le _, g1, ρ, w1, Xt.refl _, r1, e1, z⟩, ?_⟩
  rintro i m σ' H' ⟨rfl, hi, g', ρ', w', x', r', e', z'⟩
  by_cases hlt : i < ds.length
  · refine .inr ⟨wk.go g' H' w' i x'.toXt0 r' hlt, fun σ2 H2 => i + 1 ≤ ds.length ∧ ∃ g2 ρ2 w2, Xt g1 g2 ∧ Rp g2 H2 w2 ∧ EnR g2 σ2 ρ2 ∧ oSt W g2 D (forL gt fb (ds.drop (i + 1)) ρ2 w2), fun σ2 H2 n => ⟨ds.length - (i + 1), by omega, rfl, n⟩, fun v H2 y => ?_⟩
    obtain ⟨g2, d, hd, x2, r2, dv⟩ := wk.yld g' H' w' i v H2 x'.toXt0 r' hlt y
    have ed : ds.drop i = d :: ds.drop (i + 1) := by
      rw [List.drop_eq_getElem_cons hlt]
      rw [List.getElem?_eq_getElem hlt] at hd
      rw [Option.some.inj hd]
    rw [ed, forL] at z'
    refine ⟨g2, ρ', w', d, x2.k.trans (x'.k.trans (x.k.trans hK)), r2, e'.mono x2, dv, ?_⟩
    cases hgt : gt d ρ' w' with
    | ok ρ1 w1' =>
      rw [hgt] at z'
      refine fun σ3 H3 g3 x3 r3 e3 _ => ⟨g3, ρ1, w1', x3.k.trans (x2.k.trans (x'.k.trans (x.k.trans hK))), r3, e3, ?_⟩
      have z' := oSt.mono (x2.trans x3) z'
      have up : Xt g1 g3 := x'.trans (x2.trans x3)
      simp only at z'
      cases hb' : fb ρ1 w1' with
      | nx ρ2 w2 =>
        rw [hb'] at z'
        exact fun σ4 H4 g4 x4 r4 e4 => ⟨hlt, g4, ρ2, w2, up.trans x4, r4, e4, oSt.mono x4 z'⟩
      | ct ρ2 w2 =>
        rw [hb'] at z'
        exact fun σ4 H4 g4 x4 r4 e4 => ⟨hlt, g4, ρ2, w2, up.trans x4, r4, e4, oSt.mono x4 z'⟩
      | bk ρ2 w2 => rw [hb'] at z'; exact z'
      | rt d w2 => rw [hb'] at z'; exact z'
      | ex ρ2 c fs w2 => rw [hb'] at z'; exact z'
      | no => rw [hb'] at z'; exact z'
    | ex c fs w2 => rw [hgt] at z'; exact z'.elim
    | no => rw [hgt] at z'; exact z'.elim
  · have ei : i = ds.length := by omega
    subst ei
    rw [List.drop_length, forL] at z'
    exact .inl ⟨wk.stop g' H' w' x'.toXt0 r', z' σ' H' g' (Xt.refl _) r' e'⟩
end
end Td

set_option Elab.async false
set_option linter.all false
set_option maxRecDepth 100000
set_option maxHeartbeats 4000000
namespace Td
open PySem L2
/-! ### comprehensions -/
def wipeE (ρ : Ev) : List Nat → Ev
  | [] => ρ
  | v :: vs => (wipeE ρ vs).set v none
theorem wipeE_len (ρ : Ev) : ∀ vs, (wipeE ρ vs).length = ρ.length
  | [] => rfl
  | v :: vs => by unfold wipeE; rw [List.length_set, wipeE_len ρ vs]
theorem wipe_get (σ : St) (j : Nat) : ∀ vs, j ∉ vs → (wipe σ vs)[j]? = σ[j]?
  | [], _ => rfl
  | v :: vs, h => by
    unfold wipe
    rw [List.getElem?_set_ne (fun e => h (by rw [e]; exact List.mem_cons_self))]
    exact wipe_get σ j vs fun z => h (List.mem_cons_of_mem _ z)
theorem wipe_at (σ : St) (j : Nat) : ∀ vs, j ∈ vs → j < σ.length → (wipe σ vs)[j]? = some none
  | v :: vs, h, hl => by
    unfold wipe
    by_cases e : v = j
    · subst e
      rw [List.getElem?_set_self (by rw [wipe_length]; exact hl)]
    · rw [List.getElem?_set_ne e]
      rcases List.mem_cons.mp h with z | z
      · exact absurd z.symm e
      · exact wipe_at σ j vs z hl
theorem EnR.wipe {g : Gd} {σ : St} {ρ : Ev} (e : EnR g σ ρ) : ∀ vs, EnR g (wipe σ vs) (wipeE ρ vs)
  | [] => e
  | v :: vs => by
    have h := EnR.wipe e vs
    refine ⟨by unfold L2.wipe wipeE; rw [List.length_set, List.length_set]; exact h.len, fun j c hj => ?_⟩
    unfold wipeE at hj
    by_cases q : v = j
    · subst q
      by_cases z : v < (wipeE ρ vs).length
      · rw [List.getElem?_set_self z] at hj; cases hj
      · rw [List.getElem?_eq_none (by rw [List.length_set]; omega)] at hj; cases hj
    · rw [List.getElem?_set_ne q] at hj
      unfold L2.wipe
      rw [List.getElem?_set_ne q]
      exact h.at_ j c hj
theorem wipe_of_sm {is vs : List Nat} {σ σ' : St} (h : Sm is (wipe σ vs) σ') (hs : ∀ i ∈ is, i ∈ vs) : wipe σ' vs = wipe σ vs := by
  have hl : σ'.length = σ.length := h.1.trans (wipe_length σ vs)
  refine List.ext_getElem? fun j => ?_
  by_cases hj : j ∈ vs
  · by_cases hb : j < σ.length
    · rw [wipe_at σ' j vs hj (by omega), wipe_at σ j vs hj hb]
    · rw [List.getElem?_eq_none (by rw [wipe_length]; omega), List.getElem?_eq_none (by rw [wipe_length]; omega)]
  · rw [wipe_get σ' j vs hj, h.2 j fun z => hj (hs j z)]
def lcL (gt : FG) (tt : FT) (fe : FE) (ρ : Ev) : List PyData → Ws → List PyData → Oc (List PyData)
  | [], w, acc => .ok acc w
  | d :: ds, w, acc => match gt d ρ w with
    | .ok ρ1 w1 => match tt ρ1 w1 with
      | .ok true w2 => match fe ρ1 w2 with
        | .ok y w3 => if acc.length < sizeLine then lcL gt tt fe ρ ds w3 (acc ++ [y]) else .no
        | _ => .no
      | .ok false w2 => lcL gt tt fe ρ ds w2 acc
      | _ => .no
    | _ => .no
def eLc (fi : FA) (gt : FG) (tt : FT) (fe : FE) (vs : List Nat) : FE := fun ρ w => (fi ρ w).bind fun ds w1 => (lcL gt tt fe (wipeE ρ vs) ds w1 []).bind fun acc w2 => .ok (.list acc) w2
def W0 : WX := fun _ _ _ _ => False
def Gd.pn (g : Gd) (P : Hp) : Gd := { g with P := P }
theorem Gd.pn_xt (g : Gd) (P : Hp) : Xt0 g (g.pn P) := ⟨rfl, fun _ _ h => h, fun _ _ => rfl, Nat.le_refl _⟩
theorem Gd.pn_xt' (g : Gd) (P : Hp) : Xt0 (g.pn P) g := ⟨rfl, fun _ _ h => h, fun _ _ => rfl, Nat.le_refl _⟩
theorem tests_imp {X : Cx} {e : List Expr} {t t' : TT} (h : PTs X e t) (i : ∀ σ H Q, t' σ H Q → t σ H Q) : PTs X e t' := ⟨fun pins s σ H Q I q => h.run pins s σ H Q I (i σ H Q q)⟩
def tYs : FT := fun _ w => .ok true w
section
variable {X : Cx} {W : WX}
theorem ptsf_nil : PTs X [] (lT X.K W tYs) := tests_imp pts_nil fun σ H Q ⟨g, ρ, w, hK, r, e, q⟩ => q true H g (Xt.refl g) r rfl
theorem ptsf_one {e : Expr} {t : FT} (h : PTf X W e t) : PTs X [e] (lT X.K W t) := pts_one h
/-- the new list at D, which others hold -/
theorem pin_new {g : Gd} {H : Hp} {w : Ws} (r : Rp g H w) {D : Addr} (hD : H D = none) (o : HO) : Rp (g.pn (upd g.P D o)) (upd H D o) w where
  fro := fun a u e => by
    have e : g.F a = some u := e
    rw [upd_ne (ne_of_none e (r.fnone hD))]
    exact r.fro a u e
  len := r.len
  cell := fun l ob e => (r.cell l ob e).new (g.pn_xt _) fun b hb => by
    have nb : b ≠ D := fun z => by subst z; rw [hD] at hb; cases hb
    exact ⟨rfl, upd_ne nb⟩
  inj := r.inj
  pin := fun a u e => by
    have e : upd g.P D o a = some u := e
    by_cases q : a = D
    · subst q
      rw [upd_same] at e ⊢
      refine ⟨e, r.fnone hD, fun l hl z => ?_⟩
      have hlw : l < w.length := by rw [← r.len]; exact hl
      obtain ⟨o', ho⟩ := (r.cell l _ (List.getElem?_eq_getElem hlw)).there
      have z : g.μ l = a := z
      rw [z, hD] at ho
      cases ho
    · rw [upd_ne q] at e ⊢
      exact r.pin a u e
/-- it grows -/
theorem pin_set {g : Gd} {H : Hp} {w : Ws} {P : Hp} {D : Addr} {o o' : HO} (r : Rp g H w) (hP : g.P = upd P D o) (hno : ∀ a, o ≠ .own a) : Rp (g.pn (upd P D o')) (upd H D o') w := by
  obtain ⟨h1, h2, h3⟩ := r.pin D o (by rw [hP]; exact upd_same)
  refine ⟨fun a u e => ?_, r.len, fun l ob e => ?_, r.inj, fun a u e => ?_⟩
  · have e : g.F a = some u := e
    rw [upd_ne (ne_of_none e h2)]
    exact r.fro a u e
  · have hl : l < g.n := by rw [r.len]; exact (List.getElem?_eq_some_iff.mp e).1
    have nD := h3 l hl
    have c := r.cell l ob e
    cases ob with
    | lst ds =>
      obtain ⟨hn, xs, h, d⟩ := c
      exact ⟨hn, xs, (upd_ne nD).trans h, d.mono (g.pn_xt _) _ _⟩
    | dK kvs =>
      obtain ⟨hn, ks, h, d⟩ := c
      exact ⟨hn, ks, (upd_ne nD).trans h, d.mono (g.pn_xt _)⟩
    | ins C fs =>
      obtain ⟨hn, dx, gs, ⟨C', hC, h⟩, hd, hn2, d⟩ := c
      have nx : dx ≠ D := fun z => by rw [z, h1] at hd; exact hno _ (Option.some.inj hd)
      exact ⟨hn, dx, gs, ⟨C', hC, (upd_ne nD).trans h⟩, (upd_ne nx).trans hd, hn2, d.mono (g.pn_xt _)⟩
    | dead =>
      obtain ⟨o2, h⟩ := c
      exact ⟨o2, (upd_ne nD).trans h⟩
  · have e : upd P D o' a = some u := e
    by_cases q : a = D
    · subst q
      rw [upd_same] at e ⊢
      exact ⟨e, h2, h3⟩
    · rw [upd_ne q] at e ⊢
      exact r.pin a u (by rw [hP, upd_ne q]; exact e)
/-- it is given out -/
theorem pin_out {g : Gd} {H : Hp} {w : Ws} {P : Hp} {D : Addr} {o : HO} (r : Rp g H w) (hP : g.P = upd P D o) (hno : ∀ a, o ≠ .own a) (hD : P D = none) : Rp { g with P := P, F := upd g.F D o } H w := by
  obtain ⟨h1, h2, h3⟩ := r.pin D o (by rw [hP]; exact upd_same)
  have x : Xt0 g { g with P := P, F := upd g.F D o } := ⟨rfl, fun a u e => (upd_ne (ne_of_none e h2)).trans e, fun _ _ => rfl, Nat.le_refl _⟩
  refine ⟨fun a u e => ?_, r.len, fun l ob e => ?_, r.inj, fun a u e => ?_⟩
  · have e : upd g.F D o a = some u := e
    by_cases q : a = D
    · subst q
      rw [upd_same] at e
      exact h1.trans e
    · rw [upd_ne q] at e
      exact r.fro a u e
  · have hl : l < g.n := by rw [r.len]; exact (List.getElem?_eq_some_iff.mp e).1
    have nD := h3 l hl
    have c := r.cell l ob e
    cases ob with
    | lst ds =>
      obtain ⟨hn, xs, h, d⟩ := c
      exact ⟨(upd_ne nD).trans hn, xs, h, d.mono x _ _⟩
    | dK kvs =>
      obtain ⟨hn, ks, h, d⟩ := c
      exact ⟨(upd_ne nD).trans hn, ks, h, d.mono x⟩
    | ins C fs =>
      obtain ⟨hn, dx, gs, ⟨C', hC, h⟩, hd, hn2, d⟩ := c
      have nx : dx ≠ D := fun z => by rw [z, h1] at hd; exact hno _ (Option.some.inj hd)
      exact ⟨(upd_ne nD).trans hn, dx, gs, ⟨C', hC, h⟩, hd, (upd_ne nx).trans hn2, d.mono x⟩
    | dead =>
      obtain ⟨o2, h⟩ := c
      exact ⟨o2, h⟩
  · have e : P a = some u := e
    have na : a ≠ D := fun z => by rw [z, hD] at e; cases e
    obtain ⟨q1, q2, q3⟩ := r.pin a u (by rw [hP, upd_ne na]; exact e)
    exact ⟨q1, (upd_ne na).trans q2, q3⟩
theorem lc_of {fi : FA} {gt : FG} {tt : FT} {fe : FE} {vs is : List Nat} {K : PySem.W.Frag} (hs : ∀ i ∈ is, i ∈ vs) : ∀ σ H Q, lE K W (eLc fi gt tt fe vs) σ H Q → tLc (lI K W fi) (lG K is gt) (lT K W0 tt) (lE K W0 fe) vs σ H Q := fun σ H Q ⟨g, ρ, w, hK, r, e, q⟩ => by
  refine lX_bind hK r e q fun J H1 g1 ds w1 x r1 e1 wk z => ?_
  intro D hD
  have hK1 := x.k.trans hK
  have pD : g1.P D = none := by
    cases h : g1.P D with
    | none => rfl
    | some o => rw [(r1.pin D o h).1] at hD; cases hD
  have r0 := pin_new r1 hD (.lst [])
  refine ⟨fun i m H' => m = ds.length - i ∧ i ≤ ds.length ∧ ∃ g' w' acc dacc, Xt0 g1 g' ∧ g'.P = upd g1.P D (.lst acc) ∧ Rp g' H' w' ∧ DqA g' acc dacc ∧ lcL gt tt fe (wipeE ρ vs) (ds.drop i) w' dacc = lcL gt tt fe (wipeE ρ vs) ds w1 [],
    ⟨ds.length, by simp, Nat.zero_le _, _, w1, [], [], g1.pn_xt _, rfl, r0, .nil, rfl⟩, ?_⟩
  rintro i m H' ⟨rfl, hi, g', w', acc, dacc, x', hP, r', da, z'⟩
  by_cases hlt : i < ds.length
  · refine .inr ⟨wk.go g' H' w' i x' r' hlt, fun H2 => i + 1 ≤ ds.length ∧ ∃ g' w' acc dacc, Xt0 g1 g' ∧ g'.P = upd g1.P D (.lst acc) ∧ Rp g' H2 w' ∧ DqA g' acc dacc ∧ lcL gt tt fe (wipeE ρ vs) (ds.drop (i + 1)) w' dacc = lcL gt tt fe (wipeE ρ vs) ds w1 [],
      fun H2 n => ⟨ds.length - (i + 1), by omega, rfl, n⟩, fun v H2 y => ?_⟩
    obtain ⟨g2, d, hd, x2, r2, dv⟩ := wk.yld g' H' w' i v H2 x' r' hlt y
    have ed : ds.drop i = d :: ds.drop (i + 1) := by
      rw [List.drop_eq_getElem_cons hlt]
      rw [List.getElem?_eq_getElem hlt] at hd
      rw [Option.some.inj hd]
    rw [ed, lcL] at z'
    rw [← z'] at z
    refine ⟨g2, wipeE ρ vs, w', d, x2.k.trans (x'.k.trans hK1), r2, (e1.mono (x'.trans x2.toXt0)).wipe vs, dv, ?_⟩
    cases hgt : gt d (wipeE ρ vs) w' with
    | ok ρ1 w1' =>
      rw [hgt] at z z'
      refine fun σ3 H3 g3 x3 r3 e3 sm => ⟨wipe_of_sm sm hs, g3, ρ1, w1', x3.k.trans (x2.k.trans (x'.k.trans hK1)), r3, e3, ?_⟩
      simp only at z z'
      cases htt : tt ρ1 w1' with
      | ok b w2 =>
        rw [htt] at z z'
        intro b' H4 g4 x4 r4 eb
        subst eb
        have P4 : g4.P = upd g1.P D (.lst acc) := x4.p.trans (x3.p.trans (x2.p.trans hP))
        have y4 : Xt0 g1 g4 := x'.trans (x2.toXt0.trans (x3.toXt0.trans x4.toXt0))
        have da4 : DqA g4 acc dacc := da.mono (x2.toXt0.trans (x3.toXt0.trans x4.toXt0)) _ _
        cases b' with
        | false => exact iteF ⟨hlt, g4, w2, acc, dacc, y4, P4, r4, da4, z'⟩
        | true =>
          refine iteT ⟨g4, ρ1, w2, y4.k.trans hK1, r4, e3.mono x4.toXt0, ?_⟩
          simp only at z z'
          cases hfe : fe ρ1 w2 with
          | ok d5 w3 =>
            rw [hfe] at z z'
            intro v5 H5 g5 x5 r5 dv5
            simp only at z z'
            have P5 : g5.P = upd g1.P D (.lst acc) := x5.p.trans P4
            by_cases hsz : dacc.length < sizeLine
            · rw [if_pos hsz] at z'
              have pD5 := r5.pin D (.lst acc) (by rw [P5]; exact upd_same)
              refine ⟨acc, pD5.1, by rw [da.length]; exact hsz, hlt, g5.pn (upd g1.P D (.lst (acc ++ [v5]))), w3, acc ++ [v5], dacc ++ [d5], (y4.trans x5.toXt0).trans (g5.pn_xt _), rfl, pin_set r5 P5 (fun a z => nomatch z), ?_, z'⟩
              exact (da4.mono (x5.toXt0.trans (g5.pn_xt _)) _ _).append (.cons (dv5.mono (g5.pn_xt _) _ _) .nil)
            · rw [if_neg hsz] at z
              exact z.elim
          | ex c fs w3 => rw [hfe] at z; exact z.elim
          | no => rw [hfe] at z; exact z.elim
      | ex c fs w2 => rw [htt] at z; exact z.elim
      | no => rw [htt] at z; exact z.elim
    | ex c fs w2 => rw [hgt] at z; exact z.elim
    | no => rw [hgt] at z; exact z.elim
  · have ei : i = ds.length := by omega
    subst ei
    rw [List.drop_length, lcL] at z'
    rw [← z'] at z
    refine .inl ⟨wk.stop g' H' w' x' r', ?_⟩
    have pD' := r'.pin D (.lst acc) (by rw [hP]; exact upd_same)
    have xo : Xt0 g' { g' with P := g1.P, F := upd g'.F D (.lst acc) } := ⟨rfl, fun a u e => (upd_ne (ne_of_none e pD'.2.1)).trans e, fun _ _ => rfl, Nat.le_refl _⟩
    exact z _ H' { g' with P := g1.P, F := upd g'.F D (.lst acc) } ⟨x'.trans xo, rfl⟩ (pin_out r' hP (fun a z => nomatch z) pD) (.lst (SqL.of upd_same) (da.mono xo _ _))
theorem pf_lc {elt tg iter : Expr} {ifs : List Expr} {scope : Scope} {own : List (Str × Nat)} {pos : Pos} {fi : FA} {gt : FG} {tt : FT} {fe : FE} {is : List Nat} (hc : X.calm = true) (hN : X.N.Nodup) (hi : PIf X W tg iter fi) (ok : BlkOk X.N X.env.scope scope own)
    (hg : ∀ (s : Shared) (H : Hp) (C : Addr) (cl : List (Str × Addr)) (fp : List Addr), PGf (X.blk s H scope (compEnvC scope cl C X.env) fp) is tg gt)
    (ht : ∀ (s : Shared) (H : Hp) (C : Addr) (cl : List (Str × Addr)) (fp : List Addr), PTs (X.blk s H scope (compEnvC scope cl C X.env) fp) ifs (lT X.K W0 tt))
    (he : ∀ (s : Shared) (H : Hp) (C : Addr) (cl : List (Str × Addr)) (fp : List Addr), PF (X.blk s H scope (compEnvC scope cl C X.env) fp) W0 elt fe)
    (hs : ∀ x, foldedSetIterable iter X.env x = pure x := by intro _; rfl) (his : ∀ i ∈ is, i ∈ own.map (·.2) := by decide) :
    PF X W (.ListComp elt [⟨tg, iter, ifs, 0⟩] scope pos) (eLc fi gt tt fe (own.map (·.2))) := pe_imp (pe_lc hc hN hi ok hg ht he hs) (lc_of his)
theorem psf_setLc {i : Nat} {y : Str} {py : Pos} {elt tg iter : Expr} {ifs : List Expr} {scope : Scope} {own : List (Str × Nat)} {pos spos : Pos} {fi : FA} {gt : FG} {tt : FT} {fe : FE} {is : List Nat} (hc : X.calm = true) (hN : X.N.Nodup) (hy : X.N[i]? = some y) (hyl : X.env.scope.names.lookup y = some .local)
    (hsw : swapsWith (.ListComp elt [⟨tg, iter, ifs, 0⟩] scope pos) (some (.Name y py)) spos.line X.env = pure true) (hi : PIf X W tg iter fi) (ok : BlkOk X.N X.env.scope scope own)
    (hg : ∀ (s : Shared) (H : Hp) (C : Addr) (cl : List (Str × Addr)) (fp : List Addr), PGf (X.blk s H scope (compEnvC scope cl C X.env) fp) is tg gt)
    (ht : ∀ (s : Shared) (H : Hp) (C : Addr) (cl : List (Str × Addr)) (fp : List Addr), PTs (X.blk s H scope (compEnvC scope cl C X.env) fp) ifs (lT X.K W0 tt))
    (he : ∀ (s : Shared) (H : Hp) (C : Addr) (cl : List (Str × Addr)) (fp : List Addr), PF (X.blk s H scope (compEnvC scope cl C X.env) fp) W0 elt fe)
    (hs : ∀ x, foldedSetIterable iter X.env x = pure x := by intro _; rfl) (his : ∀ i ∈ is, i ∈ own.map (·.2) := by decide) :
    PSf X W (.Assign [.Name y py] (.ListComp elt [⟨tg, iter, ifs, 0⟩] scope pos) spos) (sAsg (eLc fi gt tt fe (own.map (·.2))) (gN i)) := by
  refine ps_imp (ps_setLc (g := lG X.K is gt) (tt := lT X.K W0 tt) (te := lE X.K W0 fe) hc hN hy hyl hsw hi ok hg ht he hs) fun D σ H q => ?_
  obtain ⟨g, ρ, w, hK, r, e, q⟩ := q
  refine lc_of (W := W) his σ H _ ?_
  exact lX_then hK r e q fun v H1 g1 d w1 x r1 e1 dv z => z _ H1 g1 (Xt.refl _) r1 (e1.set i dv)
end
end Td

set_option Elab.async false
set_option linter.all false
set_option maxRecDepth 100000
set_option maxHeartbeats 4000000
namespace Td
open PySem L2
/-! ### dicts of the store -/
def valD (kvs : List (Key × PyData)) (k : Key) : Option PyData := (kvs.find? fun kv => decide (kv.1 = k)).map (·.2)
def putD (kvs : List (Key × PyData)) (k : Key) (v : PyData) : List (Key × PyData) :=
  if (kvs.any fun kv => decide (kv.1 = k)) = true then kvs.map (fun kv => if kv.1 = k then (kv.1, v) else kv) else kvs ++ [(k, v)]
def mergeD (kvs more : List (Key × PyData)) : List (Key × PyData) := more.foldl (fun acc kv => putD acc kv.1 kv.2) kvs
def keyD : PyData → Option Key
  | .int i => some (.inl i)
  | .str x => some (.inr x)
  | _ => none
theorem keyD_ok {g : Gd} {v : V} {d : PyData} (h : Dq g v d) {k : Key} (e : keyD d = some k) : v = kV k := by
  cases h <;> cases e <;> rfl
theorem KvR.val {g : Gd} : ∀ {ks : List (Key × V)} {kvs : List (Key × PyData)} {k : Key} {d : PyData}, KvR g ks kvs → valD kvs k = some d → ∃ v, valV ks k = some v ∧ Dq g v d
  | _, _, _, _, .nil, e => by simp [valD] at e
  | p :: ks, q :: kvs, k, d, .cons h t, e => by
    have hk : p.1 = q.1 := h.1
    by_cases z : q.1 = k
    · have e' : some q.2 = some d := by simpa [valD, List.find?_cons, z] using e
      cases e'
      exact ⟨p.2, valV_pos (hk.trans z), h.2⟩
    · have e' : valD kvs k = some d := by simpa [valD, List.find?_cons, z] using e
      obtain ⟨v, h1, h2⟩ := KvR.val t e'
      exact ⟨v, by rw [valV_neg (by rw [hk]; exact z)]; exact h1, h2⟩
theorem KvR.any {g : Gd} {k : Key} : ∀ {ks : List (Key × V)} {kvs : List (Key × PyData)}, KvR g ks kvs → (ks.any fun kv => decide (kv.1 = k)) = kvs.any fun kv => decide (kv.1 = k)
  | _, _, .nil => rfl
  | _, _, .cons h t => by rw [List.any_cons, List.any_cons, h.1, KvR.any t]
theorem KvR.map_set {g : Gd} {k : Key} {v : V} {d : PyData} (hd : Dq g v d) : ∀ {ks : List (Key × V)} {kvs : List (Key × PyData)}, KvR g ks kvs → KvR g (ks.map (fun kv => if kv.1 = k then (kv.1, v) else kv)) (kvs.map (fun kv => if kv.1 = k then (kv.1, d) else kv))
  | _, _, .nil => .nil
  | p :: ks, q :: kvs, .cons h t => by
    refine .cons ?_ (KvR.map_set hd t)
    have hk : p.1 = q.1 := h.1
    dsimp only
    by_cases z : q.1 = k
    · rw [if_pos (hk.trans z), if_pos z]; exact ⟨hk, hd⟩
    · rw [if_neg (by rw [hk]; exact z), if_neg z]; exact h
theorem KvR.append {g : Gd} {κ : Type} : ∀ {ks ls : List (κ × V)} {kvs lvs : List (κ × PyData)}, KvR g ks kvs → KvR g ls lvs → KvR g (ks ++ ls) (kvs ++ lvs)
  | _, _, _, _, .nil, s => s
  | _, _, _, _, .cons h t, s => .cons h (KvR.append t s)
theorem KvR.length {g : Gd} {κ : Type} {ks : List (κ × V)} {kvs : List (κ × PyData)} (h : KvR g ks kvs) : ks.length = kvs.length := Paired.length h
theorem KvR.put {g : Gd} {k : Key} {v : V} {d : PyData} {ks : List (Key × V)} {kvs : List (Key × PyData)} (h : KvR g ks kvs) (hd : Dq g v d) : KvR g (putK ks k v) (putD kvs k d) := by
  unfold putK putD
  rw [h.any]
  split
  · exact h.map_set hd
  · exact h.append (.cons ⟨rfl, hd⟩ .nil)
theorem KvR.merge {g : Gd} : ∀ {more : List (Key × V)} {mores : List (Key × PyData)} {ks : List (Key × V)} {kvs : List (Key × PyData)}, KvR g more mores → KvR g ks kvs → KvR g (mergeK ks more) (mergeD kvs mores)
  | _, _, _, _, .nil, s => s
  | p :: _, q :: _, _, _, .cons h t, s => by
    unfold mergeK mergeD
    rw [List.foldl_cons, List.foldl_cons]
    have hk : p.1 = q.1 := h.1
    rw [hk]
    exact KvR.merge t (s.put h.2)
section
variable {X : Cx} {W : WX}
def eDg (fa fb : FE) : FE := fun ρ w => (fa ρ w).bind fun d w1 => (fb ρ w1).bind fun e w2 => Oc.of ((dkOf w2 d).bind fun kvs => (keyD e).bind fun k => valD kvs k) w2
theorem pf_dget {o i : Expr} {pos : Pos} {fa fb : FE} (hu : X.A.units + 1 < cLine) (ho : PF X W o fa) (hi : PF X W i fb) (hs : NoSl i := by exact fun _ _ => rfl) : PF X W (.Subscript o i pos) (eDg fa fb) := by
  refine pe_imp (pe_dget hu ho hi hs) fun σ H Q ⟨g, ρ, w, hK, r, e, q⟩ => ?_
  refine lX_bind hK r e q fun v H1 g1 d w1 x r1 e1 dv z => ?_
  refine lX_bind (x.k.trans hK) r1 e1 z fun u H2 g2 c w2 x2 r2 e2 du z2 => ?_
  cases hz : (dkOf w2 d).bind fun kvs => (keyD c).bind fun k => valD kvs k with
  | none => rw [hz] at z2; exact z2.elim
  | some y =>
    rw [hz] at z2
    obtain ⟨kvs, h1, hz⟩ := Option.bind_eq_some_iff.mp hz
    obtain ⟨k, h2, h3⟩ := Option.bind_eq_some_iff.mp hz
    obtain ⟨l, xs, rfl, _, _, _, hH, kv⟩ := dkOf_ok r2 (dv.mono x2.toXt0 _ _) h1
    obtain ⟨v', h4, h5⟩ := kv.val h3
    have ek := keyD_ok du h2
    subst ek
    refine ⟨_, v', rfl, ?_, z2 _ H2 g2 (Xt.refl _) r2 h5⟩
    rw [← h4]
    exact DGet.k hH
/-- the store's cell l is written -/
theorem Rp.write {g : Gd} {H : Hp} {w : Ws} (r : Rp g H w) {l : Nat} {ob ob' : Ob} {o : HO} (hl : w[l]? = some ob) (hn : g.F (g.μ l) = none) (hno : ∀ a b, H (g.μ l) = some b → b ≠ .own a) (ho : ObR g (upd H (g.μ l) o) (g.μ l) ob') : Rp g (upd H (g.μ l) o) (w.set l ob') := by
  have hlt : l < g.n := by rw [r.len]; exact (List.getElem?_eq_some_iff.mp hl).1
  obtain ⟨o0, h0⟩ := (r.cell l ob hl).there
  refine ⟨fun a u e => ?_, by rw [List.length_set]; exact r.len, fun m ob2 e => ?_, r.inj, fun a u e => ?_⟩
  · rw [upd_ne (ne_of_none e hn)]
    exact r.fro a u e
  · by_cases q : l = m
    · subst q
      rw [List.getElem?_set_self (by rw [← r.len]; exact hlt)] at e
      cases e
      exact ho
    · rw [List.getElem?_set_ne q] at e
      have hm : m < g.n := by rw [r.len]; exact (List.getElem?_eq_some_iff.mp e).1
      have nm : g.μ m ≠ g.μ l := fun z => q (r.inj m l hm hlt z).symm
      have c := r.cell m ob2 e
      cases ob2 with
      | lst ds =>
        obtain ⟨hn, xs, h, d⟩ := c
        exact ⟨hn, xs, (upd_ne nm).trans h, d⟩
      | dK kvs =>
        obtain ⟨hn, ks, h, d⟩ := c
        exact ⟨hn, ks, (upd_ne nm).trans h, d⟩
      | ins C fs =>
        obtain ⟨hn, dx, gs, ⟨C', hC, h⟩, hd, hn2, d⟩ := c
        have nx : dx ≠ g.μ l := fun z => by rw [z] at hd; exact hno _ _ hd rfl
        exact ⟨hn, dx, gs, ⟨C', hC, (upd_ne nm).trans h⟩, (upd_ne nx).trans hd, hn2, d⟩
      | dead =>
        obtain ⟨o2, h⟩ := c
        exact ⟨o2, (upd_ne nm).trans h⟩
  · obtain ⟨q1, q2, q3⟩ := r.pin a u e
    exact ⟨(upd_ne (fun z => q3 l hlt z.symm)).trans q1, q2, q3⟩
/-- d[k] = v -/
def locOf : PyData → Option Nat
  | .dict [(.int l, .none)] => some l.toNat
  | _ => none
def sDp (fa fb fv : FE) : FS := fun ρ w => (fv ρ w).thenS ρ fun v w1 => (fa ρ w1).thenS ρ fun d w2 => (fb ρ w2).thenS ρ fun e w3 =>
  match dkOf w3 d, keyD e, locOf d with
  | some kvs, some k, some l => if kvs.length < sizeLine then .nx ρ (w3.set l (.dK (putD kvs k v))) else .no
  | _, _, _ => .no
theorem psf_dput {o i value : Expr} {pos pos' : Pos} {fa fb fv : FE} (hu : X.A.units + 1 < cLine) (ho : PF X W o fa) (hi : PF X W i fb) (hv : PF X W value fv) (hs : swapsWith value (some (.Subscript o i pos')) pos.line X.env = pure false := by rfl) : PSf X W (.Assign [.Subscript o i pos'] value pos) (sDp fa fb fv) := by
  refine ps_imp (ps_dput hu ho hi hv hs) fun D σ H ⟨g, ρ, w, hK, r, e, q⟩ => ?_
  refine lX_then hK r e q fun v H1 g1 dv w1 x r1 e1 hv' z => ?_
  refine lX_then (x.k.trans hK) r1 e1 z fun a H2 g2 d w2 x2 r2 e2 hd z2 => ?_
  refine lX_then (x2.k.trans (x.k.trans hK)) r2 e2 z2 fun u H3 g3 c w3 x3 r3 e3 hc z3 => ?_
  split at z3
  · rename_i kvs k l h1 h2 h3
    split at z3
    · rename_i hsz
      obtain ⟨l', xs, rfl, hd', hw, hn, hH, kv⟩ := dkOf_ok r3 (hd.mono x3.toXt0 _ _) h1
      have el : l = l' := by rw [hd'] at h3; simp [locOf] at h3; exact h3.symm
      subst el
      have ek := keyD_ok hc h2
      subst ek
      have kv2 := kv.put (k := k) (hv'.mono (x2.toXt0.trans x3.toXt0) _ _)
      refine ⟨_, _, rfl, DPut.k hH (by rw [kv.length]; exact hsz), ?_⟩
      refine z3 σ _ g3 (Xt.refl _) (r3.write hw hn (fun a b hb z => ?_) ⟨hn, _, upd_same, kv2⟩) e3
      rw [hH] at hb
      cases hb
      cases z
    · exact z3.elim
  · exact z3.elim
end
end Td

set_option Elab.async false
set_option linter.all false
set_option maxRecDepth 100000
set_option maxHeartbeats 4000000
namespace Td
open PySem L2
theorem lX_w0 {α β : Type} {K : PySem.W.Frag} {W : WX} {R : Gd → β → α → Prop} {f : Ev → Ws → Oc α} : ∀ σ H Q, lX K W0 R f σ H Q → lX K W R f σ H Q := fun σ H Q ⟨g, ρ, w, hK, r, e, q⟩ => by
  refine ⟨g, ρ, w, hK, r, e, ?_⟩
  cases z : f ρ w with
  | ok d w1 => rw [z] at q; exact q
  | ex c fs w1 =>
    rw [z] at q
    intro dd H1 g1 x r1 y
    exact (q dd H1 g1 x r1 y).elim
  | no => rw [z] at q; exact q.elim
theorem pf_w0 {X : Cx} {W : WX} {e : Expr} {f : FE} (h : PF X W e f) : PF X W0 e f := pe_imp h lX_w0
/-- what others hold goes into the store -/
theorem pin_alloc {g : Gd} {H : Hp} {w : Ws} {P : Hp} {D : Addr} {o o' : HO} {ob : Ob} (r : Rp g H w) (hP : g.P = upd P D o) (hno : ∀ a, o ≠ .own a) (hD : P D = none)
    (ho : ObR { g with P := P, μ := fun l => if l = g.n then D else g.μ l, n := g.n + 1 } (upd H D o') D ob) :
    Rp { g with P := P, μ := fun l => if l = g.n then D else g.μ l, n := g.n + 1 } (upd H D o') (w ++ [ob]) := by
  obtain ⟨h1, h2, h3⟩ := r.pin D o (by rw [hP]; exact upd_same)
  have x : Xt0 g { g with P := P, μ := fun l => if l = g.n then D else g.μ l, n := g.n + 1 } := ⟨rfl, fun a u e => e, fun l hl => if_neg (by omega), Nat.le_succ _⟩
  refine ⟨fun a u e => ?_, ?_, fun l ob2 e => ?_, fun l m hl hm e => ?_, fun a u e => ?_⟩
  · rw [upd_ne (ne_of_none e h2)]
    exact r.fro a u e
  · show g.n + 1 = _
    rw [List.length_append, r.len]
    rfl
  · by_cases q : l = g.n
    · subst q
      rw [List.getElem?_append_right (by rw [r.len]; exact Nat.le_refl _), r.len, Nat.sub_self] at e
      cases e
      show ObR _ _ (if g.n = g.n then D else g.μ g.n) ob
      rw [if_pos rfl]
      exact ho
    · have hl : l < w.length := by
        have := (List.getElem?_eq_some_iff.mp e).1
        rw [List.length_append, List.length_singleton] at this
        rw [← r.len] at this ⊢
        omega
      rw [List.getElem?_append_left hl] at e
      have c := r.cell l ob2 e
      have nD := h3 l (by rw [r.len]; exact hl)
      show ObR _ _ (if l = g.n then D else g.μ l) ob2
      rw [if_neg q]
      cases ob2 with
      | lst ds =>
        obtain ⟨hn, xs, h, d⟩ := c
        exact ⟨hn, xs, (upd_ne nD).trans h, d.mono x _ _⟩
      | dK kvs =>
        obtain ⟨hn, ks, h, d⟩ := c
        exact ⟨hn, ks, (upd_ne nD).trans h, d.mono x⟩
      | ins C fs =>
        obtain ⟨hn, dx, gs, ⟨C', hC, h⟩, hd, hn2, d⟩ := c
        have nx : dx ≠ D := fun z => by rw [z, h1] at hd; exact hno _ (Option.some.inj hd)
        exact ⟨hn, dx, gs, ⟨C', hC, (upd_ne nD).trans h⟩, (upd_ne nx).trans hd, hn2, d.mono x⟩
      | dead =>
        obtain ⟨o2, h⟩ := c
        exact ⟨o2, (upd_ne nD).trans h⟩
  · have hl : l < g.n + 1 := hl
    have hm : m < g.n + 1 := hm
    have e : (if l = g.n then D else g.μ l) = (if m = g.n then D else g.μ m) := e
    by_cases q1 : l = g.n
    · by_cases q2 : m = g.n
      · rw [q1, q2]
      · rw [if_pos q1, if_neg q2] at e
        exact absurd e.symm (h3 m (by omega))
    · by_cases q2 : m = g.n
      · rw [if_neg q1, if_pos q2] at e
        exact absurd e (h3 l (by omega))
      · rw [if_neg q1, if_neg q2] at e
        exact r.inj l m (by omega) (by omega) e
  · have e : P a = some u := e
    have na : a ≠ D := fun z => by rw [z, hD] at e; cases e
    obtain ⟨q1, q2, q3⟩ := r.pin a u (by rw [hP, upd_ne na]; exact e)
    refine ⟨(upd_ne na).trans q1, q2, fun l hl z => ?_⟩
    have hl : l < g.n + 1 := hl
    have z : (if l = g.n then D else g.μ l) = a := z
    by_cases q : l = g.n
    · rw [if_pos q] at z
      exact na z.symm
    · rw [if_neg q] at z
      exact q3 l (by omega) z
theorem alloc_xt {g : Gd} {P : Hp} {D : Addr} : Xt0 g { g with P := P, μ := fun l => if l = g.n then D else g.μ l, n := g.n + 1 } := ⟨rfl, fun a u e => e, fun l hl => if_neg (by omega), Nat.le_succ _⟩
theorem alloc_ref {g : Gd} {P : Hp} {D : Addr} : Dq { g with P := P, μ := fun l => if l = g.n then D else g.μ l, n := g.n + 1 } (.ref D) (rf g.n) := by
  have h : Dq { g with P := P, μ := fun l => if l = g.n then D else g.μ l, n := g.n + 1 } (.ref ((fun l => if l = g.n then D else g.μ l) g.n)) (rf g.n) := .ref (Nat.lt_succ_self _)
  simpa using h
/-! ### {k: v, ..} -/
def pairsF : List (FE × FE) → Ev → Ws → Oc (List (PyData × PyData))
  | [], _, w => .ok [] w
  | (fk, fv) :: r, ρ, w => (fk ρ w).bind fun k w1 => (fv ρ w1).bind fun v w2 => (pairsF r ρ w2).bind fun ps w3 => .ok ((k, v) :: ps) w3
def PrR (g : Gd) : List (V × V) → List (PyData × PyData) → Prop := Paired fun p q => Dq g p.1 q.1 ∧ Dq g p.2 q.2
theorem PrR.mono {g g' : Gd} (x : Xt0 g g') : ∀ {ps : List (V × V)} {qs : List (PyData × PyData)}, PrR g ps qs → PrR g' ps qs
  | _, _, .nil => .nil
  | _, _, .cons h t => .cons ⟨h.1.mono x _ _, h.2.mono x _ _⟩ (PrR.mono x t)
theorem pairs_of {K : PySem.W.Frag} {W : WX} : ∀ (fps : List (FE × FE)) σ H Q, lX K W PrR (pairsF fps) σ H Q → tPairs (fps.map fun p => (lE K W p.1, lE K W p.2)) σ H Q
  | [], σ, H, Q, ⟨g, ρ, w, hK, r, e, q⟩ => q [] H g (Xt.refl g) r .nil
  | (fk, fv) :: rest, σ, H, Q, ⟨g, ρ, w, hK, r, e, q⟩ => by
    refine lX_bind hK r e q fun k H1 g1 dk w1 x1 r1 e1 hk z1 => ?_
    refine lX_bind (x1.k.trans hK) r1 e1 z1 fun v H2 g2 dv w2 x2 r2 e2 hv z2 => ?_
    refine pairs_of rest σ H2 _ ?_
    refine lX_bind (x2.k.trans (x1.k.trans hK)) r2 e2 z2 fun ps H3 g3 dps w3 x3 r3 e3 hps z3 => ?_
    exact z3 _ H3 g3 (Xt.refl _) r3 (.cons ⟨hk.mono (x2.toXt0.trans x3.toXt0) _ _, hv.mono x3.toXt0 _ _⟩ hps)
def keysOf : List (PyData × PyData) → Option (List (Key × PyData))
  | [] => some []
  | (k, v) :: r => match keyD k, keysOf r with
    | some k, some kvs => some ((k, v) :: kvs)
    | _, _ => none
theorem keysOf_ok {g : Gd} : ∀ {ps : List (V × V)} {qs : List (PyData × PyData)} {kvs : List (Key × PyData)}, PrR g ps qs → keysOf qs = some kvs → ∃ ks : List (Key × V), ps = ks.map (fun kv => (kV kv.1, kv.2)) ∧ KvR g ks kvs
  | _, _, _, .nil, e => by cases e; exact ⟨[], rfl, .nil⟩
  | (a, b) :: _, (c, d) :: _, _, .cons h t, e => by
    unfold keysOf at e
    split at e
    · rename_i k kvs h1 h2
      cases e
      obtain ⟨ks, rfl, hk⟩ := keysOf_ok t h2
      have ek := keyD_ok h.1 h1
      have ek : a = kV k := ek
      subst ek
      exact ⟨(k, b) :: ks, rfl, .cons ⟨rfl, h.2⟩ hk⟩
    · cases e
def eDisp (fps : List (FE × FE)) : FE := fun ρ w => match pairsF fps ρ w with
  | .ok ps w1 => match keysOf ps with
    | some kvs => if kvs.length ≤ 15 then .ok (rf w1.length) (w1 ++ [.dK (mergeD [] kvs)]) else .no
    | none => .no
  | _ => .no
theorem pf_disp {X : Cx} {W : WX} {pos : Pos} {keys : List (Option Expr)} {values : List Expr} {fps : List (FE × FE)} (h : PPs X pos keys values (fps.map fun p => (lE X.K W0 p.1, lE X.K W0 p.2))) (hall : keys.all (·.isSome) = true := by rfl) (hl : keys.length = values.length := by rfl) (h0 : keys ≠ [] := by exact fun z => by cases z)
    (h15 : keys.length ≤ 15 := by decide) : PF X W (.Dict keys values pos) (eDisp fps) := by
  refine pe_imp (pe_disp h hall hl h0 h15) fun σ H Q ⟨g, ρ, w, hK, r, e, q⟩ => ?_
  intro p hp
  have pP : g.P p = none := by
    cases h : g.P p with
    | none => rfl
    | some o => rw [(r.pin p o h).1] at hp; cases hp
  have r0 := pin_new r hp (.dK [])
  refine pairs_of fps σ _ _ ⟨g.pn (upd g.P p (.dK [])), ρ, w, hK, r0, e.mono (g.pn_xt _), ?_⟩
  unfold eDisp at q
  cases hz : pairsF fps ρ w with
  | ok ps w1 =>
    rw [hz] at q
    intro vs H1 g1 x r1 hps
    simp only at q
    split at q
    · rename_i kvs hk
      split at q
      · rename_i hlen
        obtain ⟨ks, rfl, kv⟩ := keysOf_ok hps hk
        have hP1 : g1.P = upd g.P p (.dK []) := x.p
        refine ⟨(r1.pin p _ (by rw [hP1]; exact upd_same)).1, ks, rfl, by rw [kv.length]; exact hlen, ?_⟩
        have hn := (r1.pin p _ (by rw [hP1]; exact upd_same)).2.1
        have ra := pin_alloc (o' := .dK (mergeK [] ks)) (ob := .dK (mergeD [] kvs)) r1 hP1 (fun a z => nomatch z) pP ⟨hn, _, upd_same, (KvR.merge kv .nil).mono alloc_xt⟩
        refine q _ _ _ ⟨((g.pn_xt _).trans x.toXt0).trans alloc_xt, rfl⟩ ra ?_
        rw [← r1.len]
        exact alloc_ref
      · exact q.elim
    · exact q.elim
  | ex c fs w1 => rw [hz] at q; exact q.elim
  | no => rw [hz] at q; exact q.elim
theorem ppsf_nil {X : Cx} {pos : Pos} : PPs X pos [] [] (([] : List (FE × FE)).map fun p => (lE X.K W0 p.1, lE X.K W0 p.2)) := pps_nil
theorem ppsf_cons {X : Cx} {pos : Pos} {k v : Expr} {ks : List (Option Expr)} {vs : List Expr} {fk fv : FE} {fps : List (FE × FE)} (hk : PF X W0 k fk) (hv : PF X W0 v fv) (hr : PPs X pos ks vs (fps.map fun p => (lE X.K W0 p.1, lE X.K W0 p.2))) :
    PPs X pos (some k :: ks) (v :: vs) (((fk, fv) :: fps).map fun p => (lE X.K W0 p.1, lE X.K W0 p.2)) := pps_cons hk hv hr

/-! ### repr -/
section
variable {X : Cx} {W : WX}
def reprD (_ : Ws) : List PyData → Option PyData
  | [d] => if SeqAt.shaped d && d.showable && szOk d.shown.length then some (.str d.shown) else none
  | _ => none
theorem call_reprX (hg : X.A.guards = some []) (hu : X.A.units + 70 < cLine) : CallR X (.builtin "repr") (rDN X.K reprD) := by
  intro pins s σ H xs us Q I rv ⟨g, w, ds, z, hK, r, dx, hz, q⟩
  unfold reprD at hz
  split at hz
  · rename_i d
    split at hz
    · rename_i hs
      cases hz
      rw [Bool.and_eq_true, Bool.and_eq_true] at hs
      obtain ⟨⟨h1, h2⟩, h3⟩ := hs
      have h3 := of_decide_eq_true h3
      cases dx with
      | cons d0 dn =>
        cases dn
        cases rv with
        | cons rv0 rvn =>
          cases rvn
          have fin : ∀ t tk, EP X pins σ Q (.str d.shown t) { s with toks := tk } := fun t tk => ⟨.str d.shown, H, I.tok tk, ⟨t, rfl⟩, q _ H g (Xt.refl g) r (.str _)⟩
          cases d0 with
          | non => cases rv0; exact PySem.P.repr_of_none (fin _ _)
          | bl b => cases rv0; exact PySem.P.repr_of_bool (fin _ _)
          | int i =>
            obtain ⟨t, rfl⟩ := rv0
            exact PySem.P.repr_of_int (by simpa [PyData.showable] using h2) (fin _ _)
          | str y =>
            obtain ⟨t, rfl⟩ := rv0
            exact PySem.P.repr_of_str (fin _ _) h3
          | lst sq da =>
            obtain ⟨as, rd⟩ := Dp.reads I _ _ _ (hK ▸ (Dq.lst sq da).dp r.fro _ _ (shaped_lay h1)) rv0
            cases rv0
            have hdep : PyData.depth _ ≤ 64 := of_decide_eq_true ((Bool.and_eq_true _ _).mp h1).2
            refine repr_of_reads' rd h2 (PyData.noDict_hsm (PyData.hasDict_of_canLay _ (shaped_lay h1))) hg (by omega) (fun _ _ e => e) (fun h' u tk hk => ?_) h3
            exact ⟨.str _, H, I.kept hk, ⟨u, rfl⟩, q _ H g (Xt.refl g) r (.str _)⟩
          | tup sq da =>
            obtain ⟨as, rd⟩ := Dp.reads I _ _ _ (hK ▸ (Dq.tup sq da).dp r.fro _ _ (shaped_lay h1)) rv0
            cases rv0
            have hdep : PyData.depth _ ≤ 64 := of_decide_eq_true ((Bool.and_eq_true _ _).mp h1).2
            refine repr_of_reads' rd h2 (PyData.noDict_hsm (PyData.hasDict_of_canLay _ (shaped_lay h1))) hg (by omega) (fun _ _ e => e) (fun h' u tk hk => ?_) h3
            exact ⟨.str _, H, I.kept hk, ⟨u, rfl⟩, q _ H g (Xt.refl g) r (.str _)⟩
          | ref hl =>
            have := shaped_lay h1
            simp [PyData.canLay0] at this
    · cases hz
  · cases hz
end
end Td

set_option Elab.async false
set_option linter.all false
set_option maxRecDepth 100000
set_option maxHeartbeats 4000000
namespace Td
open PySem L2 PySem.Spec PyProof.Rows
/-! ### what leaves a call: objects that nobody sees any more are dropped -/
mutual
def bnd (n : Nat) : PyData → Bool
  | .list xs => bndA n xs
  | .tuple xs => bndA n xs
  | .dict kvs => bndK n kvs
  | _ => true
def bndA (n : Nat) : List PyData → Bool
  | [] => true
  | x :: xs => bnd n x && bndA n xs
def bndK (n : Nat) : List (PyData × PyData) → Bool
  | [(.int l, .none)] => decide (l < n)
  | _ => false
end
def bndO (n : Nat) : Ob → Bool
  | .lst xs => bndA n xs
  | .dK kvs => bndA n (kvs.map (·.2))
  | .ins _ fs => bndA n (fs.map (·.2))
  | .dead => true
def Gd.cut (g : Gd) (n : Nat) : Gd := { g with n := n }
mutual
theorem Dq.cut {g : Gd} {n : Nat} : ∀ (d : PyData) (v : V), bnd n d = true → Dq g v d → Dq (g.cut n) v d
  | .none, _, _, h => by cases h; exact .non
  | .bool _, _, _, h => by cases h; exact .bl _
  | .int _, _, _, h => by cases h; exact .int _
  | .str _, _, _, h => by cases h; exact .str _
  | .list ds, _, c, h => by
    cases h with
    | lst a b => exact .lst a (DqA.cutA ds _ (by simpa [bnd] using c) b)
  | .tuple ds, _, c, h => by
    cases h with
    | tup a b => exact .tup a (DqA.cutA ds _ (by simpa [bnd] using c) b)
  | .dict _, _, c, h => by
    cases h with
    | @ref l hl =>
      have : l < n := by simpa [bnd, bndK] using c
      exact Dq.ref (g := g.cut n) this
theorem DqA.cutA {g : Gd} {n : Nat} : ∀ (ds : List PyData) (vs : List V), bndA n ds = true → DqA g vs ds → DqA (g.cut n) vs ds
  | [], _, _, h => by cases h; exact .nil
  | d :: ds, _, c, h => by
    have c' : bnd n d = true ∧ bndA n ds = true := by simpa [bndA] using c
    cases h with
    | cons a b => exact .cons (Dq.cut d _ c'.1 a) (DqA.cutA ds _ c'.2 b)
end
theorem KvR.cut {κ : Type} {g : Gd} {n : Nat} : ∀ {ks : List (κ × V)} {kvs : List (κ × PyData)}, bndA n (kvs.map (·.2)) = true → KvR g ks kvs → KvR (g.cut n) ks kvs
  | _, _, _, .nil => .nil
  | _, _, c, .cons h t => by
    have c' := c
    simp only [List.map_cons, bndA, Bool.and_eq_true] at c'
    exact .cons ⟨h.1, h.2.cut _ _ c'.1⟩ (KvR.cut c'.2 t)
theorem ObR.cut {g : Gd} {n : Nat} {H : Hp} {a : Addr} {ob : Ob} (c : bndO n ob = true) (h : ObR g H a ob) : ObR (g.cut n) H a ob := by
  cases ob with
  | lst ds =>
    obtain ⟨hn, xs, h, d⟩ := h
    exact ⟨hn, xs, h, d.cutA _ _ c⟩
  | dK kvs =>
    obtain ⟨hn, ks, h, d⟩ := h
    exact ⟨hn, ks, h, d.cut c⟩
  | ins C fs =>
    obtain ⟨hn, dx, gs, h, hd, hn2, d⟩ := h
    exact ⟨hn, dx, gs, h, hd, hn2, d.cut c⟩
  | dead => exact h
theorem Rp.cut {g : Gd} {H : Hp} {w : Ws} {n : Nat} (r : Rp g H w) (hn : n ≤ w.length) (c : (w.take n).all (bndO n) = true) : Rp (g.cut n) H (w.take n) where
  fro := r.fro
  len := by show n = _; rw [List.length_take]; omega
  cell := fun l ob e => by
    have hl : l < n := by
      have := (List.getElem?_eq_some_iff.mp e).1
      rw [List.length_take] at this
      omega
    have e' := e
    rw [List.getElem?_take_of_lt hl] at e
    exact (r.cell l ob e).cut (List.all_eq_true.mp c ob (List.mem_of_getElem? e'))
  inj := fun l m hl hm e => r.inj l m (by rw [r.len]; exact Nat.lt_of_lt_of_le hl hn) (by rw [r.len]; exact Nat.lt_of_lt_of_le hm hn) e
  pin := fun a u e => let ⟨h1, h2, h3⟩ := r.pin a u e; ⟨h1, h2, fun l hl => h3 l (by rw [r.len]; exact Nat.lt_of_lt_of_le hl hn)⟩
abbrev FF := List PyData → Ws → Oc PyData
def trimW (n : Nat) (w : Ws) : Bool := decide (n ≤ w.length) && (w.take n).all (bndO n)
def leave (n : Nat) : Os → Oc PyData
  | .nx _ w => if trimW n w then .ok .none (w.take n) else .ok .none w
  | .rt d w => if trimW n w && bnd n d then .ok d (w.take n) else .ok d w
  | .ex _ c fs w => if trimW n w && bndA n (fs.map (·.2)) then .ex c fs (w.take n) else .ex c fs w
  | _ => .no
def startE (m : Nat) (ds : List PyData) : Ev := ds.map some ++ List.replicate (m - ds.length) none
def defF (m : Nat) (n : Nat) (bf : FS) : FF := fun ds w => if ds.length = n then leave w.length (bf (startE m ds) w) else .no

/-! ### what a def promises -/
def oF (g : Gd) (Q : VK) (E : XK) : Oc PyData → Prop
  | .ok d w => ∀ v H g', Xt g g' → Rp g' H w → Dq g' v d → Q v H
  | .ex c fs w => ∀ dd H g', Xt g g' → Rp g' H w → XdR g' H fs dd → E c dd H
  | .no => False
def spF (K : PySem.W.Frag) (n : Nat) (gf : FF) : Sp := fun vs H Q E => ∃ g w ds, g.K = K ∧ Rp g H w ∧ DqA g vs ds ∧ vs.length = n ∧ oF g Q E (gf ds w)
structure FnG (P : Program) (w : World) (K : PySem.W.Frag) (mg : Str → Option Value) (base : Heap) (k : Nat) (f : Addr) (fd : FuncData) (ps : List Str) (gf : FF) : Prop where
  run : ∀ (A : Around) (outer : List Env) (s : Shared) (H : Hp) (args : Args) (us : List Value) (vs : List V) (Q : VK) (E : XK), Room k A → A.guards = some [] → Env0 P w K mg base A outer s H → BindsTo s fd args (ps.zip us) → Vals vs us → spF K ps.length gf vs H Q E →
    codeAny (model P w) A (.call (.ref f) args) (CR (CX P w) outer P w H s Q E) s
theorem FnG.mono {P : Program} {w : World} {K : PySem.W.Frag} {mg : Str → Option Value} {base : Heap} {j k : Nat} {f : Addr} {fd : FuncData} {ps : List Str} {gf : FF} (F : FnG P w K mg base j f fd ps gf) (h : j ≤ k) : FnG P w K mg base k f fd ps gf :=
  ⟨fun A outer s H args us vs Q E hr => F.run A outer s H args us vs Q E (hr.mono h)⟩
theorem FnG.eq {P : Program} {w : World} {K : PySem.W.Frag} {mg : Str → Option Value} {base : Heap} {k : Nat} {f : Addr} {fd : FuncData} {ps : List Str} {gf gf' : FF} (F : FnG P w K mg base k f fd ps gf) (h : ∀ ds w, gf' ds w = .no ∨ gf ds w = gf' ds w) : FnG P w K mg base k f fd ps gf' :=
  ⟨fun A outer s H args us vs Q E hr hg e0 hb hv ⟨g, w', ds, hK, r, da, hl, q⟩ => F.run A outer s H args us vs Q E hr hg e0 hb hv ⟨g, w', ds, hK, r, da, hl, by
    rcases h ds w' with h | h
    · rw [h] at q; exact q.elim
    · rw [h]; exact q⟩⟩
theorem EnR.begin {g : Gd} {N : List Str} {vs : List V} {ds : List PyData} (h : DqA g vs ds) : EnR g (L2.start N vs) (startE N.length ds) := by
  refine ⟨by unfold L2.start startE; simp [h.length], fun i d e => ?_⟩
  unfold startE at e
  unfold L2.start
  by_cases hi : i < ds.length
  · rw [List.getElem?_append_left (by simpa using hi), List.getElem?_map] at e
    obtain ⟨d', h1, h2⟩ := Option.map_eq_some_iff.mp e
    cases h2
    obtain ⟨v, h3, h4⟩ := h.get h1
    exact ⟨v, by rw [List.getElem?_append_left (by simpa [h.length] using hi), List.getElem?_map, h3]; rfl, h4⟩
  · rw [List.getElem?_append_right (by simpa using hi), List.getElem?_replicate] at e
    split at e <;> cases e
theorem XdR.cut {g : Gd} {n : Nat} {H : Hp} {fs : List (Str × PyData)} {dd : Option Addr} (hn : n ≤ g.n) (c : bndA n (fs.map (·.2)) = true) (h : XdR g H fs dd) : XdR (g.cut n) H fs dd := by
  cases dd with
  | none => exact h
  | some d =>
    obtain ⟨h1, h2, gs, h3, h4⟩ := h
    exact ⟨h1, fun l hl => h2 l (Nat.lt_of_lt_of_le hl hn), gs, h3, h4.cut c⟩
theorem Xt.cut {g g' : Gd} (x : Xt g g') : Xt g (g'.cut g.n) := ⟨⟨x.k, x.ex, x.at_, Nat.le_refl _⟩, x.p⟩
section
variable {P : Program} {w : World} {K : PySem.W.Frag} {mg : Str → Option Value} {base : Heap}
theorem leave_ok {g : Gd} {Q : VK} {E : XK} {H : Hp} {ws : Ws} (r : Rp g H ws) {o : Os} (h : oF g Q E (leave ws.length o)) : oSt (fun c d _ H => E c d H) g { nx := fun _ H' => Q .non H', rt := Q } o := by
  have hn := r.len
  cases o with
  | nx ρ w' =>
    intro σ H' g' x r' e'
    simp only [leave] at h
    split at h
    · rename_i ht
      rw [trimW, Bool.and_eq_true] at ht
      have := h .non H' (g'.cut g.n) x.cut (by rw [hn]; exact r'.cut (of_decide_eq_true ht.1) ht.2) .non
      exact this
    · exact h .non H' g' x r' .non
  | rt d w' =>
    intro v H' g' x r' dv
    simp only [leave] at h
    split at h
    · rename_i ht
      rw [trimW, Bool.and_eq_true, Bool.and_eq_true] at ht
      exact h v H' (g'.cut g.n) x.cut (by rw [hn]; exact r'.cut (of_decide_eq_true ht.1.1) ht.1.2) (by rw [hn]; exact dv.cut _ _ ht.2)
    · exact h v H' g' x r' dv
  | ex ρ c fs w' =>
    intro dd σ H' g' x r' e' xd
    simp only [leave] at h
    split at h
    · rename_i ht
      rw [trimW, Bool.and_eq_true, Bool.and_eq_true] at ht
      exact h dd H' (g'.cut g.n) x.cut (by rw [hn]; exact r'.cut (of_decide_eq_true ht.1.1) ht.1.2) (by rw [hn]; exact xd.cut (by rw [← hn]; exact x.le) ht.2)
    · exact h dd H' g' x r' xd
  | bk ρ w' => exact h.elim
  | ct ρ w' => exact h.elim
  | no => exact h.elim
/-- THE RULE for a def, by its body -/
theorem fnG_of {x qual : Str} {st : Stmt} {f : Addr} {fd : FuncData} {N ps : List Str} {k : Nat} {bf : FS} (F : Fun K x qual st f fd) (S : FnScope N ps (defScope st))
    (hbody : ∀ (cdv : Value) (A : Around) (outer : List Env) (s : Shared) (H : Hp) (E : XK), Room k (A.deeper (envOfC qual (defScope st) s.heap.objs.size f cdv)) → A.guards = some [] →
      PSsf (cxOf (CX P w) P w K mg base N qual (defScope st) f cdv A outer s H E) (fun c d _ H => E c d H) (defBody st) bf) : FnG P w K mg base (k + 1) f fd ps (defF N.length ps.length bf) := by
  obtain ⟨oc, od, kV, doc, pm, an, cdv, ct, osl, rfl, lk, hcd⟩ := F.ex
  refine ⟨fun A outer s H args us vs Q E hr hg e0 hb hv hsp => ?_⟩
  obtain ⟨g, ws, ds, hK, r, da, hl, q⟩ := hsp
  have inK : K.In s.heap := e0.mod.kin.keeps fun b ob z => (e0.bs b ob z).1
  have noLim : s.heap.NoLimit := e0.mod.nolimit.keeps fun b ob z => (e0.bs b ob z).1
  have kinds : ∀ y ∈ ps.zip us, (defScope st).names.lookup y.1 = some .local ∨ ((defScope st).names.lookup y.1 = some .cell ∧ ((cellsFrom (s.heap.objs.size + 1) (defScope st).names []).lookup y.1).isSome = true) := by
    rintro ⟨nm, vl⟩ hy
    rcases S.par nm (List.of_mem_zip hy).1 with z | z
    · exact Or.inl z
    · exact Or.inr ⟨z, PySem.W.cellsFrom_some _ _ _ (Or.inl z)⟩
  refine codeAny_call_function hr.depth (inK _ _ lk) rfl S.co S.gen rfl (PySem.W.codeRec_of inK hcd) (hb _ _ _ _ ?_)
  refine wpAny_newFunctionEnv_cells S.kind kinds ?_
  rintro env rfl s1 nw
  refine ⟨noLim.keeps nw.toInCall.keep, codeAny_func ?_⟩
  have body := hbody cdv A outer s H E (hr.deeper _) hg
  have J0 : Inv (cxOf (CX P w) P w K mg base N qual (defScope st) f cdv A outer s H E) [] (L2.start N vs) H s1 := inv_start S hr.hd e0 hl hv nw
  have want : lS K (fun c d _ H => E c d H) bf { nx := fun _ H' => Q .non H', rt := Q } (L2.start N vs) H := by
    refine ⟨g, startE N.length ds, ws, hK, r, EnR.begin da, leave_ok r ?_⟩
    have hd : ds.length = ps.length := by rw [← da.length]; exact hl
    rw [defF, if_pos hd] at q
    exact q
  refine wpAny_mono (body.run [] s1 _ H _ J0 want) ?_ fun _ _ z => z
  intro fl s' hs
  cases fl with
  | brk => exact hs.elim fun _ z => z.elim fun _ z => z.2.elim
  | cont => exact hs.elim fun _ z => z.elim fun _ z => z.2.elim
  | next =>
    obtain ⟨_, H', J, z⟩ := hs
    exact ⟨.non, H', J.os, J.bare, J.base, J.hok, rfl, z⟩
  | ret u =>
    obtain ⟨v, _, H', J, rv, z⟩ := hs
    exact ⟨v, H', J.os, J.bare, J.base, J.hok, rv, z⟩
end
end Td

set_option Elab.async false
set_option linter.all false
set_option maxRecDepth 100000
set_option maxHeartbeats 4000000
namespace Td
open PySem L2 PySem.Spec PyProof.Rows
section
variable {X : Cx} {W : WX} {k : Nat} {f : Addr} {fd : FuncData} {ps : List Str} {gf : FF} {ds : List Value} {dvs : List V} {des : List PyData}
/-- the callee runs -/
theorem run_G {pins : List (Addr × Obj)} {σ : L2.St} {H : Hp} {s : Shared} {Q : VK} {us : List Value} {vs : List V} (F : FnG X.prog X.w X.K X.mg X.base k f fd ps gf) (hr : Room k X.A) (hgu : X.A.guards = some []) (hb : Binds X.K fd ps ds) (hd : Vals dvs ds) (tk : Takes X W)
    (I : Inv X pins σ H s) (r : Vals vs us) (h : spF X.K ps.length gf (vs ++ dvs) H Q (fun c d H' => W c d σ H')) : wpAny (model X.prog X.w) X.A (call (.ref f) us) (EP X pins σ Q) X.xe s := by
  have all : Vals (vs ++ dvs) (us ++ ds) := r.append hd
  have many : (us ++ ds).length = ps.length := by
    obtain ⟨_, _, _, _, _, _, hl, _⟩ := h
    rw [← all.length]
    exact hl
  refine wpAny_call (codeAny_mono (F.run X.A X.stack s H ⟨us, []⟩ _ _ Q _ hr hgu I.env0 (hb s us I.kIn many) all h) ?_)
  intro res s' hq
  match res, hq with
  | .error e, hq => exact tk e s' (XE.of_call I (fun _ _ _ z => z) hq)
  | .ok (.ret u), hq => exact I.after hq
def eCall (gf : FF) (des : List PyData) (fa : FA) : FE := fun ρ w => (fa ρ w).bind fun as w1 => gf (as ++ des) w1
theorem call_want {σ : L2.St} {H : Hp} {Q : VK} {fa : FA} {K : PySem.W.Frag} {n : Nat} (hdd : ∀ g : Gd, DqA g dvs des) (hlen : ∀ as : List PyData, (as ++ des).length = n ∨ ∀ w, gf (as ++ des) w = .no) (h : lE K W (eCall gf des fa) σ H Q) :
    lA K W fa σ H fun vs H1 => spF K n gf (vs ++ dvs) H1 Q (fun c d H' => W c d σ H') := by
  obtain ⟨g, ρ, w, hK, r, e, q⟩ := h
  refine lX_bind hK r e q fun vs H1 g1 as w1 x r1 e1 dv z => ?_
  have dal : DqA g1 (vs ++ dvs) (as ++ des) := dv.append (hdd g1)
  refine ⟨g1, w1, as ++ des, x.k.trans hK, r1, dal, ?_, ?_⟩
  · rw [dal.length]
    rcases hlen as with h | h
    · exact h
    · rw [h] at z; exact z.elim
  · cases hz : gf (as ++ des) w1 with
    | ok d w2 => rw [hz] at z; exact z
    | ex c fs w2 => rw [hz] at z; exact z
    | no => rw [hz] at z; exact z
/-- f(a, ..), the defaults dvs behind -/
theorem pf_callD {x : Str} {p pos : Pos} {e : Expr} {es : List Expr} {fa : FA} (F : FnG X.prog X.w X.K X.mg X.base k f fd ps gf) (hr : Room k X.A) (hgu : X.A.guards = some []) (hg : Gl X x) (hm : X.mg x = some (.ref f)) (hk : PySem.W.keepIn X.K (.ref f) = true) (hb : Binds X.K fd ps ds) (hd : Vals dvs ds) (hdd : ∀ g : Gd, DqA g dvs des)
    (hlen : ∀ as : List PyData, (as ++ des).length = ps.length ∨ ∀ w, gf (as ++ des) w = .no) (tk : Takes X W) (ha : PAf X W (e :: es) fa) (hdb : (x == ("__debug__" : Str)) = false := by decide) (he : starEach (e :: es) X.env = (false, eval e X.env) :: starEach es X.env := by rfl) (hpl : (backTo pos (starEach es X.env)).any (·.1) = false := by rfl) :
    PF X W (.Call (.Name x p) (e :: es) [] pos) (eCall gf des fa) := by
  refine ⟨fun pins s σ H Q I h => ?_⟩
  have want := call_want hdd hlen h
  refine wpAny_Call_Name_kw (ld_glob I hg hm ?_ hdb)
  refine PySem.W.callWith_K (h₀ := X.base) I.ok.mod.kin hk ?_ he hpl
  exact thn (ha.run pos pins s σ H _ I want) fun us s1 ⟨vs, H1, I1, rv, q⟩ => ⟨I1.kIn, run_G F hr hgu hb hd tk I1 rv q⟩
theorem pf_call {x : Str} {p pos : Pos} {e : Expr} {es : List Expr} {fa : FA} {m : Nat} {bf : FS} (F : FnG X.prog X.w X.K X.mg X.base k f fd ps (defF m ps.length bf)) (hr : Room k X.A) (hgu : X.A.guards = some []) (hg : Gl X x) (hm : X.mg x = some (.ref f)) (hk : PySem.W.keepIn X.K (.ref f) = true) (hb : Binds X.K fd ps [])
    (tk : Takes X W) (ha : PAf X W (e :: es) fa) (hdb : (x == ("__debug__" : Str)) = false := by decide) (he : starEach (e :: es) X.env = (false, eval e X.env) :: starEach es X.env := by rfl) (hpl : (backTo pos (starEach es X.env)).any (·.1) = false := by rfl) :
    PF X W (.Call (.Name x p) (e :: es) [] pos) (eCall (defF m ps.length bf) [] fa) :=
  pf_callD F hr hgu hg hm hk hb .nil (fun _ => .nil) (fun as => by
    by_cases h : (as ++ []).length = ps.length
    · exact Or.inl h
    · exact Or.inr fun w => if_neg h) tk ha hdb he hpl
theorem pf_call0 {x : Str} {p pos : Pos} {m : Nat} {bf : FS} (F : FnG X.prog X.w X.K X.mg X.base k f fd ps (defF m ps.length bf)) (hr : Room k X.A) (hgu : X.A.guards = some []) (hg : Gl X x) (hm : X.mg x = some (.ref f)) (hk : PySem.W.keepIn X.K (.ref f) = true) (hb : Binds X.K fd ps [])
    (tk : Takes X W) (hdb : (x == ("__debug__" : Str)) = false := by decide) :
    PF X W (.Call (.Name x p) [] [] pos) (eCall (defF m ps.length bf) [] aN) := by
  refine ⟨fun pins s σ H Q I h => ?_⟩
  have want := call_want (dvs := []) (des := []) (n := ps.length) (fun _ => .nil) (fun as => by
    by_cases h : (as ++ []).length = ps.length
    · exact Or.inl h
    · exact Or.inr fun w => if_neg h) h
  refine wpAny_Call_Name_kw (ld_glob I hg hm ?_ hdb)
  obtain ⟨g, ρ, w, hK, r, e, q⟩ := want
  exact PySem.W.callWith_K0 I.kIn hk (run_G (us := []) (vs := []) F hr hgu hb .nil tk I .nil (q [] H g (Xt.refl g) r .nil))
end
end Td

set_option Elab.async false
set_option linter.all false
set_option maxRecDepth 100000
set_option maxHeartbeats 4000000
namespace Td
open PySem L2 PySem.Spec PyProof.Rows
/-! ### the law's own call -/
def intsD (ns : List Int) : PyData := .list (ns.map .int)
theorem dqa_ints {g : Gd} : ∀ ns : List Int, DqA g (ns.map V.int) (ns.map PyData.int)
  | [] => .nil
  | n :: ns => .cons (.int n) (dqa_ints ns)
/-- the abstract heap at the law's entry: the script, as it stands, if it is none of the module's own -/
def H00 (K : PySem.W.Frag) (a : Addr) (o : Obj) (ns : List Int) : Hp := fun b => if b = a ∧ K.lookup a = none then some (.frz o (.lst (ns.map V.int))) else none
theorem H00_some {K : PySem.W.Frag} {a b : Addr} {o : Obj} {ns : List Int} {u : HO} (h : H00 K a o ns b = some u) : b = a ∧ K.lookup a = none ∧ u = .frz o (.lst (ns.map V.int)) := by
  unfold H00 at h
  split at h
  · rename_i c
    exact ⟨c.1, c.2, (Option.some.inj h).symm⟩
  · cases h
theorem lawG {P : Program} {w : World} {K : PySem.W.Frag} {mg mb : Str → Option Value} {k : Nat} {fa a : Addr} {fd : FuncData} {x : Str} {gf : FF} {s1 : Shared} {vs : List Value} {ns : List Int} {wf : Ws}
    (inK : K.In s1.heap) (nsG : s1.heap.Ns mainGlobals mg) (nsB : s1.heap.Ns builtinsNs mb) (boot : ∀ y : Str, y ≠ "__name__" → mb y = bootBuiltins y) (lim : s1.heap.NoLimit) (noGen : s1.gens = #[])
    (at_a : s1.heap.get? a = some { cls := .type "list", data := .seq vs.toArray }) (hi : IntsAre vs ns) (hl : ns.length ≤ sizeLine) (hr : Room k callerA)
    (F : ∀ base : Heap, K.In base → base.Ns mainGlobals mg → FnG P w K mg base k fa fd [x] gf) (hbind : ∀ (s : Shared) (u : Value), BindsTo s fd ⟨[u], []⟩ [(x, u)])
    (hv : gf [intsD ns] [] = .ok (.bool true) wf) :
    codeAny (model P w) callerA (.call (.ref fa) ⟨[.ref a], []⟩) (fun r s' => r = .ok (.ret (.bool true)) ∧ OldK s1.heap s'.heap ∧ s'.os = s1.os ∧ AllBare s'.gens) s1 := by
  obtain ⟨ob, hob⟩ : ∃ ob : Obj, ob = { cls := .type "list", data := .seq vs.toArray } := ⟨_, rfl⟩
  rw [← hob] at at_a
  obtain ⟨H, hH⟩ : ∃ H, H = H00 K a ob ns := ⟨_, rfl⟩
  have rv : Vals (ns.map V.int) vs := vals_ints hi
  have who : ∀ {b u}, H b = some u → b = a ∧ K.lookup a = none ∧ u = .frz ob (.lst (ns.map V.int)) := fun h => H00_some (hH ▸ h)
  have sq : SqL K H a (ns.map V.int) := by
    cases q : K.lookup a with
    | none => exact .inl (.inr ⟨ob, by rw [hH, H00, if_pos ⟨rfl, q⟩]⟩)
    | some o =>
      have z := (inK a o q).symm.trans at_a
      cases z
      subst hob
      exact .inr ⟨_, vs.toArray, _, q, rfl, rfl, rfl, by rw [List.size_toArray, hi.length]; exact hl, by simpa using rv⟩
  have hok : HOk P w H s1.heap := fun b u h => by
    obtain ⟨rfl, _, rfl⟩ := who h
    refine ⟨at_a, by rw [List.length_map]; exact hl, vs, 0, rv, at_a.trans ?_⟩
    rw [hob]
  have clear : ∀ {b o}, s1.heap.get? b = some o → (∀ its n, o.data ≠ .seq its n) → H b = none := fun {b o} h nd => by
    cases q : H b with
    | none => rfl
    | some u =>
      obtain ⟨rfl, _, _⟩ := who q
      have z := h.symm.trans at_a
      cases z
      exact absurd (by rw [hob]) (nd vs.toArray _)
  have nsH : ∀ {b m}, s1.heap.Ns b m → (hidT s1.heap H).Ns b m := fun {b m} ⟨o, es, ep, h1, h2, h3⟩ => ⟨o, es, ep, hidT_get h1 (clear h1 fun _ _ z => by rw [h2] at z; cases z), h2, h3⟩
  have inH : K.In (hidT s1.heap H) := fun b o h => by
    refine hidT_get (inK b o h) ?_
    cases q : H b with
    | none => rfl
    | some u =>
      obtain ⟨rfl, z, _⟩ := who q
      rw [z] at h
      cases h
  obtain ⟨mc, l1, l2⟩ := lim
  have e0 : Env0 P w K mg (hidT s1.heap H) callerA [] s1 H := {
    frames := rfl
    mod := ⟨inH, nsH nsG, ⟨mb, nsH nsB, boot⟩, ⟨mc, nsH l1, l2⟩⟩
    bs := fun b o h => of_hidT h
    bsz := Nat.le_of_eq (hidT_size _ _)
    funs := trivial
    frf := fun b h => nomatch h
    hok := hok
    bare := .of_eq noGen }
  have want : spF K 1 gf [.ref a] H (fun v _ => v = .bl true) fun _ _ _ => False := by
    refine ⟨⟨K, H, fun _ => none, fun _ => 0, 0⟩, [], [intsD ns], rfl, ⟨fun _ _ z => z, rfl, fun l ob e => by simp at e, fun l m hl _ _ => absurd hl (Nat.not_lt_zero _), fun a o z => by cases z⟩, .cons (.lst sq (dqa_ints ns)) .nil, rfl, ?_⟩
    rw [hv]
    intro v H' g' _ _ dv
    cases dv
    rfl
  refine codeAny_mono ((F _ inH (nsH nsG)).run callerA [] s1 H ⟨[.ref a], []⟩ [.ref a] [.ref a] _ _ hr rfl e0 (hbind s1 (.ref a)) (.cons rfl .nil) want) ?_
  intro res s' hq
  match res, hq with
  | .error e, hq =>
    obtain ⟨_, _, _, _, _, _, _, _, _, _, _, _, z⟩ := hq
    exact z.elim
  | .ok (.ret u), hq =>
    obtain ⟨v, H', os, bare, un, hok', rr, rfl⟩ := hq
    cases rr
    refine ⟨rfl, OldK.of_keep fun b o h => ?_, os, bare⟩
    cases q : H b with
    | none => exact un.keep b o h q (fun z => nomatch z) (fun z => nomatch z)
    | some u =>
      obtain ⟨rfl, _, rfl⟩ := who q
      have h2 := (hok' _ _ (un.frzs _ _ _ q)).1
      rw [at_a] at h
      cases h
      exact h2
/-- the goal that k_head leaves -/
theorem walkG {l : PySem.W.OpenLaw} {n k : Nat} {q : Program} {loose : List Str} {XP : (Str → Option Value) → Heap → Prop} {YP : World → Heap → Prop} {d : DefRec} {K : Params → PySem.W.Frag} {gf : FF} {x : Str}
    (hn : l.most = some n) (hn2 : n ≤ sizeLine) (hdf : d.params.defaults = []) (hr : Room k callerA) (hY : ∀ (w : World) (h : Heap), YP w h → (K w.params).In h)
    (F : ∀ (w : World) (mg : Str → Option Value) (fa : Addr) (h : Heap), (K w.params).In h → h.Ns mainGlobals mg → mg d.name = some (.ref fa) →
      ∃ fd : FuncData, (∀ (s : Shared) (u : Value), BindsTo s fd ⟨[u], []⟩ [(x, u)]) ∧ ∀ base : Heap, (K w.params).In base → base.Ns mainGlobals mg → FnG l.prog w (K w.params) mg base k fa fd [x] gf)
    (hv : ∀ ns : List Int, ns.length ≤ n → ∃ wf, gf [intsD ns] [] = .ok (.bool true) wf) :
    PySem.W.WalkO q loose XP YP l.row.toRowW d [] (fun f vs => PySem.call f vs) := by
  refine Att.attach_call hn hdf fun w s0 s1 mg mb fa o pm cd doc a vs ns G Y ho hd hcd hmg hobj hints hlen hg => ?_
  obtain ⟨fd, hb, hF⟩ := F w mg fa _ (hY w _ Y) G.T.g hmg
  obtain ⟨wf, hwf⟩ := hv ns hlen
  exact lawG (hY w _ Y) G.T.g G.T.b G.T.builtins G.T.nolimit hg hobj hints (Nat.le_trans hlen hn2) hr hF hb hwf
end Td

set_option Elab.async false
set_option linter.all false
set_option maxRecDepth 100000
set_option maxHeartbeats 4000000
namespace Td
open PySem L2 PySem.Spec PyProof.Rows
theorem hu1 {k : Nat} {A : Around} (hr : Room k A) : A.units + 1 < cLine := by have := hr.un; omega
theorem hu64 {k : Nat} {A : Around} (hr : Room k A) : A.units + 64 < cLine := by have := hr.un; omega
theorem hu65 {k : Nat} {A : Around} (hr : Room k A) : A.units + 65 < cLine := by have := hr.un; omega
theorem hu70 {k : Nat} {A : Around} (hr : Room k A) : A.units + 70 < cLine := by have := hr.un; omega
theorem takesW0 {X : Cx} : Takes X W0 := fun _ _ x => by
  obtain ⟨_, _, _, _, _, _, _, _, _, _, _, _, _, _, _, _, z⟩ := x
  exact z.elim
/-- a def of the text, where it stands -/
structure DefAt (K : PySem.W.Frag) (mg : Str → Option Value) (x : Str) (st : Stmt) (ps : List Str) where
  f : Addr
  fd : FuncData
  fn : Fun K x x st f fd
  at_ : mg x = some (.ref f)
  bd : Binds K fd ps []
structure Gx (P : Program) (w : World) (K : PySem.W.Frag) (mg : Str → Option Value) (base : Heap) (k : Nat) {x : Str} {st : Stmt} {ps : List Str} (D : DefAt K mg x st ps) (gf : FF) : Prop where
  fn : FnG P w K mg base k D.f D.fd ps gf
  len : ∀ as w, as.length ≠ ps.length → gf as w = .no
section
variable {X : Cx} {W : WX} {k : Nat} {ps : List Str} {gf : FF} {x : Str} {st : Stmt} {p pos : Pos}
theorem pf_callR {D : DefAt X.K X.mg x st ps} {e : Expr} {es : List Expr} {fa : FA} (G : Gx X.prog X.w X.K X.mg X.base k D gf) (hr : Room k X.A) (hgu : X.A.guards = some []) (hgl : Gl X x) (tk : Takes X W) (ha : PAf X W (e :: es) fa)
    (hdb : (x == ("__debug__" : Str)) = false := by decide) (he : starEach (e :: es) X.env = (false, eval e X.env) :: starEach es X.env := by rfl) (hpl : (backTo pos (starEach es X.env)).any (·.1) = false := by rfl) :
    PF X W (.Call (.Name x p) (e :: es) [] pos) (eCall gf [] fa) :=
  pf_callD G.fn hr hgu hgl D.at_ D.fn.kp D.bd .nil (fun _ => .nil) (fun as => by
    by_cases h : (as ++ []).length = ps.length
    · exact Or.inl h
    · exact Or.inr fun w => G.len _ w h) tk ha hdb he hpl
theorem pf_callR0 {D : DefAt X.K X.mg x st ps} (G : Gx X.prog X.w X.K X.mg X.base k D gf) (hr : Room k X.A) (hgu : X.A.guards = some []) (hgl : Gl X x) (tk : Takes X W)
    (hdb : (x == ("__debug__" : Str)) = false := by decide) : PF X W (.Call (.Name x p) [] [] pos) (eCall gf [] aN) := by
  refine ⟨fun pins s σ H Q I h => ?_⟩
  have want := call_want (dvs := []) (des := []) (n := ps.length) (fun _ => .nil) (fun as => by
    by_cases h : (as ++ []).length = ps.length
    · exact Or.inl h
    · exact Or.inr fun w => G.len _ w h) h
  refine wpAny_Call_Name_kw (ld_glob I hgl D.at_ ?_ hdb)
  obtain ⟨g, ρ, w, hK, r, e, q⟩ := want
  exact PySem.W.callWith_K0 I.kIn D.fn.kp (run_G (us := []) (vs := []) G.fn hr hgu D.bd .nil tk I .nil (q [] H g (Xt.refl g) r .nil))
/-- a, b = e1, e2 -/
theorem psf_par {i j : Nat} {x y : Str} {a b : Expr} {fa : FA} {px py pt : Pos} {kt k2 : Nat} {pt2 : Pos} (hc : X.calm = true) (hN : X.N.Nodup) (hi : X.N[i]? = some x) (hj : X.N[j]? = some y) (hij : i ≠ j) (hx : X.env.scope.names.lookup x = some .local) (hy : X.env.scope.names.lookup y = some .local)
    (ha : PAf X W [a, b] fa) (hw : swappedStores [.Tuple [.Name x px, .Name y py] kt pt] (.Tuple [a, b] k2 pt2) X.env = pure (some [x, y])) (hs : swapsWithSole [.Tuple [.Name x px, .Name y py] kt pt] (.Tuple [a, b] k2 pt2) pos.line X.env = pure false := by rfl) :
    PSf X W (.Assign [.Tuple [.Name x px, .Name y py] kt pt] (.Tuple [a, b] k2 pt2) pos) (sPar i j fa) := ps_imp (ps_par hc hN hi hj hij hx hy ha hw hs) par_of
/-- s.upper() -/
def upD (_ : Ws) : PyData → Option PyData
  | .str a => if decide (a.length ≤ 5592405) then some (.str (Txt.upper a)) else none
  | _ => none
theorem pf_upper {o : Expr} {fo : FE} {apos : Pos} (ho : PF X W o fo) (hbase : attributeBase o "upper" X.env (eval o X.env) = eval o X.env := by rfl) (hline : (apos.endLine == pos.line) = true := by rfl) :
    PF X W (.Call (.Attribute o "upper" apos) [] [] pos) (eU upD fo) := by
  refine pe_imp (pe_upper ho hbase hline) fun σ H Q ⟨g, ρ, w, hK, r, e, q⟩ => ?_
  refine lX_bind hK r e q fun v H1 g1 d w1 x r1 e1 dv z => ?_
  cases dv with
  | str a =>
    simp only [upD] at z
    split at z
    · rename_i hs
      exact ⟨⟨_, rfl⟩, _, rfl, rfl, of_decide_eq_true hs, z _ H1 g1 (Xt.refl _) r1 (.str _)⟩
    · exact z.elim
  | _ => exact z.elim
end
section
variable {P : Program} {w : World} {K : PySem.W.Frag} {mg : Str → Option Value} {base : Heap}
/-- a def by its body -/
theorem gx_of {x : Str} {st : Stmt} {N ps : List Str} {k : Nat} {bf : FS} (D : DefAt K mg x st ps) (S : FnScope N ps (defScope st))
    (hbody : ∀ (cdv : Value) (A : Around) (outer : List Env) (s : Shared) (H : Hp) (E : XK), Room k (A.deeper (envOfC x (defScope st) s.heap.objs.size D.f cdv)) → A.guards = some [] →
      PSsf (cxOf (CX P w) P w K mg base N x (defScope st) D.f cdv A outer s H E) (fun c d _ H => E c d H) (defBody st) bf) : Gx P w K mg base (k + 1) D (defF N.length ps.length bf) :=
  ⟨fnG_of D.fn S hbody, fun as w h => if_neg h⟩
theorem Gx.mono {x : Str} {st : Stmt} {ps : List Str} {j k : Nat} {D : DefAt K mg x st ps} {gf : FF} (G : Gx P w K mg base j D gf) (h : j ≤ k) : Gx P w K mg base k D gf := ⟨G.fn.mono h, G.len⟩
theorem gx_no {x : Str} {st : Stmt} {ps : List Str} {k : Nat} (D : DefAt K mg x st ps) : Gx P w K mg base k D (fun _ _ => .no) :=
  ⟨⟨fun A outer s H args us vs Q E hr hg e0 hb hv ⟨g, w', ds, hK, r, da, hl, q⟩ => q.elim⟩, fun _ _ _ => rfl⟩
theorem tkX {x : Str} {st : Stmt} {N : List Str} {f : Addr} {cdv : Value} {A : Around} {outer : List Env} {s : Shared} {H : Hp} {E : XK} : Takes (cxOf (CX P w) P w K mg base N x (defScope st) f cdv A outer s H E) (fun c d _ H => E c d H) := takes_of rfl rfl rfl rfl
theorem poX {x : Str} {st : Stmt} {N : List Str} {f : Addr} {cdv : Value} {A : Around} {outer : List Env} {s : Shared} {H : Hp} {E : XK} : PassesOwn (model P w) (cxOf (CX P w) P w K mg base N x (defScope st) f cdv A outer s H E).A (cxOf (CX P w) P w K mg base N x (defScope st) f cdv A outer s H E).env (cxOf (CX P w) P w K mg base N x (defScope st) f cdv A outer s H E).xe := passes_of rfl
def defAt_mk {h : Heap} {x : Str} {st : Stmt} {ps : List Str} {f : Addr} {oc : Value} {od an : Option Addr} {osl : Array (Option Value)} {kV doc pm cdv ct : Value} (X : K.In h) (G : h.Ns mainGlobals mg) (a : PySem.W.nsIn K mainGlobals x = some (some (.ref f)))
    (l : K.lookup f = some ⟨oc, od, .func (PySem.W.fnOf x x (defArgs st) (defBody st) (defScope st) .none kV doc pm an cdv ct), osl⟩) (c : PySem.W.codeIn K cdv x = true) (k : PySem.W.keepIn K (.ref f) = true)
    (hb : ∀ (kV doc pm : Value) (an : Option Addr) (cdv ct : Value) (us : List Value), us.length = ps.length → bindArgs (PySem.W.fnOf x x (defArgs st) (defBody st) (defScope st) .none kV doc pm an cdv ct) ⟨us, []⟩ = pure (ps.zip us)) : DefAt K mg x st ps :=
  ⟨f, _, fun_mk l c k, PySem.W.mg_of X G a, (fun_mk l c k).binds hb⟩
end
end Td

set_option Elab.async false
set_option linter.all false
set_option maxRecDepth 100000
set_option maxHeartbeats 4000000
namespace Td
open PySem L2 PyProof.Rows
/-! ### texts: rising, each once -/
def leS (a b : Str) : Bool := !(PySem.Spec.ltCps b.cps.toList a.cps.toList)
def putS (x : Str) : List Str → List Str
  | [] => [x]
  | y :: l => cond (leS x y) (x :: y :: l) (y :: putS x l)
def srtS (xs : List Str) : List Str := xs.foldr putS []
def addS (L : List Str) (x : Str) : List Str := cond (decide (x ∈ L)) L (L ++ [x])
def ddS (xs : List Str) : List Str := xs.foldl addS []
theorem leS_iff {a b : Str} : leS a b = true ↔ a.cps.toList ≤ b.cps.toList := by
  unfold leS
  rw [ltCps_eq, Bool.not_eq_true', decide_eq_false_iff_not]
  exact Iff.rfl
theorem leS_tot (a b : Str) : leS a b = true ∨ leS b a = true := by
  rw [leS_iff, leS_iff]
  exact List.le_total ..
theorem leS_tr {a b c : Str} (h1 : leS a b = true) (h2 : leS b c = true) : leS a c = true := by
  rw [leS_iff] at *
  exact List.le_trans h1 h2
theorem leS_anti {a b : Str} (h1 : leS a b = true) (h2 : leS b a = true) : a = b := by
  rw [leS_iff] at *
  have e := List.le_antisymm h1 h2
  obtain ⟨⟨x⟩⟩ := a
  obtain ⟨⟨y⟩⟩ := b
  cases e
  rfl
theorem putS_perm (x : Str) : ∀ l, (putS x l).Perm (x :: l)
  | [] => List.Perm.refl _
  | y :: l => by
    unfold putS
    cases leS x y with
    | true => exact List.Perm.refl _
    | false => exact ((putS_perm x l).cons y).trans (List.Perm.swap x y l)
theorem putS_srt (x : Str) : ∀ l, l.Pairwise (leS · · = true) → (putS x l).Pairwise (leS · · = true)
  | [], _ => List.pairwise_singleton ..
  | y :: l, h => by
    obtain ⟨h1, h2⟩ := List.pairwise_cons.mp h
    unfold putS
    cases c : leS x y with
    | true =>
      refine List.pairwise_cons.mpr ⟨fun z hz => ?_, h⟩
      rcases List.mem_cons.mp hz with rfl | hz
      · exact c
      · exact leS_tr c (h1 z hz)
    | false =>
      refine List.pairwise_cons.mpr ⟨fun z hz => ?_, putS_srt x l h2⟩
      rcases List.mem_cons.mp ((putS_perm x l).mem_iff.mp hz) with rfl | hz
      · rcases leS_tot z y with q | q
        · rw [c] at q; cases q
        · exact q
      · exact h1 z hz
theorem srtS_perm : ∀ l, (srtS l).Perm l
  | [] => List.Perm.refl _
  | x :: l => (putS_perm x (srtS l)).trans ((srtS_perm l).cons x)
theorem srtS_srt : ∀ l, (srtS l).Pairwise (leS · · = true)
  | [] => List.Pairwise.nil
  | x :: l => putS_srt x _ (srtS_srt l)
theorem pw_of_risingS : ∀ (p : Str) (l : List Str), risingS p l = true → (p :: l).Pairwise (leS · · = true)
  | p, [], _ => List.pairwise_singleton ..
  | p, x :: r, h => by
    have h' : (!PySem.Spec.ltCps x.cps.toList p.cps.toList && risingS x r) = true := h
    rw [Bool.and_eq_true] at h'
    have ih := pw_of_risingS x r h'.2
    refine List.pairwise_cons.mpr ⟨fun z hz => ?_, ih⟩
    rcases List.mem_cons.mp hz with rfl | hz
    · exact h'.1
    · exact leS_tr h'.1 ((List.pairwise_cons.mp ih).1 z hz)
theorem srtS_one {ys xs : List Str} (hp : ys.Perm xs) (hs : sortedS ys = true) : ys = srtS xs := by
  have h1 : ys.Pairwise (leS · · = true) := by
    cases ys with
    | nil => exact List.Pairwise.nil
    | cons p l => exact pw_of_risingS p l hs
  exact List.Perm.eq_of_pairwise (fun a b _ _ => leS_anti) h1 (srtS_srt xs) (hp.trans (srtS_perm xs).symm)
theorem ddS_snoc (xs : List Str) (x : Str) : ddS (xs ++ [x]) = addS (ddS xs) x := by
  unfold ddS
  rw [List.foldl_append]
  rfl
theorem addS_len (L : List Str) (x : Str) : (addS L x).length ≤ L.length + 1 := by
  unfold addS
  cases decide (x ∈ L) with
  | true => exact Nat.le_succ _
  | false => rw [cond_false, List.length_append]; exact Nat.le_refl _
/-! ### the set of texts in the heap -/
def keyT (e : Int × Value) : Str := strOf e.2
def Tx1 (w : World) (e : Int × Value) : Prop := ∃ k u, e = (hashStr w k, Value.str k u)
structure TxS (w : World) (h : Heap) (a : Addr) (L : List Str) : Prop where
  ex : ∃ o es ep t, h.get? a = some o ∧ o.ExactSet ∧ o.data = .set es ep t ∧ (∀ e ∈ es.toList, Tx1 w e) ∧ (es.toList.map keyT).Perm L ∧ L.Nodup ∧ es.size < scanBound ∧ t.fits es.size = true ∧ Ris t.place.toList ∧ (w.params.followText "set-order" = true ∨ t.led = true)
theorem TxS.at {w : World} {h h' : Heap} {a : Addr} {L : List Str} (R : TxS w h a L) (k : ∀ o, h.get? a = some o → h'.get? a = some o) : TxS w h' a L := by
  obtain ⟨o, es, ep, t, ho, r⟩ := R.ex
  exact ⟨⟨o, es, ep, t, k o ho, r⟩⟩
theorem TxS.new {w : World} {h : Heap} {a : Addr} (ho : h.get? a = some { cls := .type "set", dict := none, data := .set #[] 0 (.fresh 0 0 (!w.params.followText "set-order")) }) : TxS w h a [] :=
  ⟨⟨_, #[], 0, _, ho, ⟨rfl, rfl, rfl⟩, rfl, (fun e he => by simp at he), .nil, .nil, (by decide), (by rfl), List.Pairwise.nil, by
    show _ ∨ (!w.params.followText "set-order") = true
    cases w.params.followText "set-order"
    · exact .inr rfl
    · exact .inl rfl⟩⟩
section
variable {P : Program} {w : World} {A : Around} {E : Value → Shared → Prop} {s : Shared} {a : Addr} {L : List Str}
theorem tx1_key {e : Int × Value} (g : Tx1 w e) (k : Str) : (PySem.strKind P w).is k e.2 = true ↔ keyT e = k := by
  obtain ⟨k0, u, rfl⟩ := g
  show Value.isStrOf k (.str k0 u) = true ↔ k0 = k
  simp [Value.isStrOf]
theorem tx1_elems {l : List (Int × Value)} (g : ∀ e ∈ l, Tx1 w e) : ElemsOf (PySem.strKind P w) l := fun e he => by
  obtain ⟨k, u, rfl⟩ := g e he
  exact ⟨⟨k, strKind_is P w k u, rfl⟩, rfl⟩
theorem tx_tail {g : Bool → Sem Unit} (hg : ∀ (b : Bool) (s₁ : Shared) (Q' : Unit → Shared → Prop), Q' () s₁ → wpAny (model P w) A (g b) Q' E s₁)
    {o : Obj} {es : Array (Int × Value)} {ep : Nat} {t : SetTable} (ho : s.heap.get? a = some o) (hex : o.ExactSet) (hd : o.data = .set es ep t)
    {es1 : Array (Int × Value)} {t2 : SetTable} (g1 : ∀ e ∈ es1.toList, Tx1 w e) (p1 : (es1.toList.map keyT).Perm L) (nd : L.Nodup)
    (hb1 : es1.size < scanBound) (hf2 : t2.fits es1.size = true) (hr : Ris t2.place.toList) (hl : w.params.followText "set-order" = true ∨ t2.led = true) {wasDummy : Bool} {R : Option Bool → Shared → Prop}
    (hR : ∀ h', Heap.SameBut a s.heap h' → TxS w h' a L → R (some true) { s with heap := h' }) :
    wpAny (model P w) A (do
        storeSet a es1 t2
        if (!wasDummy && t2.tooFull) = true then do
            g (relayAll t2 es1 (SetTable.grown es1.size)).2.2
            storeSet a (relayAll t2 es1 (SetTable.grown es1.size)).1 (relayAll t2 es1 (SetTable.grown es1.size)).2.1
            pure (some true)
          else pure (some true)) R E s := by
  refine wpAny_bind (wpAny_storeSet_of ho hd ?_ (fits_of_scanBound hb1))
  have ho1 := store_at (es' := es1) (t' := t2) ho hd
  have sb1 := Heap.SameBut.update s.heap a (Obj.putSet es1 t2)
  split
  · obtain ⟨Z, hZ⟩ : ∃ Z, Z = relayAll t2 es1 (SetTable.grown es1.size) := ⟨_, rfl⟩
    have pm : Z.1.toList.Perm es1.toList := hZ ▸ relayAll_perm t2 es1 (SetTable.grown es1.size)
    have hf3 : Z.2.1.fits Z.1.size = true := hZ ▸ relayAll_fits t2 es1 (SetTable.grown es1.size)
    have hr3 : Ris Z.2.1.place.toList := hZ ▸ relayAll_ris t2 es1 (SetTable.grown es1.size)
    have hl3 : Z.2.1.led = t2.led := hZ ▸ relayAll_led t2 es1 (SetTable.grown es1.size)
    rw [← hZ]
    have hsz : Z.1.size = es1.size := by rw [← Array.length_toList, pm.length_eq, Array.length_toList]
    have hb2 : Z.1.size < scanBound := by rw [hsz]; exact hb1
    refine wpAny_bind (hg _ _ _ (wpAny_bind (wpAny_storeSet_of ho1 rfl ?_ (fits_of_scanBound hb2))))
    have ho2 := store_at (es' := Z.1) (t' := Z.2.1) ho1 rfl
    refine wpAny_pure (hR _ (sb1.trans (Heap.SameBut.update _ a _)) ⟨⟨_, Z.1, _, Z.2.1, ho2, hex, rfl, fun e he => g1 e (pm.mem_iff.mp he), (pm.map keyT).trans p1, nd, hb2, hf3, hr3, ?_⟩⟩)
    exact hl.imp id fun z => by rw [hl3]; exact z
  · exact wpAny_pure (hR _ sb1 ⟨⟨_, es1, _, t2, ho1, hex, rfl, g1, p1, nd, hb1, hf2, hr, hl⟩⟩)
theorem tx_add {k : Str} {u : Tok} {Q : Bool → Shared → Prop} (R : TxS w s.heap a L) (room : L.length + 1 < scanBound)
    (hQ : ∀ b h', Heap.SameBut a s.heap h' → TxS w h' a (addS L k) → Q b { s with heap := h' }) : wpAny (model P w) A (setAddHashed a (.str k u) ((PySem.strKind P w).hash k)) Q E s := by
  obtain ⟨o, es, ep, t, ho, hex, hd, g, pL, nd, hb, hf, hr, hl⟩ := R.ex
  have hkey : (PySem.strKind P w).is k (.str k u) = true := strKind_is P w k u
  have hsc : (Value.str k u).scannable = true := rfl
  have hel : ElemsOf (PySem.strKind P w) es.toList := tx1_elems g
  have hesL : es.size = L.length := by rw [← pL.length_eq, List.length_map, Array.length_toList]
  unfold setAddHashed setAddHashedIn
  refine wpAny_holding (wpAny_bind (wpAny_setState_of ho hd hf ?_))
  dsimp only
  rw [byScan_of hsc hb hel]
  simp only [↓reduceIte]
  unfold setAddByScan
  refine wpAny_bind (wpAny_bind (wpAny_rule (wpAny_bind (wpAny_setScan_of hkey ho hd hf hel ?_))))
  cases hfi : List.findIdx? (fun e => (PySem.strKind P w).is k e.2) es.toList with
  | some j =>
    dsimp only
    obtain ⟨hj, pj, _⟩ := List.findIdx?_eq_some_iff_getElem.mp hfi
    have hk : k ∈ L := pL.mem_iff.mp (List.mem_map.mpr ⟨_, List.getElem_mem hj, (tx1_key (g _ (List.getElem_mem hj)) k).mp pj⟩)
    have e : addS L k = L := by unfold addS; rw [decide_eq_true hk]; rfl
    exact wpAny_pure (wpAny_pure (hQ _ s.heap (Heap.SameBut.refl a s.heap) (by rw [e]; exact R)))
  | none =>
    dsimp only
    have hk : k ∉ L := fun z => by
      obtain ⟨e, he, q⟩ := List.mem_map.mp (pL.mem_iff.mpr z)
      have c := List.findIdx?_eq_none_iff.mp hfi e he
      rw [(tx1_key (P := P) (g e he) k).mpr q] at c
      cases c
    have eA : addS L k = L ++ [k] := by unfold addS; rw [decide_eq_false hk]; rfl
    have ndA : (L ++ [k]).Nodup := (List.perm_append_singleton k L).nodup_iff.mpr (List.nodup_cons.mpr ⟨hk, nd⟩)
    obtain ⟨Z, hZ⟩ : ∃ Z, Z = layNew t es ((PySem.strKind P w).hash k) (.str k u) := ⟨_, rfl⟩
    have pm : Z.1.toList.Perm (es.push ((PySem.strKind P w).hash k, .str k u)).toList := hZ ▸ layNew_perm t es ((PySem.strKind P w).hash k) (.str k u)
    have hf1 : Z.2.1.fits Z.1.size = true := hZ ▸ layNew_fits t es ((PySem.strKind P w).hash k) (.str k u)
    have hr1 : Ris Z.2.1.place.toList := hZ ▸ layNew_ris t es ((PySem.strKind P w).hash k) (.str k u) hr
    have hl1 : Z.2.1.led = t.led := hZ ▸ layNew_led t es ((PySem.strKind P w).hash k) (.str k u)
    rw [← hZ]
    obtain ⟨es1, t1, wasD, gave⟩ := Z
    dsimp only at pm hf1 hr1 hl1 ⊢
    rw [Array.toList_push] at pm
    have g1 : ∀ e ∈ es1.toList, Tx1 w e := fun e he => by
      rcases List.mem_append.mp (pm.mem_iff.mp he) with z | z
      · exact g e z
      · exact ⟨k, u, List.mem_singleton.mp z⟩
    have p1 : (es1.toList.map keyT).Perm (L ++ [k]) := by
      have q := pm.map keyT
      rw [List.map_append] at q
      exact q.trans (pL.append_right _)
    have hsz : es1.size = L.length + 1 := by rw [← Array.length_toList, pm.length_eq, List.length_append, Array.length_toList, hesL]; rfl
    have hb1 : es1.size < scanBound := by rw [hsz]; exact room
    have hled : w.params.followText "set-order" = true ∨ t1.led = true := hl.imp id fun z => by rw [hl1]; exact z
    have fin : ∀ h', Heap.SameBut a s.heap h' → TxS w h' a (L ++ [k]) → Q true { s with heap := h' } := fun h' sb r => hQ true h' sb (by rw [eA]; exact r)
    have hgw : ∀ (b : Bool) (s₁ : Shared) (Q' : Unit → Shared → Prop), Q' () s₁ → wpAny (model P w) A (match b with | true => rule "set.scan.the-table-gave-way" | false => pure ()) Q' E s₁ :=
      fun b s₁ Q' q => by cases b <;> first | exact wpAny_pure q | exact wpAny_rule q
    refine wpAny_bind (hgw _ _ _ ?_)
    split
    · refine wpAny_bind ?_
      rw [hashByValue_scannable 8 hsc]
      refine wpAny_pure ?_
      refine tx_tail ?_ ho hex hd g1 p1 ndA hb1 ?_ ?_ ?_ ?_
      · intro b s₁ Q' q; cases b <;> first | exact wpAny_pure q | exact wpAny_rule q
      · first | (split <;> first | exact hf1 | exact SetTable.fits_plain_off hf1) | exact hf1
      · first | (split <;> exact hr1) | exact hr1
      · first | (split <;> exact hled) | exact hled
      · intro h' sb r; dsimp only; exact wpAny_pure (fin h' sb r)
    · refine wpAny_bind (wpAny_pure ?_)
      simp only [↓reduceIte]
      refine tx_tail ?_ ho hex hd g1 p1 ndA hb1 hf1 hr1 hled ?_
      · intro b s₁ Q' q; cases b <;> first | exact wpAny_pure q | exact wpAny_rule q
      · intro h' sb r; dsimp only; exact wpAny_pure (fin h' sb r)
theorem ddS_take {xs : List Str} {i : Nat} {x : Str} (h : xs[i]? = some x) : ddS (xs.take (i + 1)) = addS (ddS (xs.take i)) x := by
  rw [List.take_add_one, h]
  exact ddS_snoc _ _
theorem ddS_len : ∀ (xs : List Str) (i : Nat), i ≤ xs.length → (ddS (xs.take i)).length ≤ i
  | xs, 0, _ => by rw [List.take_zero]; exact Nat.le_refl _
  | xs, i + 1, h => by
    rw [ddS_take (List.getElem?_eq_getElem (by omega : i < xs.length))]
    exact Nat.le_trans (addS_len _ _) (Nat.succ_le_succ (ddS_len xs i (by omega)))
/-- the adds, one by one -/
theorem tx_loop {I : Addr} {fp wr : List Addr} {G : Array GenState → Array GenState → Prop} {n : Nat} {Pv : Nat → Value → Prop} {St : Nat → Shared → Prop} {R : Result → Shared → Prop}
    (W : WalksS P w A.in1 I fp wr G n Pv St) (S : Addr) (hSf : S ∉ fp) (xs : List Str) (hn : n = xs.length) (hb : xs.length + 1 < scanBound) (hval : ∀ i v, Pv i v → ∃ k t, xs[i]? = some k ∧ v = .str k t) :
    ∀ (k i : Nat) (s : Shared), n - i = k → i ≤ n → St i s → TxS w s.heap S (ddS (xs.take i)) →
      (∀ s', Moved (S :: wr) G s s' → TxS w s'.heap S (ddS xs) → R (.ok (.ret .none)) s') →
      codeAny (model P w) A (.builtin "set.update.loop" ⟨[.ref S, .ref I], []⟩) R s := by
  have hSw : S ∉ wr := fun h => hSf (W.sub _ h)
  have hsub : ∀ b ∈ wr, b ∈ S :: wr := fun b hb => List.mem_cons_of_mem _ hb
  intro k
  induction k with
  | zero =>
    intro i s hk' hi hst hS hR
    have hin : i = n := by omega
    subst hin
    refine codeAny_builtin F.entry_set_update_loop ?_
    rw [Around.under_plainId F.plain_set_update_loop _]
    show wpAny _ A.in1 (pyNext (.ref I) >>= _) _ _ s
    refine wpAny_bind (W.done s _ _ hst fun s' hm => ?_)
    show wpAny _ A.in1 (ret Value.none) _ _ s'
    rw [List.take_of_length_le (by omega)] at hS
    exact wpAny_pure (hR s' (hm.mono hsub) (hS.at fun o e => hm.heap S o hSw e))
  | succ k ih =>
    intro i s hk' hi hst hS hR
    have hlt : i < n := by omega
    refine codeAny_builtin F.entry_set_update_loop ?_
    rw [Around.under_plainId F.plain_set_update_loop _]
    show wpAny _ A.in1 (pyNext (.ref I) >>= _) _ _ s
    refine wpAny_bind (W.item i s _ _ hlt hst fun v s' hP hst' hm => ?_)
    obtain ⟨z, t, hz, rfl⟩ := hval i v hP
    have hS' : TxS w s'.heap S (ddS (xs.take i)) := hS.at fun o e => hm.heap S o hSw e
    show wpAny _ A.in1 (holding [Value.str z t] (setAdd S (.str z t)) >>= _) _ _ s'
    refine wpAny_bind (wpAny_holding ?_)
    unfold setAdd
    refine wpAny_holding (wpAny_bind ((PySem.strKind P w).pyHash (k := z) (strKind_is _ _ _ _) ?_))
    refine tx_add (s := { s' with toks := s'.toks + 1 }) hS' (by have := ddS_len xs i (by omega); omega) fun b h' hsb hS2 => ?_
    rw [← ddS_take hz] at hS2
    refine wpAny_pure ⟨plainId_quiet F.plain_set_update_loop _, ih (i + 1) _ (by omega) hlt (W.frame _ s' _ _ hst' (Nat.le_succ _) fun b hb o e => ?_) hS2 fun s'' hm'' hS'' => ?_⟩
    · rw [hsb.2 b (fun h : b = S => hSf (by rw [← h]; exact hb))]; exact e
    · refine hR s'' (Moved.trans W.gtrans ((hm.mono hsub).then_heap (Nat.le_succ _) fun b o hb e => ?_) hm'') hS''
      rw [hsb.2 b (fun h : b = S => hb (by rw [h]; exact List.mem_cons_self))]; exact e
/-- set(xs), xs a list of texts -/
theorem tx_call {l : Addr} {its : Array Value} {xs : List Str} {Q : Value → Shared → Prop} (hh : A.handled = none) (hl : s.heap.IsList l its) (hi : StrsAre its.toList xs) (hfew : xs.length + 1 < scanBound)
    (h : ∀ (h' : Heap) (tk : Nat), TxS w h' s.heap.objs.size (ddS xs) → (∀ b o, s.heap.get? b = some o → h'.get? b = some o) → Q (.ref s.heap.objs.size) { s with heap := h', toks := tk }) :
    wpAny (model P w) A (call (.type "set") [.ref l]) Q E s := by
  obtain ⟨N0, hN0⟩ : ∃ N0 : Obj, N0 = { cls := .type "set", dict := none, data := .set #[] 0 (.fresh 0 0 (!w.params.followText "set-order")) } := ⟨_, rfl⟩
  have hisz : its.size = xs.length := by rw [← StrsAre.len_eq hi, Array.length_toList]
  obtain ⟨c, tl, hmro⟩ := F.called_set.mro
  have hmade := F.called_set.made
  have hsub := F.called_set.sub
  refine wpAny_call (codeAny_of_tree ?_)
  show wpAny _ _ (callAny (.type "set") _) _ _ _
  refine wpAny_pure ⟨Code.quiet_builtin _ (by decide +kernel), codeAny_builtin F.entry_type_call ?_⟩
  rw [Around.under_plain (weight_type_call_type "set" [.ref l] []) rfl]
  have h1 := F.called_set.notType
  have h2 := F.called_set.canCreate
  have hct := F.typeCall_set_1 (.ref l)
  repeat (any_goals (first | assumption | wp_step))
  refine codeAny_mono (code_set_led1 (.ref l) (E := E) (Q₁ := fun obj s₁ => obj = .ref s.heap.objs.size ∧ s₁ = { s with heap := s.heap.push N0 }) ⟨rfl, by rw [hN0]⟩) fun r s₁ hr => ?_
  cases r with
  | error e => exact hr
  | ok fl =>
    cases fl with
    | ret obj =>
      obtain ⟨rfl, rfl⟩ := hr
      have hS : (s.heap.push N0).get? s.heap.objs.size = some N0 := Heap.get?_push_size _ (by rw [hN0]; rfl)
      have hT : Shared.TypeIs { s with heap := s.heap.push N0 } (.ref s.heap.objs.size) "set" := ⟨_, hS, by rw [hN0]⟩
      have hli := F.called_set.init.lookup
      have hbi := F.called_set.init.bind (.ref s.heap.objs.size)
      repeat (any_goals (first | assumption | wp_step))
      refine codeAny_mono (codeAny_call_builtin (R := wants (fun r s₂ => r = .none ∧ ∃ h' tk, s₂ = { s with heap := h', toks := tk } ∧ TxS w h' s.heap.objs.size (ddS xs) ∧
          (∀ b o, s.heap.get? b = some o → h'.get? b = some o)) E) F.called_set.init.plain F.entry_set_init (check_set_init_1 hT ?_)) fun r₂ s₂ hr₂ => ?_
      · obtain ⟨ol, hol, hcl, nl, hdl⟩ := hl
        obtain ⟨ocls, odict, odata, oslots⟩ := ol
        simp only at hcl hdl
        subst hcl; subst hdl
        have hol' : (s.heap.push N0).get? l = some { cls := .type "list", dict := odict, data := .seq its nl, slots := oslots } := Heap.get?_push_of_some _ hol
        have hsls := F.sub_list_set
        have hslf := F.sub_list_frozenset
        have hne : (Value.type "list" == Value.type "dict") = false := by decide
        have hl1 : (s.heap.push N0).IsList l its := ⟨_, hol', rfl, nl, rfl⟩
        have hlS : l < s.heap.objs.size := Heap.lt_size hol
        have hh3 : A.in1.in1.in1.handled = none := by simp [hh]
        have hneI : l ≠ (s.heap.push N0).objs.size := by
          rw [Heap.size_push]; exact Nat.ne_of_lt (Nat.lt_succ_of_lt hlS)
        have hSf : s.heap.objs.size ∉ [(s.heap.push N0).objs.size, l] := by
          rw [Heap.size_push]; simp only [List.mem_cons, List.mem_singleton, List.not_mem_nil, or_false, not_or]
          exact ⟨Nat.ne_of_lt (Nat.lt_succ_self _), Nat.ne_of_gt hlS⟩
        have hval : ∀ (i : Nat) (v : Value), its[i]? = some v → ∃ k t, xs[i]? = some k ∧ v = .str k t := fun i v hv => by
          have hv' : its.toList[i]? = some v := by rw [Array.getElem?_toList]; exact hv
          have hlt : i < xs.length := by rw [← hisz, ← Array.length_toList]; exact (List.getElem?_eq_some_iff.mp hv').1
          obtain ⟨t, e⟩ := SS.strs_at hi i v hv'
          refine ⟨xs[i], t, List.getElem?_eq_getElem hlt, ?_⟩
          rw [e, List.getD_eq_getElem?_getD, List.getElem?_eq_getElem hlt]
          rfl
        have hget : ((s.heap.push N0).push { cls := .type "list_iterator", data := .fields #[.ref l, .int 0 0] }).get? s.heap.objs.size = some N0 := Heap.get?_push_of_some _ hS
        have hb2' : ∀ b, b < s.heap.objs.size → b ≠ (s.heap.push N0).objs.size := fun b hb => by
          rw [Heap.size_push]; exact Nat.ne_of_lt (Nat.lt_succ_of_lt hb)
        subst hN0
        unfold Builtin.«set.__init__» noKeywords Builtin.Frozenset.updateFrom
        generalize hPI : pyIter = PI
        wp_walk
        subst hPI
        refine wpAny_pyIter_list hl1 ?_
        refine wpAny_bind (wpAny_runValue ?_)
        refine tx_loop ((Walks.list hh3 _ l hneI its).toS) s.heap.objs.size hSf xs hisz hfew hval (its.size - 0) 0 _ (by omega) (Nat.zero_le _)
          ⟨⟨_, Heap.get?_push_size _ rfl, rfl, rfl⟩, (hl1.push _)⟩ (TxS.new hget) ?_
        intro s' hm hS'
        obtain ⟨h', g2, d', tk', os'⟩ := s'
        have eg : g2 = s.gens := hm.gens
        have ed : d' = s.drawn := hm.drawn
        have eo : os' = s.os := hm.os
        subst eg; subst ed; subst eo
        show wpAny _ _ _ _ _ _
        refine wpAny_pure ?_
        show wpAny _ _ (ret Value.none) _ _ _
        refine wpAny_pure ⟨rfl, h', tk', rfl, hS', fun b o e => ?_⟩
        have hb := Heap.lt_size e
        have hb1 : b ≠ s.heap.objs.size := Nat.ne_of_lt hb
        have hb2 := hb2' b hb
        exact hm.heap b o (by simp only [List.mem_cons, List.mem_singleton, List.not_mem_nil, or_false, not_or]; exact ⟨hb1, hb2⟩) (Heap.get?_push_of_some _ (Heap.get?_push_of_some _ e))
      · cases r₂ with
        | error e => exact hr₂
        | ok fl₂ =>
          cases fl₂ with
          | ret r =>
            obtain ⟨rfl, h', tk, rfl, hS', hk'⟩ := hr₂
            repeat (any_goals (first | assumption | wp_step))
            exact h _ _ hS' hk'
          | _ => exact hr₂.elim
    | _ => exact hr.elim
/-- sorted(found) -/
theorem tx_sorted {Q : Value → Shared → Prop} (R : TxS w s.heap a L) (hh : A.handled = none)
    (hQ : ∀ s' p (out : Array Value) (c : Nat), (∀ b o, s.heap.get? b = some o → s'.heap.get? b = some o) → s'.gens = s.gens → s'.os = s.os → s.heap.objs.size ≤ p →
      s'.heap.get? p = some (seqObj "list" out c) → StrsAre out.toList (srtS L) → Q (.ref p) s') :
    wpAny (model P w) A (call (.builtin "sorted") [.ref a]) Q E s := by
  obtain ⟨o, es, ep, t, ho, hex, hd, g, pL, nd, hb, hf, hr, hl⟩ := R.ex
  refine Calls.call_function_entry kind_sorted plain_sorted entry_sorted (args_sorted1 _) ?_
  unfold Builtin.«sorted»
  refine wpAny_bind (m := checkCount "sorted" 1 1 _) (wpAny_pure ?_)
  refine wpAny_bind (collect_set (A := A.in1) hh ⟨o, ho, hex.1, hd⟩ hf hb hr hl fun s1 vs k1 hz g1 o1 pm => ?_)
  have hS : StrsAre vs (vs.map strOf) := strsAre_map vs fun v hv => by
    obtain ⟨e, he, q⟩ := List.mem_map.mp (pm.mem_iff.mp hv)
    obtain ⟨k, u, rfl⟩ := g e he
    exact ⟨k, u, q.symm⟩
  have pk : (vs.map strOf).Perm L := by
    have q := pm.map strOf
    rw [List.map_map] at q
    exact q.trans pL
  have hvl : vs.length ≤ sizeLine := by
    rw [pm.length_eq, List.length_map, Array.length_toList]
    exact fits_of_scanBound hb
  refine wpAny_bind (wpAny_newList ?_ hvl)
  have hoL : (s1.heap.push (seqObj "list" vs.toArray 0)).get? s1.heap.objs.size = some (seqObj "list" vs.toArray 0) := Heap.get?_push_size _ rfl
  refine wpAny_bind (wpAny_holding (wpAny_call_entry slot_list_sort ⟨_, hoL, rfl⟩ entry_list_sort (list_sort_treeKAny strKind_oneLt hoL hS.keysOf (fun v₁ v₂ rest e => keyKind_strs (by rw [← e]; exact hS)) hvl fun st' hp hs => ⟨_, rfl, ?_⟩) (args_list_sort _)))
  obtain ⟨ys, q1, q2, q3⟩ := sorted_out_str hS hp hs
  obtain ⟨c, hc⟩ := sortedHeap_at (vs := vs) (out := (arrOf st').map (·.2)) hoL
  rw [srtS_one (q2.trans pk) q3] at q1
  refine wpAny_pure ⟨_, rfl, hQ _ s1.heap.objs.size _ c (fun b u e => ?_) g1 o1 hz hc q1⟩
  have q := k1 b u e
  have hlt := Heap.lt_size q
  show (sortedHeap (s1.heap.push (seqObj "list" vs.toArray 0)) s1.heap.objs.size vs _).get? b = some u
  rw [sortedHeap_old (Nat.ne_of_lt hlt) (by rw [size_push']; exact Nat.lt_succ_of_lt hlt)]
  exact Heap.get?_push_of_some _ q
end
end Td

set_option Elab.async false
set_option linter.all false
set_option maxRecDepth 100000
set_option maxHeartbeats 4000000
namespace Td
open PySem L2 PySem.Spec PyProof.Rows
/-! ### t[::-1] -/
section
variable {prog : Program} {w : World} {A : Around} {E : Value → Shared → Prop} {s : Shared}
theorem rev_adjust (n : Nat) : Builtin.Slice.sliceAdjust none none (-1) (n : Int) = ((n : Int) - 1, -1) := by
  unfold Builtin.Slice.sliceAdjust
  simp
theorem rev_places (n : Nat) : Builtin.Slice.slicePlaces ((n : Int) - 1) (-1) (-1) = n := by
  unfold Builtin.Slice.slicePlaces
  simp
  omega
theorem rev_pick (xs : Array Value) : ((List.range xs.size).filterMap fun (k : Nat) => xs[((xs.size : Int) - 1 + (k : Int) * -1).toNat]?).toArray = xs.toList.reverse.toArray := by
  have e : (List.range xs.size).filterMap (fun (k : Nat) => xs[((xs.size : Int) - 1 + (k : Int) * -1).toNat]?) = ((List.range xs.size).map fun k => xs.size - 1 - k).filterMap (fun k => xs[k]?) := by
    rw [List.filterMap_map]
    have f : (fun (k : Nat) => xs[((xs.size : Int) - 1 + (k : Int) * -1).toNat]?) = (fun k => xs[k]?) ∘ fun k => xs.size - 1 - k := by
      funext k
      show xs[((xs.size : Int) - 1 + (k : Int) * -1).toNat]? = xs[xs.size - 1 - k]?
      have : ((xs.size : Int) - 1 + (k : Int) * -1).toNat = xs.size - 1 - k := by omega
      rw [this]
    rw [f]
  rw [e, PySem.W.krv_range, List.filterMap_reverse, PySem.W.krv_all]
theorem sliceApplied_rev {sl : Addr} {t : Tok} {n : Nat} {Q : Int × Int × Nat → Shared → Prop} (hs : s.heap.IsSliceOf sl .none .none (.int (-1) t)) (h : Q ((n : Int) - 1, -1, n) s) :
    wpAny (model prog w) A (Builtin.Slice.sliceApplied (.ref sl) (pure (n : Int))) Q E s := by
  obtain ⟨os, hos, hcs, hds⟩ := id hs
  unfold Builtin.Slice.sliceApplied Builtin.Slice.sliceFields
  refine wpAny_bind (wpAny_bind (wpAny_field hos hds (x := .none) rfl ?_))
  refine wpAny_bind (wpAny_field hos hds (x := .none) rfl ?_)
  refine wpAny_bind (wpAny_field hos hds (x := .int (-1) t) rfl (wpAny_pure ?_))
  refine wpAny_bind (HT.slicePart_ (.int (-1) t) ?_)
  show wpAny _ _ (if ((-1 : Int) == 0) = true then _ else _) _ _ s
  rw [if_neg (by decide)]
  refine wpAny_bind (HT.slicePart_ .none (wpAny_bind (HT.slicePart_ .none ?_)))
  refine wpAny_bind (wpAny_pure ?_)
  show wpAny _ _ (match Builtin.Slice.sliceAdjust none none (-1) (n : Int) with | (lo, hi) => pure (lo, (-1 : Int), Builtin.Slice.slicePlaces lo hi (-1))) _ _ s
  rw [rev_adjust]
  show wpAny _ _ (pure ((n : Int) - 1, (-1 : Int), Builtin.Slice.slicePlaces ((n : Int) - 1) (-1) (-1))) _ _ s
  rw [rev_places]
  exact wpAny_pure h
theorem getItem_tuple_rev {t sl : Addr} {items : Array Value} {tk : Tok} {Q : Value → Shared → Prop} (ht : IsTup s.heap t items) (hs : s.heap.IsSliceOf sl .none .none (.int (-1) tk))
    (h : Q (.ref s.heap.objs.size) { s with heap := s.heap.push { cls := .type "tuple", data := .seq items.toList.reverse.toArray } }) (hsz : items.size ≤ sizeLine) : wpAny (model prog w) A (getItem (.ref t) (.ref sl)) Q E s := by
  obtain ⟨os, hos, hcs, hds⟩ := id hs
  have hTs : s.TypeIs (.ref sl) "slice" := ⟨os, hos, hcs⟩
  have fits : sizeOk (.seq items.toList.reverse.toArray) := by
    show items.toList.reverse.toArray.size ≤ sizeLine
    rw [List.size_toArray, List.length_reverse, Array.length_toList]
    exact hsz
  unfold getItem
  try with_reducible refine wpAny_holding ?_
  first | refine wpAny_bind (wpAny_pure ?_) | skip
  refine wpAny_bind (wpAny_sequenceKey ht.typeIs (by decide) ?_)
  refine wpAny_bind (wpAny_callSpecial?_slot (name := Str.ofString "__getitem__") ht.typeIs PyProof.Rows.slot_tuple_getitem (wpAny_call_entry PyProof.Rows.slot_tuple_getitem ht.typeIs PyProof.Rows.entry_tuple_getitem ?_ (PyProof.Rows.args_tuple_getitem _ _)))
  show wpAny _ _ (Builtin.Tuple.tupleItemsOf (.ref t) >>= _) _ _ s
  refine wpAny_bind (tupleItemsOf_ ht ?_)
  refine wpAny_bind (wpAny_typeOf hTs ?_)
  rw [if_pos (by decide)]
  refine wpAny_bind (sliceApplied_rev hs ?_)
  have hno : ¬ (((((items.size : Nat) : Int) - 1) == 0 && (-1 : Int) == 1 && items.size == items.size) = true) := by simp
  show wpAny _ _ (if ((((items.size : Nat) : Int) - 1) == 0 && (-1 : Int) == 1 && items.size == items.size) = true then _ else _) _ _ s
  rw [if_neg hno, rev_pick]
  first
    | exact wpAny_bind (m := Builtin.Tuple.tupleExact _) (wpAny_newObj_type (wpAny_pure ⟨_, rfl, wpAny_pure h⟩) fits)
    | exact wpAny_bind (m := Builtin.Tuple.tupleExact _) (wpAny_newObj_type (wpAny_bind (wpAny_pure (wpAny_pure ⟨_, rfl, wpAny_pure h⟩))) fits)
    | exact wpAny_bind (wpAny_bind (m := Builtin.Tuple.tupleExact _) (wpAny_newObj_type (wpAny_pure (wpAny_pure ⟨_, rfl, wpAny_pure h⟩)) fits))
    | exact wpAny_bind (wpAny_bind (m := Builtin.Tuple.tupleExact _) (wpAny_newObj_type (wpAny_pure ⟨_, rfl, wpAny_pure h⟩) fits))
end
section
variable {X : Cx} {W : WX}
def revD (_ : Ws) : PyData → Option PyData
  | .tuple a => some (.tuple a.reverse)
  | _ => none
theorem pf_rev {o : Expr} {fo : FE} {k : Nat} {p2 p3 p4 pos : Pos} (ho : PF X W o fo) : PF X W (.Subscript o (.Slice none none (some (.UnaryOp .USub (.Constant (.int 1) k p3) p4)) p2) pos) (eU revD fo) := by
  refine ⟨fun pins s σ H Q I h => ?_⟩
  obtain ⟨g, ρ, w, hK, r, e, q⟩ := h
  have want : lE X.K W fo σ H fun x H1 => ∃ a xs, x = .ref a ∧ SqT X.K H1 a xs ∧ ∀ p, H1 p = none → Q (.ref p) (upd H1 p (.tup xs.reverse)) := by
    refine lX_bind hK r e q fun v H1 g1 d w1 x r1 e1 dv z => ?_
    cases dv with
    | tup sq da => exact ⟨_, _, rfl, (x.k.trans hK) ▸ r1.sqT sq, fun p hp => z _ _ _ (Xt.put (r1.fnone hp)) (r1.put hp) (newT r1 hp da.reverse)⟩
    | _ => exact z.elim
  refine Subscript_ (thn (ho.run pins s σ H _ I want) fun v s1 ⟨x, H1, I1, r1, a, xs, ex, hx, qq⟩ => ?_)
  subst ex
  cases r1
  have step : PO X (some (.UnaryOp .USub (.Constant (.int 1) k p3) p4)) (tPart (tUn (rU fun i => .int (-i)) (tC (.int 1)))) := po_some (pe_un un_neg pe_int)
  refine wpAny_Slice (thn (po_none.run pins s1 σ H1 (fun o H2 => o = none ∧ H2 = H1) I1 ⟨rfl, rfl⟩) fun vl s2 ⟨l, H2, I2, pl, el, e2⟩ => ?_)
  subst el e2
  refine thn (po_none.run pins s2 σ H2 (fun o H3 => o = none ∧ H3 = H2) I2 ⟨rfl, rfl⟩) fun vu s3 ⟨u, H3, I3, pu, eu, e3⟩ => ?_
  subst eu e3
  refine thn (step.run pins s3 σ H3 (fun o H4 => o = some (-1) ∧ H4 = H3) I3 ⟨1, rfl, -1, rfl, rfl, rfl⟩) fun vs s4 ⟨o, H4, I4, ps, eo, e4⟩ => ?_
  subst eo e4
  cases pl
  cases pu
  cases ps with
  | int i t =>
    obtain ⟨h5, hh5⟩ : ∃ h5 : Heap, h5 = s4.heap.push { cls := .type "slice", data := .fields #[.none, .none, .int (-1) t] } := ⟨_, rfl⟩
    have I5 : Inv X pins σ H4 { s4 with heap := s4.heap.push { cls := .type "slice", data := .fields #[.none, .none, .int (-1) t] } } := I4.kept (t' := s4.toks) fun b ob z => Heap.get?_push_of_some _ z
    obtain ⟨its, rv, ht, hz⟩ := I5.tuple hx
    have hlen := rv.length
    show wpAny (model X.prog X.w) X.A (subscriptTail o (.Slice none none (some (.UnaryOp .USub (.Constant (.int 1) k p3) p4)) p2) (.ref a) (.ref s4.heap.objs.size)) (EP X pins σ Q) X.xe { s4 with heap := s4.heap.push { cls := .type "slice", data := .fields #[.none, .none, .int (-1) t] } }
    refine tail_any (ops := [.ref a, .ref s4.heap.objs.size]) ht.typeIs PyProof.Rows.slot_tuple_getitem.lookup ?_ (by with_unfolding_all rfl)
    refine getItem_tuple_rev ht (Heap.IsSliceOf.new _ .none .none (.int (-1) t)) ?_ (by rw [List.size_toArray]; omega)
    refine ⟨.ref _, _, I5.laid (t' := s4.toks) (o := .tup xs.reverse) (fun b ob z => Heap.get?_push_of_some _ z) (Nat.le_refl _) ?_, rfl, qq _ (I5.hok.fresh (Nat.le_refl _))⟩
    exact ⟨by rw [List.length_reverse]; exact hz, _, rv.reverse, IsTup.new _ _⟩
def strsD : List PyData → Option (List Str)
  | [] => some []
  | .str x :: r => (strsD r).map (x :: ·)
  | _ => none
def sosD (w : Ws) : List PyData → Option PyData
  | [d] => match lstOf w d with
    | some ds => match strsD ds with
      | some xs => if decide (xs.length + 1 < scanBound) then some (.list ((srtS (ddS xs)).map .str)) else none
      | none => none
    | none => none
  | _ => none
theorem strsD_ok {g : Gd} : ∀ {vs : List V} {ds : List PyData} {xs : List Str}, DqA g vs ds → strsD ds = some xs → vs = xs.map V.str
  | _, _, _, .nil, h => by cases h; rfl
  | _, _, _, .cons d0 dr, h => by
    cases d0 with
    | str x =>
      simp only [strsD] at h
      cases e : strsD _ with
      | none => rw [e] at h; cases h
      | some ys =>
        rw [e] at h
        cases h
        rw [strsD_ok dr e]
        rfl
    | _ => simp [strsD] at h
theorem dqA_strs {g : Gd} : ∀ xs : List Str, DqA g (xs.map V.str) (xs.map PyData.str)
  | [] => .nil
  | x :: xs => .cons (.str x) (dqA_strs xs)
theorem inv_strs {pins : List (Addr × Obj)} {s2 s' : Shared} {σ : L2.St} {H1 : Hp} {p : Addr} {out : Array Value} {c : Nat} {ys : List Str} (I2 : Inv X pins σ H1 s2) (k : ∀ b o, s2.heap.get? b = some o → s'.heap.get? b = some o) (gg : s'.gens = s2.gens) (oo : s'.os = s2.os) (hp : s2.heap.objs.size ≤ p)
    (hg' : s'.heap.get? p = some (PyProof.Rows.seqObj "list" out c)) (hlen : (ys.map V.str).length ≤ sizeLine) (hi : PyProof.Rows.StrsAre out.toList ys) : Inv X pins σ (upd H1 p (.lst (ys.map V.str))) s' := by
  have J : Inv X pins σ (upd H1 p (.lst (ys.map V.str))) { s2 with heap := s'.heap, gens := s'.gens, drawn := s'.drawn, toks := s'.toks } :=
    I2.call (ch := []) (Un.laid k hp (I2.hok.fresh hp)) (I2.hok.laid k hp ⟨hlen, out.toList, c, vals_of_strs hi, hg'⟩) (by rw [gg]; exact I2.bare) (fun _ z => nomatch z)
  have e : s' = { s2 with heap := s'.heap, gens := s'.gens, drawn := s'.drawn, toks := s'.toks } := by
    cases s'
    cases s2
    cases oo
    rfl
  rw [e]
  exact J
theorem pf_sortset {e : Expr} {fa : FA} {p1 p2 pos pos2 : Pos} (hc : X.calm = true) (hg : Gl X "sorted") (hm : X.mg "sorted" = none) (hg2 : Gl X "set") (hm2 : X.mg "set" = none) (ha : PAf X W [e] fa)
    (na : starEach [e] X.env = (false, eval e X.env) :: starEach [] X.env := by rfl) : PF X W (.Call (.Name "sorted" p1) [.Call (.Name "set" p2) [e] [] pos2] [] pos) (eCb sosD fa) := by
  refine ⟨fun pins s σ H Q I h => ?_⟩
  obtain ⟨g, ρ, w, hK, r, e0, q⟩ := h
  have want : lA X.K W fa σ H fun vs H1 => ∃ a xs, vs = [.ref a] ∧ SqL X.K H1 a (xs.map V.str) ∧ xs.length + 1 < scanBound ∧ ∀ p, H1 p = none → Q (.ref p) (upd H1 p (.lst ((srtS (ddS xs)).map V.str))) := by
    refine lX_bind hK r e0 q fun v H1 g1 d w1 x r1 e1 dv z => ?_
    cases hz : sosD w1 d with
    | none => rw [hz] at z; exact z.elim
    | some y =>
      rw [hz] at z
      unfold sosD at hz
      split at hz
      · split at hz
        · rename_i ds hds
          split at hz
          · rename_i xs hxs
            split at hz
            · rename_i hs
              cases hz
              cases dv with
              | cons d0 dn =>
                cases dn
                obtain ⟨a, vs, rfl, sq, da⟩ := lstOf_ok r1 d0 hds
                have ev := strsD_ok da hxs
                subst ev
                exact ⟨a, xs, rfl, (x.k.trans hK) ▸ sq, of_decide_eq_true hs, fun p hp => z _ _ _ (Xt.put (r1.fnone hp)) (r1.put hp) (newL r1 hp (dqA_strs _))⟩
            · cases hz
          · cases hz
        · cases hz
      · cases hz
  refine Call_ (ld_blt I hg hm boot_sorted ?_)
  refine PyProof.Rows.callWith_builtin1 (PyProof.Rows.args_cons ?_ rfl) rfl rfl
  refine Call_ (ld_blt I hg2 hm2 boot_set ?_)
  refine PyProof.Rows.callWith_type1 (thn (ha.run pos2 pins s σ H _ I want) fun us s1 ⟨vs, H1, I1, r1, a, xs, ev, sq, hfew, qq⟩ => ?_) na rfl
  subst ev
  rw [Vals.ref1 r1]
  obtain ⟨its, rv, pl, hz⟩ := I1.list sq
  refine tx_call (I1.ok.hd hc) pl.isList (by simpa using strsAre_of rv) hfew fun h' tk hS hk => ?_
  have I2 : Inv X pins σ H1 { s1 with heap := h', toks := tk } := I1.kept hk
  refine PyProof.Rows.args_nil ?_
  refine tx_sorted (s := { s1 with heap := h', toks := tk }) hS (I2.ok.hd hc) fun s' p out c k gg oo hp hg' hi => ?_
  have hn : H1 p = none := I2.hok.fresh hp
  have hlen : ((srtS (ddS xs)).map V.str).length ≤ sizeLine := by
    have h1 := (srtS_perm (ddS xs)).length_eq
    have h2 := ddS_len xs xs.length (Nat.le_refl _)
    rw [List.take_length] at h2
    rw [List.length_map, h1]
    exact Nat.le_trans h2 (fits_of_scanBound (Nat.lt_of_succ_lt hfew))
  exact ⟨.ref p, _, inv_strs I2 k gg oo hp hg' hlen hi, rfl, qq p hn⟩
end
end Td

set_option Elab.async false
set_option linter.all false
set_option maxRecDepth 100000
set_option maxHeartbeats 4000000
namespace Td
open PySem L2
/-! ### what a reading comes to: a small logic -/
inductive wO {α : Type} (Q : α → Ws → Prop) : Oc α → Prop
  | mk {a : α} {w : Ws} (h : Q a w) : wO Q (.ok a w)
/-- N: goes on, R: returns -/
inductive wS (N : Ev → Ws → Prop) (R : PyData → Ws → Prop) : Os → Prop
  | nx {ρ : Ev} {w : Ws} (h : N ρ w) : wS N R (.nx ρ w)
  | rt {d : PyData} {w : Ws} (h : R d w) : wS N R (.rt d w)
theorem wO_ok {α : Type} {Q : α → Ws → Prop} {a : α} {w : Ws} : wO Q (.ok a w) = Q a w := propext ⟨fun h => by cases h; assumption, .mk⟩
theorem wO_xc {α : Type} {Q : α → Ws → Prop} {c : Value} {fs : List (Str × PyData)} {w : Ws} : wO Q (.ex c fs w) = False := propext ⟨fun h => (by cases h), False.elim⟩
theorem wO_no {α : Type} {Q : α → Ws → Prop} : wO Q .no = False := propext ⟨fun h => (by cases h), False.elim⟩
theorem wS_nx {N : Ev → Ws → Prop} {R : PyData → Ws → Prop} {ρ : Ev} {w : Ws} : wS N R (.nx ρ w) = N ρ w := propext ⟨fun h => by cases h; assumption, .nx⟩
theorem wS_rt {N : Ev → Ws → Prop} {R : PyData → Ws → Prop} {d : PyData} {w : Ws} : wS N R (.rt d w) = R d w := propext ⟨fun h => by cases h; assumption, .rt⟩
theorem wS_xc {N : Ev → Ws → Prop} {R : PyData → Ws → Prop} {ρ : Ev} {c : Value} {fs : List (Str × PyData)} {w : Ws} : wS N R (.ex ρ c fs w) = False := propext ⟨fun h => (by cases h), False.elim⟩
theorem wS_no {N : Ev → Ws → Prop} {R : PyData → Ws → Prop} : wS N R .no = False := propext ⟨fun h => (by cases h), False.elim⟩
theorem wO_bind {α β : Type} {Q : β → Ws → Prop} {x : Oc α} {f : α → Ws → Oc β} : wO Q (x.bind f) = wO (fun a w => wO Q (f a w)) x := by cases x <;> simp only [Oc.bind, wO_ok, wO_xc, wO_no]
theorem wO_mono {α : Type} {Q Q' : α → Ws → Prop} {x : Oc α} (h : wO Q x) (i : ∀ a w, Q a w → Q' a w) : wO Q' x := by
  cases h with
  | mk h => exact .mk (i _ _ h)
theorem wO_some {α : Type} {Q : α → Ws → Prop} {a : α} {w : Ws} : wO Q (Oc.of (some a) w) = Q a w := wO_ok
theorem wO_on {α : Type} {Q : α → Ws → Prop} {b : Bool} {x : Oc α} (hb : b = true) (h : wO Q x) : wO Q (Oc.on b x) := by subst hb; exact h
theorem wO_ex {α : Type} {Q : α → Ws → Prop} {x : Oc α} : wO Q x ↔ ∃ a w, x = .ok a w ∧ Q a w := by
  exact ⟨fun h => by cases h with | mk h => exact ⟨_, _, rfl, h⟩, fun ⟨_, _, e, q⟩ => by subst e; exact .mk q⟩
variable {Q : PyData → Ws → Prop} {QA : List PyData → Ws → Prop} {QT : Bool → Ws → Prop} {N : Ev → Ws → Prop} {R : PyData → Ws → Prop} {ρ : Ev} {w : Ws}
theorem wE_C {d : PyData} : wO Q (eC d ρ w) = Q d w := wO_ok
theorem wE_V {i : Nat} {d : PyData} (h : ρ[i]? = some (some d)) : wO Q (eV i ρ w) = Q d w := by unfold eV; rw [h]; exact wO_ok
theorem wE_B {f : Ws → PyData → PyData → Option PyData} {a b : FE} : wO Q (eB f a b ρ w) = wO (fun d w1 => wO (fun e w2 => wO Q (Oc.of (f w2 d e) w2)) (b ρ w1)) (a ρ w) := by simp only [eB, wO_bind]
theorem wE_U {f : Ws → PyData → Option PyData} {a : FE} : wO Q (eU f a ρ w) = wO (fun d w1 => wO Q (Oc.of (f w1 d) w1)) (a ρ w) := by simp only [eU, wO_bind]
theorem wE_Cb {f : Ws → List PyData → Option PyData} {a : FA} : wO Q (eCb f a ρ w) = wO (fun d w1 => wO Q (Oc.of (f w1 d) w1)) (a ρ w) := by simp only [eCb, wO_bind]
theorem wE_Call {f : FF} {ds : List PyData} {a : FA} : wO Q (eCall f ds a ρ w) = wO (fun as w1 => wO Q (f (as ++ ds) w1)) (a ρ w) := by simp only [eCall, wO_bind]
theorem wA_N : wO QA (aN ρ w) = QA [] w := wO_ok
theorem wA_C {f : FE} {k : FA} : wO QA (aC f k ρ w) = wO (fun d w1 => wO (fun ds w2 => QA (d :: ds) w2) (k ρ w1)) (f ρ w) := by simp only [aC, wO_bind, wO_ok]
theorem wE_Tup {a : FA} : wO Q (eTup a ρ w) = wO (fun ds w1 => wO Q (Oc.on (szOk ds.length) (.ok (.tuple ds) w1))) (a ρ w) := by simp only [eTup, wO_bind]
theorem wE_Lst {a : FA} : wO Q (eLst a ρ w) = wO (fun ds w1 => wO Q (Oc.on (szOk ds.length) (.ok (.list ds) w1))) (a ρ w) := by simp only [eLst, wO_bind]
theorem wE_Sl {f : FE} {l h : FO} : wO Q (eSl f l h ρ w) = wO (fun d w1 => wO (fun l w2 => wO (fun h w3 => wO Q (Oc.of (cutD w3 d l h) w3)) (h ρ w2)) (l ρ w1)) (f ρ w) := by simp only [eSl, wO_bind]
theorem wO_N {QO : Option Int → Ws → Prop} : wO QO (oN ρ w) = QO none w := wO_ok
theorem wO_S {QO : Option Int → Ws → Prop} {f : FE} : wO QO (oS f ρ w) = wO (fun d w1 => match d with | .int i => QO (some i) w1 | _ => False) (f ρ w) := by
  simp only [oS, wO_bind]
  congr 1
  funext d w1
  cases d <;> first | exact wO_ok | exact wO_no
theorem wT_B {f : FE} : wO QT (tB' f ρ w) = wO (fun d w1 => match d with | .bool b => QT b w1 | _ => False) (f ρ w) := by
  simp only [tB', wO_bind]
  congr 1
  funext d w1
  cases d <;> first | exact wO_ok | exact wO_no
theorem wT_An {t u : FT} : wO QT (tAn t u ρ w) = wO (fun b w1 => cond b (wO QT (u ρ w1)) (QT false w1)) (t ρ w) := by
  simp only [tAn, wO_bind]
  congr 1
  funext b w1
  cases b <;> first | exact wO_ok | rfl
theorem wT_Or {t u : FT} : wO QT (tOr' t u ρ w) = wO (fun b w1 => cond b (QT true w1) (wO QT (u ρ w1))) (t ρ w) := by
  simp only [tOr', wO_bind]
  congr 1
  funext b w1
  cases b <;> first | exact wO_ok | rfl
theorem wT_No {t : FT} : wO QT (tNo t ρ w) = wO (fun b w1 => QT (!b) w1) (t ρ w) := by simp only [tNo, wO_bind, wO_ok]
theorem wT_Tr {f : FE} : wO QT (tTr f ρ w) = wO (fun d w1 => wO QT (Oc.of (truD d w1) w1)) (f ρ w) := by simp only [tTr, wO_bind]
theorem wS_then {α : Type} {x : Oc α} {k : α → Ws → Os} : wS N R (x.thenS ρ k) = wO (fun a w1 => wS N R (k a w1)) x := by cases x <;> simp only [Oc.thenS, wO_ok, wO_xc, wO_no, wS_xc, wS_no]
theorem wS_Seq {f k : FS} (h : wS (fun ρ1 w1 => wS N R (k ρ1 w1)) R (f ρ w)) : wS N R (sSeq f k ρ w) := by
  unfold sSeq
  cases e : f ρ w with
  | nx ρ1 w1 => rw [e, wS_nx] at h; exact h
  | rt d w1 => rw [e, wS_rt] at h; exact .rt h
  | _ => rw [e] at h; cases h
theorem wS_Nil : wS N R (sNil ρ w) = N ρ w := wS_nx
theorem wS_Ret {f : FE} : wS N R (sRet f ρ w) = wO R (f ρ w) := by simp only [sRet, wS_then, wS_rt]
theorem wS_If {t : FT} {f k : FS} : wS N R (sIf t f k ρ w) = wO (fun b w1 => cond b (wS N R (f ρ w1)) (wS N R (k ρ w1))) (t ρ w) := by
  simp only [sIf, wS_then]
  congr 1
  funext b w1
  cases b <;> rfl
theorem wS_Asg {f : FE} {i : Nat} : wS N R (sAsg f (gN i) ρ w) = wO (fun d w1 => N (ρ.set i (some d)) w1) (f ρ w) := by simp only [sAsg, wS_then, gN, wS_nx]
theorem wS_mono {N' : Ev → Ws → Prop} {R' : PyData → Ws → Prop} {o : Os} (h : wS N R o) (i : ∀ ρ w, N ρ w → N' ρ w) (j : ∀ d w, R d w → R' d w) : wS N' R' o := by
  cases h with
  | nx h => exact .nx (i _ _ h)
  | rt h => exact .rt (j _ _ h)
theorem leave_ret {w' : Ws} {n : Nat} {d : PyData} (h : w'.length = n) : leave n (.rt d w') = .ok d w' := by
  subst h
  simp only [leave]
  split
  · rw [List.take_length]
  · rfl
theorem leave_end {w' : Ws} {n : Nat} {ρ : Ev} (h : w'.length = n) : leave n (.nx ρ w') = .ok .none w' := by
  subst h
  simp only [leave]
  split
  · rw [List.take_length]
  · rfl
theorem wF {m n : Nat} {b : FS} {ds : List PyData} (hn : ds.length = n) (h : wS (fun _ w1 => w1.length = w.length ∧ Q .none w1) (fun d w1 => w1.length = w.length ∧ Q d w1) (b (startE m ds) w)) : wO Q (defF m n b ds w) := by
  unfold defF
  rw [if_pos hn]
  cases e : b (startE m ds) w with
  | nx ρ1 w1 => rw [e, wS_nx] at h; rw [leave_end h.1]; exact .mk h.2
  | rt d w1 => rw [e, wS_rt] at h; rw [leave_ret h.1]; exact .mk h.2
  | _ => rw [e] at h; cases h
/-- a for loop, by what holds before each round -/
theorem wS_forL {gt : FG} {body : FS} (J : Nat → Ev → Ws → Prop) : ∀ (ds : List PyData) (i : Nat) (ρ : Ev) (w : Ws), J i ρ w →
    (∀ j d ρ w, ds[j]? = some d → J (i + j) ρ w → wO (fun ρ1 w1 => wS (J (i + j + 1)) R (body ρ1 w1)) (gt d ρ w)) →
    (∀ ρ w, J (i + ds.length) ρ w → N ρ w) → wS N R (forL gt body ds ρ w)
  | [], i, ρ, w, hJ, _, hN => by unfold forL; exact .nx (hN ρ w hJ)
  | d :: ds, i, ρ, w, hJ, hs, hN => by
    have h0 := hs 0 d ρ w rfl hJ
    unfold forL
    cases e : gt d ρ w with
    | ok ρ1 w1 =>
      rw [e, wO_ok] at h0
      have h0 : wS (J (i + 0 + 1)) R (body ρ1 w1) := h0
      have ih : ∀ ρ2 w2, J (i + 1) ρ2 w2 → wS N R (forL gt body ds ρ2 w2) := fun ρ2 w2 hj => wS_forL J ds (i + 1) ρ2 w2 hj
        (fun j d' ρ' w' hd hj' => by
          have := hs (j + 1) d' ρ' w' hd (by rw [show i + (j + 1) = i + 1 + j by omega]; exact hj')
          rw [show i + (j + 1) + 1 = i + 1 + j + 1 by omega] at this
          exact this)
        (fun ρ' w' hj' => hN ρ' w' (by rw [List.length_cons, show i + (ds.length + 1) = i + 1 + ds.length by omega]; exact hj'))
      cases e2 : body ρ1 w1 with
      | nx ρ2 w2 => rw [e2, wS_nx] at h0; simp only [e2]; exact ih ρ2 w2 h0
      | rt d w2 => rw [e2, wS_rt] at h0; simp only [e2]; exact .rt h0
      | _ => rw [e2] at h0; cases h0
    | _ => rw [e] at h0; cases h0
theorem wS_For {fi : FA} {gt : FG} {body : FS} : wS N R (sFor fi gt body ρ w) = wO (fun ds w1 => wS N R (forL gt body ds ρ w1)) (fi ρ w) := by simp only [sFor, wS_then]
theorem wA_E {f : FE} : wO QA (iE f ρ w) = wO (fun d w1 => wO QA (Oc.of (itD d) w1)) (f ρ w) := by simp only [iE, wO_bind]
theorem wE_Lc {fi : FA} {gt : FG} {tt : FT} {fe : FE} {vs : List Nat} : wO Q (eLc fi gt tt fe vs ρ w) = wO (fun ds w1 => wO (fun acc w2 => Q (.list acc) w2) (lcL gt tt fe (wipeE ρ vs) ds w1 [])) (fi ρ w) := by simp only [eLc, wO_bind, wO_ok]
/-- a comprehension, by what holds of what is gathered -/
theorem wA_lcL {gt : FG} {tt : FT} {fe : FE} (J : Nat → List PyData → Ws → Prop) : ∀ (ds : List PyData) (i : Nat) (w : Ws) (acc : List PyData), acc.length + ds.length ≤ sizeLine → J i acc w →
    (∀ j d acc w, ds[j]? = some d → J (i + j) acc w → wO (fun ρ1 w1 => wO (fun b w2 => cond b (wO (fun y w3 => J (i + j + 1) (acc ++ [y]) w3) (fe ρ1 w2)) (J (i + j + 1) acc w2)) (tt ρ1 w1)) (gt d ρ w)) →
    (∀ acc w, J (i + ds.length) acc w → QA acc w) → wO QA (lcL gt tt fe ρ ds w acc)
  | [], i, w, acc, _, hJ, _, hN => .mk (hN acc w hJ)
  | d :: ds, i, w, acc, hz, hJ, hs, hN => by
    have h0 := hs 0 d acc w rfl hJ
    have hz' : acc.length + (ds.length + 1) ≤ sizeLine := hz
    have ih : ∀ acc2 w2, acc2.length ≤ acc.length + 1 → J (i + 1) acc2 w2 → wO QA (lcL gt tt fe ρ ds w2 acc2) := fun acc2 w2 hl hj => wA_lcL J ds (i + 1) w2 acc2 (by omega) hj
      (fun j d' a' w' hd hj' => by
        have := hs (j + 1) d' a' w' hd (by rw [show i + (j + 1) = i + 1 + j by omega]; exact hj')
        rw [show i + (j + 1) + 1 = i + 1 + j + 1 by omega] at this
        exact this)
      (fun a' w' hj' => hN a' w' (by rw [List.length_cons, show i + (ds.length + 1) = i + 1 + ds.length by omega]; exact hj'))
    unfold lcL
    cases e : gt d ρ w with
    | ok ρ1 w1 =>
      rw [e, wO_ok] at h0
      have h0 : wO (fun b w2 => cond b (wO (fun y w3 => J (i + 1) (acc ++ [y]) w3) (fe ρ1 w2)) (J (i + 1) acc w2)) (tt ρ1 w1) := h0
      cases e2 : tt ρ1 w1 with
      | ok b w2 =>
        rw [e2, wO_ok] at h0
        cases b with
        | true =>
          have h0 : wO (fun y w3 => J (i + 1) (acc ++ [y]) w3) (fe ρ1 w2) := h0
          cases e3 : fe ρ1 w2 with
          | ok y w3 =>
            rw [e3, wO_ok] at h0
            simp only [e2, e3]
            rw [if_pos (by omega)]
            exact ih _ _ (by rw [List.length_append]; exact Nat.le_refl _) h0
          | _ => rw [e3] at h0; cases h0
        | false =>
          simp only [e2]
          exact ih _ _ (by omega) h0
      | _ => rw [e2] at h0; cases h0
    | _ => rw [e] at h0; cases h0
theorem wA_R1 {fa : FA} : wO QA (iR1 fa ρ w) = wO (fun ds w1 => match ds with | [.int j] => wO QA (Oc.on (c62 j) (.ok (rgD 0 j) w1)) | _ => False) (fa ρ w) := by
  simp only [iR1, wO_bind]
  congr 1
  funext ds w1
  match ds with
  | [] => exact wO_no
  | [.int j] => rfl
  | [.none] => exact wO_no
  | [.bool _] => exact wO_no
  | [.str _] => exact wO_no
  | [.list _] => exact wO_no
  | [.tuple _] => exact wO_no
  | [.dict _] => exact wO_no
  | a :: _ :: _ => cases a <;> exact wO_no
theorem rgD_len (n : Nat) : (rgD 0 (n : Int)).length = n := by simp [rgD]
theorem c62_of {n : Int} (h : n.natAbs < 1000000000) : c62 n = true := decide_eq_true (by omega)
end Td

set_option Elab.async false
set_option linter.all false
set_option maxRecDepth 100000
set_option maxHeartbeats 4000000
namespace Td
open PySem L2
/-! ### the store grows, a cell is given out -/
def Gd.al (g : Gd) (D : Addr) : Gd := { g with μ := fun l => if l = g.n then D else g.μ l, n := g.n + 1 }
theorem Gd.al_xt {g : Gd} {D : Addr} : Xt g (g.al D) := ⟨alloc_xt (P := g.P), rfl⟩
theorem Gd.al_ref {g : Gd} {D : Addr} : Dq (g.al D) (.ref D) (rf g.n) := alloc_ref (P := g.P)
theorem Rp.pnone {g : Gd} {H : Hp} {w : Ws} (r : Rp g H w) {D : Addr} (hD : H D = none) : g.P D = none := by
  cases h : g.P D with
  | none => rfl
  | some o => rw [(r.pin D o h).1] at hD; cases hD
theorem Rp.alloc {g : Gd} {H : Hp} {w : Ws} (r : Rp g H w) {D : Addr} {o : HO} {ob : Ob} (hD : H D = none) (hno : ∀ a, o ≠ .own a) (ho : ObR (g.al D) (upd H D o) D ob) : Rp (g.al D) (upd H D o) (w ++ [ob]) := by
  have z := pin_alloc (P := g.P) (o' := o) (ob := ob) (pin_new r hD o) rfl hno (r.pnone hD) (by rw [upd_upd]; exact ho)
  rw [upd_upd] at z
  exact z
/-- an object that is not tracked -/
theorem Rp.skip {g : Gd} {H : Hp} {w : Ws} (r : Rp g H w) {p : Addr} {o : HO} (h : H p = none) : Rp g (upd H p o) w where
  fro := fun a u e => by rw [upd_ne (ne_of_none e (r.fnone h))]; exact r.fro a u e
  len := r.len
  cell := fun l ob e => (r.cell l ob e).new (Xt.refl g).toXt0 fun b hb => by
    have nb : b ≠ p := fun z => by subst z; rw [h] at hb; cases hb
    exact ⟨rfl, upd_ne nb⟩
  inj := r.inj
  pin := fun a u e => by
    obtain ⟨h1, h2, h3⟩ := r.pin a u e
    have na : a ≠ p := fun z => by subst z; rw [h] at h1; cases h1
    exact ⟨by rw [upd_ne na]; exact h1, h2, h3⟩
def Gd.fz (g : Gd) (p : Addr) (o : HO) : Gd := { g with F := upd g.F p o }
theorem Rp.freeze {g : Gd} {H : Hp} {w : Ws} (r : Rp g H w) {l : Nat} {ds : List PyData} (hl : w[l]? = some (.lst ds)) :
    ∃ g', Xt g g' ∧ Rp g' H (w.set l .dead) ∧ Dq g' (.ref (g.μ l)) (.list ds) := by
  obtain ⟨hn, xs, hx, dx⟩ := r.cell l _ hl
  have hlt : l < g.n := by rw [r.len]; exact (List.getElem?_eq_some_iff.mp hl).1
  have X : Xt g (g.fz (g.μ l) (.lst xs)) := Xt.put hn
  refine ⟨_, X, ⟨fun a u e => ?_, by rw [List.length_set]; exact r.len, fun m ob e => ?_, r.inj, fun a u e => ?_⟩, .lst (SqL.of upd_same) (dx.mono X.toXt0 _ _)⟩
  · have e : upd g.F (g.μ l) (.lst xs) a = some u := e
    by_cases q : a = g.μ l
    · subst q; rw [upd_same] at e; exact hx.trans e
    · rw [upd_ne q] at e; exact r.fro a u e
  · by_cases q : l = m
    · subst q
      rw [List.getElem?_set_self (by rw [← r.len]; exact hlt)] at e
      cases e
      exact ⟨_, hx⟩
    · rw [List.getElem?_set_ne q] at e
      have hm : m < g.n := by rw [r.len]; exact (List.getElem?_eq_some_iff.mp e).1
      have nm : g.μ m ≠ g.μ l := fun z => q (r.inj m l hm hlt z).symm
      have c := r.cell m ob e
      cases ob with
      | lst es => obtain ⟨a, b, c, d⟩ := c; exact ⟨(upd_ne nm).trans a, b, c, d.mono X.toXt0 _ _⟩
      | dK es => obtain ⟨a, b, c, d⟩ := c; exact ⟨(upd_ne nm).trans a, b, c, d.mono X.toXt0⟩
      | ins k es =>
        obtain ⟨a, dx', gs, ⟨C', hC, h⟩, hd, hn2, d⟩ := c
        have nx : dx' ≠ g.μ l := fun z => by rw [z, hx] at hd; cases hd
        exact ⟨(upd_ne nm).trans a, dx', gs, ⟨C', hC, h⟩, hd, (upd_ne nx).trans hn2, d.mono X.toXt0⟩
      | dead => exact c
  · obtain ⟨q1, q2, q3⟩ := r.pin a u e
    exact ⟨q1, (upd_ne (fun z => q3 l hlt z.symm)).trans q2, q3⟩
/-- slot i: the list of the store is one of data from now on -/
def fzD (w : Ws) (d : PyData) : Option (PyData × Ws) := match locOf d with
  | some l => match w[l]? with
    | some (.lst ds) => some (.list ds, w.set l .dead)
    | _ => none
  | none => none
theorem locOf_ok {g : Gd} {v : V} {d : PyData} {l : Nat} (h : Dq g v d) (e : locOf d = some l) : v = .ref (g.μ l) ∧ d = rf l ∧ l < g.n := by
  cases h with
  | @ref m hm =>
    have : m = l := by simpa [locOf] using e
    subst this
    exact ⟨rfl, rfl, hm⟩
  | _ => cases e
theorem fzD_ok {g : Gd} {H : Hp} {w w' : Ws} {v : V} {d d' : PyData} (r : Rp g H w) (h : Dq g v d) (e : fzD w d = some (d', w')) : ∃ g', Xt g g' ∧ Rp g' H w' ∧ Dq g' v d' := by
  unfold fzD at e
  split at e
  · rename_i l hl
    split at e
    · rename_i ds hd
      cases e
      obtain ⟨rfl, rfl, _⟩ := locOf_ok h hl
      exact r.freeze hd
    · cases e
  · cases e
def sFz (i : Nat) : FS := fun ρ w => match ρ[i]? with
  | some (some d) => match fzD w d with
    | some (d', w') => .nx (ρ.set i (some d')) w'
    | none => .no
  | _ => .no
section
variable {X : Cx} {W : WX}
theorem sFz_nx {i : Nat} {ρ : Ev} {w : Ws} : sFz i ρ w = .no ∨ ∃ d d' w', ρ[i]? = some (some d) ∧ fzD w d = some (d', w') ∧ sFz i ρ w = .nx (ρ.set i (some d')) w' := by
  unfold sFz
  split
  · rename_i d hd
    split
    · rename_i d' w' hf
      exact .inr ⟨d, d', w', hd, hf, rfl⟩
    · exact .inl rfl
  · exact .inl rfl
theorem pssf_fz {i : Nat} {rest : List Stmt} {k : FS} (h : PSsf X W rest k) : PSsf X W rest (sSeq (sFz i) k) := by
  refine pss_imp h fun D σ H ⟨g, ρ, w, hK, r, e, q⟩ => ?_
  unfold sSeq at q
  rcases sFz_nx (i := i) (ρ := ρ) (w := w) with z | ⟨d, d', w', hd, hf, z⟩
  · rw [z] at q; exact q.elim
  · rw [z] at q
    obtain ⟨v, hv, dv⟩ := e.at_ i d hd
    obtain ⟨g', x, r', dv'⟩ := fzD_ok r dv hf
    refine ⟨g', _, _, x.k.trans hK, r', ?_, oSt.mono x q⟩
    have e' := (e.mono x.toXt0).set i dv'
    have es : σ.set i (some v) = σ := by
      refine List.ext_getElem? fun j => ?_
      by_cases hj : i = j
      · subst hj
        have hi : i < σ.length := (List.getElem?_eq_some_iff.mp hv).1
        rw [List.getElem?_set_self hi, hv]
      · rw [List.getElem?_set_ne hj]
    rw [es] at e'
    exact e'
/-- an expression whose list of the store is given out as data -/
def eFz (f : FE) : FE := fun ρ w => (f ρ w).bind fun d w1 => match fzD w1 d with
  | some (d', w') => .ok d' w'
  | none => .no
theorem pf_fz {e : Expr} {f : FE} (h : PF X W e f) : PF X W e (eFz f) := by
  refine pe_imp h fun σ H Q ⟨g, ρ, w, hK, r, e, q⟩ => ?_
  refine lX_bind hK r e q fun v H1 g1 d w1 x r1 e1 dv z => ?_
  split at z
  · rename_i d' w' hf
    obtain ⟨g', x', r', dv'⟩ := fzD_ok r1 dv hf
    exact z v H1 g' x' r' dv'
  · exact z.elim

/-! ### new lists of the store -/
def eLstS (fa : FA) : FE := fun ρ w => (fa ρ w).bind fun ds w1 => Oc.on (szOk ds.length) (.ok (rf w1.length) (w1 ++ [.lst ds]))
theorem newS {g : Gd} {H : Hp} {w : Ws} {vs : List V} {ds : List PyData} (r : Rp g H w) {p : Addr} (hp : H p = none) (d : DqA g vs ds) : Rp (g.al p) (upd H p (.lst vs)) (w ++ [.lst ds]) ∧ Dq (g.al p) (.ref p) (rf w.length) := by
  refine ⟨r.alloc hp (fun a z => nomatch z) ⟨r.fnone hp, vs, upd_same, d.mono Gd.al_xt.toXt0 _ _⟩, ?_⟩
  rw [← r.len]
  exact Gd.al_ref
theorem pf_lstS {es : List Expr} {fa : FA} {pos : Pos} (h : PAf X W es fa) : PF X W (.List es pos) (eLstS fa) := by
  refine pe_imp (pe_lst h) fun σ H Q ⟨g, ρ, w, hK, r, e, q⟩ => ?_
  refine lX_bind hK r e q fun vs H1 g1 ds w1 x r1 e1 d z => ?_
  obtain ⟨hb, z⟩ := z.on
  refine ⟨by rw [d.length]; exact of_decide_eq_true hb, fun p hp => ?_⟩
  obtain ⟨h1, h2⟩ := newS r1 hp d
  exact z _ _ _ Gd.al_xt h1 h2

/-! ### a list of the store is changed -/
def updL (w : Ws) (o : PyData) (k : List PyData → Option (PyData × List PyData)) : Option (PyData × Ws) := match locOf o with
  | some l => match w[l]? with
    | some (.lst xs) => match k xs with
      | some (d, ys) => some (d, w.set l (.lst ys))
      | none => none
    | _ => none
  | none => none
theorem updL_ok {g : Gd} {H : Hp} {w w' : Ws} {v : V} {o d : PyData} {k : List PyData → Option (PyData × List PyData)} (r : Rp g H w) (h : Dq g v o) (e : updL w o k = some (d, w')) :
    ∃ p xs ds ys, v = .ref p ∧ H p = some (.lst xs) ∧ DqA g xs ds ∧ k ds = some (d, ys) ∧ ∀ ys', DqA g ys' ys → Rp g (upd H p (.lst ys')) w' := by
  unfold updL at e
  split at e
  · rename_i l hl
    split at e
    · rename_i ds hd
      split at e
      · rename_i d' ys hk
        cases e
        obtain ⟨rfl, rfl, _⟩ := locOf_ok h hl
        obtain ⟨hn, xs, hx, dx⟩ := r.cell l _ hd
        refine ⟨_, xs, ds, ys, rfl, hx, dx, hk, fun ys' dy => r.write hd hn (fun a b hb z => ?_) ⟨hn, _, upd_same, dy⟩⟩
        rw [hx] at hb; cases hb; cases z
      · cases e
    · cases e
  · cases e
/-- a method of lists: what it gives, the list behind it -/
def MtL (X : Cx) (id : String) (r : List PyData → List PyData → Option (PyData × List PyData)) : Prop :=
  ∃ rr, MtM X id rr ∧ ∀ (g : Gd) (xs vs : List V) (ds as ys : List PyData) (d : PyData), DqA g xs ds → DqA g vs as → r ds as = some (d, ys) →
    ∃ v ys', Dq g v d ∧ DqA g ys' ys ∧ ∀ (H : Hp) (p : Addr) (Q : VK), H p = some (.lst xs) → Q v (upd H p (.lst ys')) → rr (.ref p) vs H Q
def eLm (r : List PyData → List PyData → Option (PyData × List PyData)) (fo : FE) (fa : FA) : FE := fun ρ w => (fo ρ w).bind fun o w1 => Oc.on (lstOf w1 o).isSome ((fa ρ w1).bind fun as w2 => match updL w2 o (fun xs => r xs as) with
  | some (d, w3) => .ok d w3
  | none => .no)
theorem pf_lm {id : String} {name : Str} {r : List PyData → List PyData → Option (PyData × List PyData)} {o e : Expr} {es : List Expr} {fo : FE} {fa : FA} {apos cpos : Pos} (slot : Slot "list" name id) (hty : typeOf (.builtin id) = pure (.type "method_descriptor")) (hm : MtL X id r) (ho : PF X W o fo) (ha : PAf X W (e :: es) fa)
    (hbase : attributeBase o name X.env (eval o X.env) = eval o X.env := by rfl) (hfew : ((backTo cpos (starEach (e :: es) X.env)).all (fun x => !x.1) && (backToKw cpos (keywordEach [] X.env)).all (fun x => x.1.isSome) && decide ((e :: es).length + ([] : List Keyword).length + (if ([] : List Keyword).isEmpty then 0 else 1) < 30)) = true := by rfl)
    (hline : (apos.endLine == cpos.line) = true := by rfl) (hs : starEach (e :: es) X.env = (false, eval e X.env) :: starEach es X.env := by rfl)
    (hplain : (backTo cpos (starEach es X.env)).any (·.1) = false := by rfl) :
    PF X W (.Call (.Attribute o name apos) (e :: es) [] cpos) (eLm r fo fa) := by
  obtain ⟨rr, hm, hr⟩ := hm
  refine pe_imp (pe_bm PySem.F.plainAttrs_list slot hty hm ho ha hbase hfew hline hs hplain) fun σ H Q ⟨g, ρ, w, hK, r, e, q⟩ => ?_
  refine lX_bind hK r e q fun v H1 g1 d w1 x r1 e1 dv z => ?_
  obtain ⟨hb, z⟩ := z.on
  obtain ⟨ds, hds⟩ := Option.isSome_iff_exists.mp hb
  obtain ⟨a, xs, rfl, sq, da⟩ := lstOf_ok r1 dv hds
  have hK1 := x.k.trans hK
  refine ⟨.inl ⟨rfl, xs, hK1 ▸ sq⟩, ?_⟩
  refine lX_bind hK1 r1 e1 z fun vs H2 g2 as w2 x2 r2 e2 dvs z2 => ?_
  split at z2
  · rename_i d' w3 hu
    obtain ⟨p, xs2, ds2, ys, ep, hp, dx2, hk, hw⟩ := updL_ok r2 (dv.mono x2.toXt0 _ _) hu
    obtain ⟨v', ys', dv', dy', hfin⟩ := hr g2 xs2 vs ds2 as ys d' dx2 dvs hk
    rw [ep]
    exact hfin H2 p Q hp (z2 _ _ g2 (Xt.refl _) (hw ys' dy') dv')
  · exact z2.elim
def eLm0 (r : List PyData → List PyData → Option (PyData × List PyData)) (fo : FE) : FE := fun ρ w => (fo ρ w).bind fun o w1 => match updL w1 o (fun xs => r xs []) with
  | some (d, w3) => .ok d w3
  | none => .no
theorem pf_lm0 {id : String} {name : Str} {r : List PyData → List PyData → Option (PyData × List PyData)} {o : Expr} {fo : FE} {apos cpos : Pos} (slot : Slot "list" name id) (hty : typeOf (.builtin id) = pure (.type "method_descriptor")) (hm : MtL X id r) (ho : PF X W o fo)
    (hbase : attributeBase o name X.env (eval o X.env) = eval o X.env := by rfl) (hline : (apos.endLine == cpos.line) = true := by rfl) :
    PF X W (.Call (.Attribute o name apos) [] [] cpos) (eLm0 r fo) := by
  obtain ⟨rr, hm, hr⟩ := hm
  refine pe_imp (pe_bm0 PySem.F.plainAttrs_list slot hty hm ho hbase hline) fun σ H Q ⟨g, ρ, w, hK, r, e, q⟩ => ?_
  refine lX_bind hK r e q fun v H1 g1 d w1 x r1 e1 dv z => ?_
  have hK1 := x.k.trans hK
  split at z
  · rename_i d' w3 hu
    obtain ⟨p, xs2, ds2, ys, rfl, hp, dx2, hk, hw⟩ := updL_ok r1 dv hu
    obtain ⟨v', ys', dv', dy', hfin⟩ := hr g1 xs2 [] ds2 [] ys d' dx2 .nil hk
    exact ⟨.inl ⟨rfl, xs2, hK1 ▸ SqL.of hp⟩, hfin H1 p Q hp (z _ _ g1 (Xt.refl _) (hw ys' dy') dv')⟩
  · exact z.elim
def apL : List PyData → List PyData → Option (PyData × List PyData)
  | xs, [d] => if xs.length < sizeLine then some (.none, xs ++ [d]) else none
  | _, _ => none
theorem mtL_append : MtL X "list.append" apL := by
  refine ⟨rAppend, mt_append, fun g xs vs ds as ys d dx da e => ?_⟩
  unfold apL at e
  split at e
  · split at e
    · rename_i hz
      cases e
      cases da with
      | cons h t =>
        cases t
        exact ⟨.non, _, .non, dx.append (.cons h .nil), fun H p Q hp q => ⟨p, xs, _, rfl, rfl, hp, by rw [dx.length]; exact hz, q⟩⟩
    · cases e
  · cases e
def ppL : List PyData → List PyData → Option (PyData × List PyData)
  | xs, [] => match xs[xs.length - 1]? with
    | some d => some (d, xs.dropLast)
    | none => none
  | _, _ => none
theorem DqA.dropLast {g : Gd} {vs : List V} {ds : List PyData} (h : DqA g vs ds) : DqA g vs.dropLast ds.dropLast := by
  rw [List.dropLast_eq_take, List.dropLast_eq_take, h.length]
  exact h.take _
theorem mtL_pop : MtL X "list.pop" ppL := by
  refine ⟨rPop, mt_pop, fun g xs vs ds as ys d dx da e => ?_⟩
  unfold ppL at e
  split at e
  · split at e
    · rename_i d' hd
      cases e
      cases da
      obtain ⟨v, hv, dv⟩ := dx.get hd
      rw [← dx.length] at hv
      exact ⟨v, _, dv, dx.dropLast, fun H p Q hp q => ⟨p, xs, _, rfl, rfl, hp, hv, q⟩⟩
    · cases e
  · cases e
def paL : List PyData → List PyData → Option (PyData × List PyData)
  | xs, [.int i] => if -(2 ^ 63) ≤ i ∧ i < 2 ^ 63 then match seqIndex? i xs.length with
      | some k => match xs[k]? with
        | some d => some (d, xs.eraseIdx k)
        | none => none
      | none => none
    else none
  | _, _ => none
theorem DqA.eraseIdx {g : Gd} : ∀ {vs : List V} {ds : List PyData} (k : Nat), DqA g vs ds → DqA g (vs.eraseIdx k) (ds.eraseIdx k)
  | _, _, _, .nil => .nil
  | _, _, 0, .cons _ t => t
  | _, _, k + 1, .cons h t => .cons h (DqA.eraseIdx k t)
theorem mtL_popAt : MtL X "list.pop" paL := by
  refine ⟨rPopAt, mt_popAt, fun g xs vs ds as ys d dx da e => ?_⟩
  unfold paL at e
  split at e
  · rename_i i
    split at e
    · rename_i hi
      split at e
      · rename_i k hk
        split at e
        · rename_i d' hd
          cases e
          cases da with
          | cons h t =>
            cases t; cases h
            obtain ⟨v, hv, dv⟩ := dx.get hd
            rw [← dx.length] at hk
            exact ⟨v, _, dv, dx.eraseIdx k, fun H p Q hp q => ⟨p, xs, i, k, v, rfl, rfl, hp, hi.1, hi.2, hk, hv, q⟩⟩
        · cases e
      · cases e
    · cases e
  · cases e

/-! ### xs[i] = v -/
theorem DqA.set {g : Gd} : ∀ {vs : List V} {ds : List PyData} (j : Nat) {v : V} {d : PyData}, DqA g vs ds → Dq g v d → DqA g (vs.set j v) (ds.set j d)
  | _, _, _, _, _, .nil, _ => .nil
  | _, _, 0, _, _, .cons _ t, h => .cons h t
  | _, _, j + 1, _, _, .cons a t, h => .cons a (DqA.set j t h)
def gIx (fo fi : FE) : FG := fun d ρ w => (fo ρ w).bind fun o w1 => (fi ρ w1).bind fun i w2 => match i with
  | .int k => match updL w2 o (fun xs => (ixN xs.length k).map fun j => (.none, xs.set j d)) with
    | some (_, w3) => .ok ρ w3
    | none => .no
  | _ => .no
theorem pgf_ix {o i : Expr} {pos : Pos} {fo fi : FE} (ho : PF X W0 o fo) (hi : PF X W0 i fi)
    (ha : ∀ v, assign (.Subscript o i pos) X.env v = (do let ov ← holding [v] (eval o X.env); let iv ← holding [v, ov] (eval i X.env); standAt pos; holding [v, ov, iv] (setItem ov iv v); release [v, ov, iv] []) := by intro _; rfl) : PGf X [] (.Subscript o i pos) (gIx fo fi) := by
  refine pg_imp (pg_sub ho hi set_list ha) fun v σ H Q ⟨g, ρ, w, d, hK, r, e, dv, q⟩ => ?_
  have q' : oX W0 σ (fun g' (_ : Unit) ρ' => EnR g' σ ρ') g (fun _ H' => Q σ H') (gIx fo fi d ρ w) := by
    cases hz : gIx fo fi d ρ w with
    | ok ρ' w' => rw [hz] at q; exact fun _ H' g' x r' e' => q σ H' g' x r' e' (Sm.refl _ _)
    | ex c fs w' => rw [hz] at q; exact q.elim
    | no => rw [hz] at q; exact q
  refine lX_bind hK r e q' fun vo H1 g1 o' w1 x r1 e1 dvo z => ?_
  refine lX_bind (x.k.trans hK) r1 e1 z fun vi H2 g2 i' w2 x2 r2 e2 dvi z2 => ?_
  split at z2
  · rename_i k
    split at z2
    · rename_i d' w3 hu
      obtain ⟨p, xs, ds, ys, rfl, hp, dx, hk, hw⟩ := updL_ok r2 (dvo.mono x2.toXt0 _ _) hu
      obtain ⟨j, hj, ej⟩ := Option.map_eq_some_iff.mp hk
      cases ej
      cases dvi
      have dv2 := dv.mono (x.toXt0.trans x2.toXt0) _ _
      refine ⟨p, xs, k, j, rfl, rfl, hp, by rw [dx.length]; exact hj, ?_⟩
      exact z2 () _ g2 (Xt.refl _) (hw _ (dx.set j dv2)) e2
    · exact z2.elim
  · exact z2.elim

/-! ### while -/
def whL (t : FT) (body : FS) : Nat → FS
  | 0 => fun _ _ => .no
  | n + 1 => fun ρ w => (t ρ w).thenS ρ fun b w1 => cond b (match body ρ w1 with
    | .nx ρ2 w2 => whL t body n ρ2 w2
    | .ct ρ2 w2 => whL t body n ρ2 w2
    | .bk ρ2 w2 => .nx ρ2 w2
    | o => o) (.nx ρ w1)
def sWh (t : FT) (body : FS) : FS := whL t body 1000000
theorem psf_while {c : Expr} {body : List Stmt} {pos : Pos} {t : FT} {fb : FS} (hp : PassesOwn (model X.prog X.w) X.A X.env X.xe) (hc : PTf X W c t) (hb : PSsf X W body fb) : PSf X W (.While c body [] pos) (sWh t fb) := by
  refine ps_imp (ps_while hp hc hb) fun D σ H ⟨g, ρ, w, hK, r, e, q⟩ => ?_
  refine ⟨fun m σ' H' => ∃ g' ρ' w', Xt g g' ∧ Rp g' H' w' ∧ EnR g' σ' ρ' ∧ oSt W g' D (whL t fb m ρ' w'), ⟨1000000, g, ρ, w, Xt.refl _, r, e, q⟩, ?_⟩
  rintro m σ' H' ⟨g', ρ', w', x', r', e', z'⟩
  cases m with
  | zero => exact z'.elim
  | succ m =>
    refine lX_then (x'.k.trans hK) r' e' z' fun v H1 g1 d w1 x r1 e1 dv z => ?_
    subst dv
    have up := x'.trans x
    cases v with
    | true =>
      refine iteT ⟨fun σ2 H2 => ∃ g2 ρ2 w2, Xt g g2 ∧ Rp g2 H2 w2 ∧ EnR g2 σ2 ρ2 ∧ oSt W g2 D (whL t fb m ρ2 w2), fun σ2 H2 n => ⟨m, Nat.lt_succ_self _, n⟩, g1, ρ', w1, up.k.trans hK, r1, e1, ?_⟩
      simp only [cond] at z
      cases hb' : fb ρ' w1 with
      | nx ρ2 w2 =>
        rw [hb'] at z
        exact fun σ4 H4 g4 x4 r4 e4 => ⟨g4, ρ2, w2, up.trans x4, r4, e4, oSt.mono x4 z⟩
      | ct ρ2 w2 =>
        rw [hb'] at z
        exact fun σ4 H4 g4 x4 r4 e4 => ⟨g4, ρ2, w2, up.trans x4, r4, e4, oSt.mono x4 z⟩
      | bk ρ2 w2 => rw [hb'] at z; exact z
      | rt d w2 => rw [hb'] at z; exact z
      | ex ρ2 c fs w2 => rw [hb'] at z; exact z
      | no => rw [hb'] at z; exact z
    | false => exact iteF (z _ _ _ (Xt.refl _) r1 e1)

/-! ### == [], != [] -/
def eqL (w : Ws) (d e : PyData) : Option PyData := match lstOf w d, lstOf w e with
  | some xs, some [] => some (.bool xs.isEmpty)
  | _, _ => none
def neL (w : Ws) (d e : PyData) : Option PyData := match lstOf w d, lstOf w e with
  | some xs, some [] => some (.bool (!xs.isEmpty))
  | _, _ => none
theorem op_eqL (hu : X.A.units + 64 < cLine) : OpR X (compareOp .Eq) (rD2 X.K eqL) := by
  intro pins s σ H x y v u Q I rx ry ⟨g, w, d, e, z, hK, r, dx, dy, hz, q⟩
  unfold eqL at hz
  split at hz
  · rename_i ds h1 h2
    cases hz
    obtain ⟨a, xs, rfl, sq, da⟩ := lstOf_ok r dx h1
    obtain ⟨b, ys, rfl, sq2, db⟩ := lstOf_ok r dy h2
    cases db; cases rx; cases ry
    obtain ⟨its, rv, pl, _⟩ := I.list (hK ▸ sq)
    obtain ⟨its2, rv2, pl2, _⟩ := I.list (hK ▸ sq2)
    have e2 : its2 = [] := by have := rv2.length; exact List.length_eq_zero_iff.mp this.symm
    subst e2
    have hl := rv.length
    have fin := q (.bl ds.isEmpty) H g (Xt.refl g) r (.bl _)
    cases its with
    | nil =>
      have e0 : ds = [] := by rw [da.length] at hl; exact List.length_eq_zero_iff.mp hl
      subst e0
      exact SeqAt.eq_listAt (e := fun _ => true) pl.isList pl2.isList rfl (by omega) (fun j h1 _ => absurd h1 (by simp)) ⟨.bl true, H, I, rfl, fin⟩
    | cons c cs =>
      have e0 : ds.isEmpty = false := by rw [da.length] at hl; cases ds with | nil => cases hl | cons => rfl
      rw [e0] at fin
      exact SeqAt.eq_list_lengthsAt pl.isList pl2.isList (by simp) (by omega) ⟨.bl false, H, I, rfl, fin⟩
  · cases hz
theorem op_neL (hu : X.A.units + 64 < cLine) : OpR X (compareOp .NotEq) (rD2 X.K neL) := by
  intro pins s σ H x y v u Q I rx ry ⟨g, w, d, e, z, hK, r, dx, dy, hz, q⟩
  unfold neL at hz
  split at hz
  · rename_i ds h1 h2
    cases hz
    obtain ⟨a, xs, rfl, sq, da⟩ := lstOf_ok r dx h1
    obtain ⟨b, ys, rfl, sq2, db⟩ := lstOf_ok r dy h2
    cases db; cases rx; cases ry
    obtain ⟨its, rv, pl, _⟩ := I.list (hK ▸ sq)
    obtain ⟨its2, rv2, pl2, _⟩ := I.list (hK ▸ sq2)
    have e2 : its2 = [] := by have := rv2.length; exact List.length_eq_zero_iff.mp this.symm
    subst e2
    have hl := rv.length
    have fin := q (.bl (!ds.isEmpty)) H g (Xt.refl g) r (.bl _)
    cases its with
    | nil =>
      have e0 : ds = [] := by rw [da.length] at hl; exact List.length_eq_zero_iff.mp hl
      subst e0
      exact SeqAt.RcNeAt.lists (e := fun _ => true) pl.isList pl2.isList rfl (by omega) (fun j h1 _ => absurd h1 (by simp)) X.prog X.w X.xe _ ⟨.bl false, H, I, rfl, fin⟩
    | cons c cs =>
      have e0 : ds.isEmpty = false := by rw [da.length] at hl; cases ds with | nil => cases hl | cons => rfl
      rw [e0] at fin
      exact SeqAt.RcNeAt.lists_lengths pl.isList pl2.isList (by simp) (by omega) X.prog X.w X.xe _ ⟨.bl true, H, I, rfl, fin⟩
  · cases hz
end
end Td

set_option Elab.async false
set_option linter.all false
set_option maxRecDepth 100000
set_option maxHeartbeats 4000000
namespace Td
open PySem L2 PySem.Spec PyProof.Rows
/-! ### instances of the store -/
def insOf (w : Ws) (o : PyData) (c : Str) : Option (List (Str × PyData)) := match locOf o with
  | some l => match w[l]? with
    | some (.ins c' fs) => if c' = c then some fs else none
    | _ => none
  | none => none
theorem insOf_ok {g : Gd} {H : Hp} {w : Ws} {v : V} {o : PyData} {c : Str} {fs : List (Str × PyData)} (r : Rp g H w) (h : Dq g v o) (e : insOf w o c = some fs) :
    ∃ l C dx gs, v = .ref (g.μ l) ∧ o = rf l ∧ w[l]? = some (.ins c fs) ∧ ClsAt g.K c C ∧ H (g.μ l) = some (.ins C dx gs) ∧ H dx = some (.own (g.μ l)) ∧ g.F (g.μ l) = none ∧ g.F dx = none ∧ KvR g gs fs := by
  unfold insOf at e
  split at e
  · rename_i l hl
    split at e
    · rename_i c' fs' hw
      split at e
      · rename_i hc
        cases e
        subst hc
        obtain ⟨rfl, rfl, _⟩ := locOf_ok h hl
        obtain ⟨hn, dx, gs, ⟨C, hC, h1⟩, hd, hn2, kv⟩ := r.cell l _ hw
        exact ⟨l, C, dx, gs, rfl, rfl, hw, hC, h1, hd, hn, hn2, kv⟩
      · cases e
    · cases e
  · cases e
theorem KvR.lookup {g : Gd} {f : Str} : ∀ {gs : List (Str × V)} {fs : List (Str × PyData)}, KvR g gs fs → (fs.lookup f = none → gs.lookup f = none) ∧ ∀ d, fs.lookup f = some d → ∃ v, gs.lookup f = some v ∧ Dq g v d
  | _, _, .nil => ⟨fun _ => rfl, fun d e => by cases e⟩
  | (a, v) :: gs, (b, d0) :: fs, .cons h t => by
    have hk : a = b := h.1
    subst hk
    obtain ⟨i1, i2⟩ := KvR.lookup (f := f) t
    by_cases q : (f == a) = true
    · have e1 : List.lookup f ((a, d0) :: fs) = some d0 := by rw [List.lookup_cons, q]
      have e2 : List.lookup f ((a, v) :: gs) = some v := by rw [List.lookup_cons, q]
      rw [e1, e2]
      refine ⟨fun z => (by cases z), fun d z => ?_⟩
      cases z
      exact ⟨v, rfl, h.2⟩
    · have q : (f == a) = false := by simpa using q
      have e1 : List.lookup f ((a, d0) :: fs) = List.lookup f fs := by rw [List.lookup_cons, q]
      have e2 : List.lookup f ((a, v) :: gs) = List.lookup f gs := by rw [List.lookup_cons, q]
      rw [e1, e2]
      exact ⟨i1, i2⟩
def putFD (f : Str) (v : PyData) : List (Str × PyData) → List (Str × PyData)
  | [] => [(f, v)]
  | (g, x) :: r => if g = f then (g, v) :: r else (g, x) :: putFD f v r
theorem KvR.putF {g : Gd} {f : Str} {v : V} {d : PyData} (hd : Dq g v d) : ∀ {gs : List (Str × V)} {fs : List (Str × PyData)}, KvR g gs fs → KvR g (L2.putF f v gs) (putFD f d fs)
  | _, _, .nil => .cons ⟨rfl, hd⟩ .nil
  | (a, u) :: gs, (b, d0) :: fs, .cons h t => by
    have hk : a = b := h.1
    subst hk
    unfold L2.putF putFD
    by_cases q : a = f
    · rw [if_pos q, if_pos q]; exact .cons ⟨rfl, hd⟩ t
    · rw [if_neg q, if_neg q]; exact .cons h (KvR.putF hd t)
/-- the fields of an instance are changed -/
def updI (w : Ws) (o : PyData) (c : Str) (k : List (Str × PyData) → Option (List (Str × PyData))) : Option Ws := match locOf o with
  | some l => match insOf w o c with
    | some fs => match k fs with
      | some fs' => some (w.set l (.ins c fs'))
      | none => none
    | none => none
  | none => none
theorem updI_ok {g : Gd} {H : Hp} {w w' : Ws} {v : V} {o : PyData} {c : Str} {k : List (Str × PyData) → Option (List (Str × PyData))} (r : Rp g H w) (h : Dq g v o) (e : updI w o c k = some w') :
    ∃ p C dx gs fs fs', v = .ref p ∧ ClsAt g.K c C ∧ H p = some (.ins C dx gs) ∧ KvR g gs fs ∧ k fs = some fs' ∧ ∀ gs', KvR g gs' fs' → Rp g (upd H p (.ins C dx gs')) w' := by
  unfold updI at e
  split at e
  · rename_i l hl
    split at e
    · rename_i fs hf
      split at e
      · rename_i fs' hk
        cases e
        obtain ⟨l', C, dx, gs, rfl, rfl, hw, hC, h1, hd, hn, hn2, kv⟩ := insOf_ok r h hf
        have el : l' = l := by simpa [locOf] using hl
        subst el
        refine ⟨_, C, dx, gs, fs, fs', rfl, hC, h1, kv, hk, fun gs' kv' => r.write hw hn (fun a b hb z => ?_) ⟨hn, dx, gs', ⟨C, hC, upd_same⟩, (upd_ne fun z => ?_).trans hd, hn2, kv'⟩⟩
        · rw [h1] at hb; cases hb; cases z
        · rw [z, h1] at hd; cases hd
      · cases e
    · cases e
  · cases e
/-- a class of the text, where it stands -/
structure ClsD (K : PySem.W.Frag) (mg : Str → Option Value) (c : Str) where
  C : Addr
  at_ : ClsAt K c C
  mg_ : mg c = some (.ref C)
  cls : Cls K C
theorem ClsAt.eq {K : PySem.W.Frag} {c : Str} {C C' : Addr} (a : ClsAt K c C) (b : ClsAt K c C') : C = C' := by
  have z := a.symm.trans b
  cases z
  rfl
section
variable {X : Cx} {W : WX} {c f : Str} {o e : Expr} {fo fe : FE} {pos : Pos}
def eFd (c f : Str) (fo : FE) : FE := fun ρ w => (fo ρ w).bind fun o w1 => Oc.of ((insOf w1 o c).bind fun fs => fs.lookup f) w1
theorem pf_fld (D : ClsD X.K X.mg c) (hn : NoAttr X.K D.C f) (ho : PF X W o fo) (hb : attributeBase o f X.env (eval o X.env) = eval o X.env := by rfl) : PF X W (.Attribute o f pos) (eFd c f fo) := by
  refine pe_imp (pe_fld ho hb) fun σ H Q ⟨g, ρ, w, hK, r, e, q⟩ => ?_
  refine lX_bind hK r e q fun v H1 g1 d w1 x r1 e1 dv z => ?_
  have hK1 := x.k.trans hK
  cases hz : (insOf w1 d c).bind fun fs => fs.lookup f with
  | none => rw [hz] at z; exact z.elim
  | some y =>
    rw [hz] at z
    obtain ⟨fs, h1, h2⟩ := Option.bind_eq_some_iff.mp hz
    obtain ⟨l, C, dx, gs, rfl, rfl, hw, hC, hH, hd, hn1, hn2, kv⟩ := insOf_ok r1 dv h1
    obtain ⟨u, hu, du⟩ := kv.lookup.2 y h2
    have eC : C = D.C := (hK1 ▸ hC : ClsAt X.K c C).eq D.at_
    subst eC
    exact ⟨_, _, dx, gs, u, rfl, hH, D.cls, hn, hu, z _ H1 g1 (Xt.refl _) r1 du⟩
/-- o.f = e -/
def sFd (c f : Str) (fo fv : FE) : FS := fun ρ w => (fv ρ w).thenS ρ fun v w1 => (fo ρ w1).thenS ρ fun o w2 => match updI w2 o c (fun fs => if fs.length < 1000 then some (putFD f v fs) else none) with
  | some w3 => .nx ρ w3
  | none => .no
theorem psf_fld {pos' : Pos} (D : ClsD X.K X.mg c) (hn : NoAttr X.K D.C f) (ho : PF X W o fo) (hv : PF X W e fe) (hs : swapsWith e (some (.Attribute o f pos')) pos.line X.env = pure false := by rfl) : PSf X W (.Assign [.Attribute o f pos'] e pos) (sFd c f fo fe) := by
  refine ps_imp (ps_fld ho hv hs) fun D' σ H ⟨g, ρ, w, hK, r, e, q⟩ => ?_
  refine lX_then hK r e q fun v H1 g1 d w1 x r1 e1 dv z => ?_
  refine lX_then (x.k.trans hK) r1 e1 z fun u H2 g2 o' w2 x2 r2 e2 du z2 => ?_
  split at z2
  · rename_i w3 hu
    obtain ⟨p, C, dx, gs, fs, fs', rfl, hC, hH, kv, hk, hw⟩ := updI_ok r2 du hu
    split at hk
    · rename_i hl
      cases hk
      have eC : C = D.C := ((x2.k.trans (x.k.trans hK)) ▸ hC : ClsAt X.K c C).eq D.at_
      subst eC
      have dv2 := dv.mono x2.toXt0 _ _
      exact ⟨p, _, dx, gs, rfl, hH, D.cls, hn, by rw [kv.length]; exact hl, z2 σ _ g2 (Xt.refl _) (hw _ (kv.putF dv2)) e2⟩
    · cases hk
  · exact z2.elim
/-- o.f += e, ints -/
def sFdA (c f : Str) (fo fv : FE) : FS := fun ρ w => (fo ρ w).thenS ρ fun o w1 => match (insOf w1 o c).bind (fun fs => fs.lookup f) with
  | some (.int i) => (fv ρ w1).thenS ρ fun d w2 => match d with
    | .int j => match updI w2 o c (fun fs => if fs.length < 1000 then some (putFD f (.int (i + j)) fs) else none) with
      | some w3 => .nx ρ w3
      | none => .no
    | _ => .no
  | _ => .no
theorem psf_fldA {tpos : Pos} (D : ClsD X.K X.mg c) (hn : NoAttr X.K D.C f) (ho : PF X W o fo) (hv : PF X W e fe) : PSf X W (.AugAssign (.Attribute o f tpos) .Add e pos) (sFdA c f fo fe) := by
  refine ps_imp (ps_fldaug ho hv in_add) fun D' σ H ⟨g, ρ, w, hK, r, e, q⟩ => ?_
  refine lX_then hK r e q fun v H1 g1 o' w1 x r1 e1 dv z => ?_
  have hK1 := x.k.trans hK
  split at z
  · rename_i i hz
    obtain ⟨fs, h1, h2⟩ := Option.bind_eq_some_iff.mp hz
    obtain ⟨l, C, dx, gs, rfl, rfl, hw, hC, hH, hd, hn1, hn2, kv⟩ := insOf_ok r1 dv h1
    obtain ⟨u, hu, du⟩ := kv.lookup.2 _ h2
    have eC : C = D.C := (hK1 ▸ hC : ClsAt X.K c C).eq D.at_
    subst eC
    refine ⟨_, _, dx, gs, u, rfl, hH, D.cls, hn, hu, ?_⟩
    refine lX_then hK1 r1 e1 z fun y H2 g2 d w2 x2 r2 e2 dy z2 => ?_
    split at z2
    · rename_i j
      split at z2
      · rename_i w3 hw3
        cases du; cases dy
        obtain ⟨p, C, dx', gs', fs', fs'', ep, hC', hH', kv', hk, hw'⟩ := updI_ok r2 (dv.mono x2.toXt0 _ _) hw3
        split at hk
        · rename_i hl
          cases hk
          have eC : C = D.C := ((x2.k.trans hK1) ▸ hC' : ClsAt X.K c C).eq D.at_
          subst eC
          cases ep
          exact ⟨_, _, rfl, rfl, dx', gs', hH', by rw [kv'.length]; exact hl, z2 σ _ g2 (Xt.refl _) (hw' _ (kv'.putF (.int _))) e2⟩
        · cases hk
      · exact z2.elim
    · exact z2.elim
  · exact z.elim
end
/-! ### methods -/
structure MethD (K : PySem.W.Frag) (mg : Str → Option Value) (c m qual : Str) (st : Stmt) (ps : List Str) (D : ClsD K mg c) where
  f : Addr
  fd : FuncData
  fn : Fun K m qual st f fd
  me : Meth K D.C m f
  bd : Binds K fd ps []
structure Gm (P : Program) (w : World) (K : PySem.W.Frag) (mg : Str → Option Value) (base : Heap) (k : Nat) (f : Addr) (fd : FuncData) (ps : List Str) (gf : FF) : Prop where
  fn : FnG P w K mg base k f fd ps gf
  len : ∀ as w, as.length ≠ ps.length → gf as w = .no
theorem Gm.mono {P : Program} {w : World} {K : PySem.W.Frag} {mg : Str → Option Value} {base : Heap} {j k : Nat} {f : Addr} {fd : FuncData} {ps : List Str} {gf : FF} (G : Gm P w K mg base j f fd ps gf) (h : j ≤ k) : Gm P w K mg base k f fd ps gf := ⟨G.fn.mono h, G.len⟩
theorem gm_no {P : Program} {w : World} {K : PySem.W.Frag} {mg : Str → Option Value} {base : Heap} {k : Nat} {f : Addr} {fd : FuncData} {ps : List Str} : Gm P w K mg base k f fd ps (fun _ _ => .no) :=
  ⟨⟨fun A outer s H args us vs Q E hr hg e0 hb hv ⟨g, w', ds, hK, r, da, hl, q⟩ => q.elim⟩, fun _ _ _ => rfl⟩
def okM (w : Ws) (o : PyData) (c m : Str) : Bool := match insOf w o c with
  | some fs => (fs.lookup m).isNone
  | none => false
def eMt (c m : Str) (gf : FF) (fo : FE) (fa : FA) : FE := fun ρ w => (fo ρ w).bind fun o w1 => Oc.on (okM w1 o c m) ((fa ρ w1).bind fun as w2 => gf (o :: as) w2)
theorem gm_of {P : Program} {w : World} {K : PySem.W.Frag} {mg : Str → Option Value} {base : Heap} {x qual : Str} {st : Stmt} {f : Addr} {fd : FuncData} {N ps : List Str} {k : Nat} {bf : FS} (F : Fun K x qual st f fd) (S : FnScope N ps (defScope st))
    (hbody : ∀ (cdv : Value) (A : Around) (outer : List Env) (s : Shared) (H : Hp) (E : XK), Room k (A.deeper (envOfC qual (defScope st) s.heap.objs.size f cdv)) → A.guards = some [] →
      PSsf (cxOf (CX P w) P w K mg base N qual (defScope st) f cdv A outer s H E) (fun c d _ H => E c d H) (defBody st) bf) : Gm P w K mg base (k + 1) f fd ps (defF N.length ps.length bf) := ⟨fnG_of F S hbody, fun as w h => if_neg h⟩
section
variable {X : Cx} {W : WX} {k : Nat} {ps : List Str} {gf : FF} {c m qual : Str} {st : Stmt} {o e : Expr} {es : List Expr} {fo : FE} {fa : FA} {pos apos : Pos}
theorem okM_ok {g : Gd} {H : Hp} {w : Ws} {v : V} {o : PyData} (D : ClsD X.K X.mg c) (hK : g.K = X.K) (r : Rp g H w) (h : Dq g v o) (e : okM w o c m = true) : ∃ p dx gs, v = .ref p ∧ H p = some (.ins D.C dx gs) ∧ gs.lookup m = none := by
  unfold okM at e
  split at e
  · rename_i fs hf
    obtain ⟨l, C, dx, gs, rfl, rfl, hw, hC, hH, hd, hn1, hn2, kv⟩ := insOf_ok r h hf
    have eC : C = D.C := (hK ▸ hC : ClsAt X.K c C).eq D.at_
    subst eC
    exact ⟨_, dx, gs, rfl, hH, kv.lookup.1 (by simpa using e)⟩
  · cases e
/-- what a method's call wants behind its receiver -/
theorem meth_want {σ : L2.St} {H : Hp} {Q : VK} {g : Gd} {ρ : Ev} {w : Ws} {K : PySem.W.Frag} {v : V} {o' : PyData} (hK : g.K = K) (r : Rp g H w) (e : EnR g σ ρ) (dv : Dq g v o') (hlen : ∀ as w, as.length ≠ ps.length → gf as w = .no)
    (z : oX W σ Dq g Q ((fa ρ w).bind fun as w2 => gf (o' :: as) w2)) : lA K W fa σ H fun vs H2 => spF K ps.length gf (v :: vs) H2 Q (fun c d H' => W c d σ H') := by
  refine lX_bind hK r e z fun vs H2 g2 as w2 x2 r2 e2 dvs z2 => ?_
  have dal : DqA g2 (v :: vs) (o' :: as) := .cons (dv.mono x2.toXt0 _ _) dvs
  refine ⟨g2, w2, _, x2.k.trans hK, r2, dal, ?_, ?_⟩
  · rw [dal.length]
    by_cases h : (o' :: as).length = ps.length
    · exact h
    · rw [hlen _ _ h] at z2; exact z2.elim
  · cases hz : gf (o' :: as) w2 with
    | ok d w3 => rw [hz] at z2; exact z2
    | ex c fs w3 => rw [hz] at z2; exact z2
    | no => rw [hz] at z2; exact z2
theorem pf_meth {pl : Sem Bool} {D : ClsD X.K X.mg c} {M : MethD X.K X.mg c m qual st ps D} (G : Gm X.prog X.w X.K X.mg X.base k M.f M.fd ps gf) (hr : Room k X.A) (hgu : X.A.guards = some []) (tk : Takes X W) (ho : PF X W o fo) (ha : PAf X W (e :: es) fa)
    (hst : starEach (e :: es) X.env = (false, eval e X.env) :: starEach es X.env := by rfl) (hpl : (backTo pos (starEach es X.env)).any (·.1) = false := by rfl)
    (ht : eval (.Call (.Attribute o m apos) (e :: es) [] pos) X.env = (do let ov ← eval o X.env; standAt apos.atName; let (f, first) ← holding [ov] (getMethod ov m pl); callWith pos f first (backTo pos (starEach (e :: es) X.env)) (backToKw pos (keywordEach [] X.env))) := by rfl) :
    PF X W (.Call (.Attribute o m apos) (e :: es) [] pos) (eMt c m gf fo fa) := by
  refine ⟨fun pins s σ H Q I h => ?_⟩
  obtain ⟨g, ρ, w, hK, r, en, q⟩ := h
  have want := lX_bind (R := Dq) (T := fun v H1 => ∃ p dx gs, v = .ref p ∧ H1 p = some (.ins D.C dx gs) ∧ gs.lookup m = none ∧ lA X.K W fa σ H1 fun vs H2 => spF X.K ps.length gf (v :: vs) H2 Q (fun c d H' => W c d σ H')) hK r en q fun v H1 g1 o' w1 x r1 e1 dv z => by
    obtain ⟨hb, z⟩ := z.on
    obtain ⟨p, dx, gs, ev, hH, hl⟩ := okM_ok D (x.k.trans hK) r1 dv hb
    exact ⟨p, dx, gs, ev, hH, hl, meth_want (x.k.trans hK) r1 e1 dv G.len z⟩
  refine PySem.W.methodCall_KW (pl := pl) (thn (ho.run pins s σ H _ I want) fun u s1 hv => ?_) ht
  obtain ⟨x, H1, I1, rx, p, dx, gs, ex, hH, hl, q1⟩ := hv
  subst ex
  cases rx
  refine getmeth_ok I1 hH D.cls M.me hl ?_
  refine PySem.W.callWith_K (first := [.ref p]) (h₀ := X.base) I.ok.mod.kin M.me.kp ?_ hst hpl
  refine thn (ha.run pos pins s1 σ H1 _ I1 q1) fun us s2 hs => ?_
  obtain ⟨vs, H2, I2, rv, q2⟩ := hs
  exact ⟨I2.kIn, run_G (us := .ref p :: us) (vs := .ref p :: vs) G.fn hr hgu M.bd .nil tk I2 (.cons rfl rv) (by rw [List.append_nil]; exact q2)⟩
theorem pf_meth0 {pl : Sem Bool} {D : ClsD X.K X.mg c} {M : MethD X.K X.mg c m qual st ps D} (G : Gm X.prog X.w X.K X.mg X.base k M.f M.fd ps gf) (hr : Room k X.A) (hgu : X.A.guards = some []) (tk : Takes X W) (ho : PF X W o fo)
    (ht : eval (.Call (.Attribute o m apos) [] [] pos) X.env = (do let ov ← eval o X.env; standAt apos.atName; let (f, first) ← holding [ov] (getMethod ov m pl); callWith pos f first (backTo pos (starEach [] X.env)) (backToKw pos (keywordEach [] X.env))) := by rfl) :
    PF X W (.Call (.Attribute o m apos) [] [] pos) (eMt c m gf fo aN) := by
  refine ⟨fun pins s σ H Q I h => ?_⟩
  obtain ⟨g, ρ, w, hK, r, en, q⟩ := h
  have want := lX_bind (R := Dq) (T := fun v H1 => ∃ p dx gs, v = .ref p ∧ H1 p = some (.ins D.C dx gs) ∧ gs.lookup m = none ∧ lA X.K W aN σ H1 fun vs H2 => spF X.K ps.length gf (v :: vs) H2 Q (fun c d H' => W c d σ H')) hK r en q fun v H1 g1 o' w1 x r1 e1 dv z => by
    obtain ⟨hb, z⟩ := z.on
    obtain ⟨p, dx, gs, ev, hH, hl⟩ := okM_ok D (x.k.trans hK) r1 dv hb
    exact ⟨p, dx, gs, ev, hH, hl, meth_want (x.k.trans hK) r1 e1 dv G.len z⟩
  refine PySem.W.methodCall_KW (pl := pl) (thn (ho.run pins s σ H _ I want) fun u s1 hv => ?_) ht
  obtain ⟨x, H1, I1, rx, p, dx, gs, ex, hH, hl, q1⟩ := hv
  subst ex
  cases rx
  refine getmeth_ok I1 hH D.cls M.me hl ?_
  obtain ⟨g2, ρ2, w2, hK2, r2, en2, q2⟩ := q1
  exact PySem.W.callWith_K0 (first := [.ref p]) I1.kIn M.me.kp (run_G (us := [.ref p]) (vs := [.ref p]) G.fn hr hgu M.bd .nil tk I1 (.cons rfl .nil) (by rw [List.append_nil]; exact q2 [] H1 g2 (Xt.refl _) r2 .nil))
end
/-! ### C(..) -/
theorem make_guards {A : Around} {C : Addr} {us : List Value} {kw : List (Str × Value)} (h : A.guards = some []) : (A.under (.builtin "type.__call__" ⟨.ref C :: us, kw⟩)).guards = some [] := by
  first | exact h | simpa [Around.under, Code.isGuard, guardIds] using h
def eMk (c : Str) (gf : FF) (fa : FA) : FE := fun ρ w => (fa ρ w).bind fun as w1 => match gf (rf w1.length :: as) (w1 ++ [.ins c []]) with
  | .ok .none w2 => .ok (rf w1.length) w2
  | .ok _ _ => .no
  | .ex k fs w2 => .ex k fs w2
  | .no => .no
theorem newI {g : Gd} {H : Hp} {w : Ws} {c : Str} {C x dx : Addr} (r : Rp g H w) (hC : ClsAt g.K c C) (hx : H x = none) (hdx : H dx = none) (hne : dx ≠ x) : Rp (g.al x) (upd (upd H dx (.own x)) x (.ins C dx [])) (w ++ [.ins c []]) ∧ Dq (g.al x) (.ref x) (rf w.length) := by
  have r1 : Rp g (upd H dx (.own x)) w := r.skip hdx
  refine ⟨r1.alloc (by rw [upd_ne (Ne.symm hne)]; exact hx) (fun a z => nomatch z) ⟨r.fnone hx, dx, [], ⟨C, hC, upd_same⟩, by rw [upd_ne hne, upd_same], r.fnone hdx, .nil⟩, ?_⟩
  rw [← r.len]
  exact Gd.al_ref
section
variable {X : Cx} {W : WX} {k : Nat} {f : Addr} {fd : FuncData} {ps : List Str} {gf : FF} {c : Str} {e : Expr} {es : List Expr} {fa : FA} {p pos : Pos}
theorem run_mkG {pins : List (Addr × Obj)} {σ : L2.St} {H : Hp} {s : Shared} {Q : VK} {us : List Value} {vs : List V} {C : Addr} (M : Mk X.K C f) (F : FnG X.prog X.w X.K X.mg X.base k f fd ps gf) (hr : Room (k + 1) X.A) (hgu : X.A.guards = some []) (hb : Binds X.K fd ps []) (tk : Takes X W)
    (I : Inv X pins σ H s) (rv : Vals vs us)
    (h : ∀ x dx, H x = none → H dx = none → dx ≠ x → spF X.K ps.length gf (.ref x :: vs) (upd (upd H dx (.own x)) x (.ins C dx [])) (fun v H2 => v = .non ∧ Q (.ref x) H2) (fun c d H' => W c d σ H')) :
    wpAny (model X.prog X.w) X.A (call (.ref C) us) (EP X pins σ Q) X.xe s := by
  have hq := h (s.heap.objs.size + 1) s.heap.objs.size (I.hok.fresh (Nat.le_succ _)) (I.hok.fresh (Nat.le_refl _)) (Nat.ne_of_lt (Nat.lt_succ_self _))
  have J := Inv.made (C := C) I
  have rr : Vals (V.ref (s.heap.objs.size + 1) :: vs) (Value.ref (s.heap.objs.size + 1) :: us) := .cons rfl rv
  have many : (Value.ref (s.heap.objs.size + 1) :: us).length = ps.length := by
    obtain ⟨_, _, _, _, _, _, hl, _⟩ := id hq
    rw [← rr.length]
    exact hl
  have bb := hb _ (Value.ref (s.heap.objs.size + 1) :: us) J.kIn (by rw [List.append_nil]; exact many)
  rw [List.append_nil] at bb
  refine wpAny_call (make_map (f := f) I.kIn M.makes M.init (beq_iff_eq.mp M.fn) (codeAny_mono (F.run _ X.stack _ _ _ _ _ _ _ (hr.make C us []) (make_guards hgu) (J.env0.make C us []) bb rr hq) ?_))
  intro res s' hres
  match res, hres with
  | .error e, hres => exact tk e s' (XE.of_call J (fun _ _ _ z => z) hres)
  | .ok (.ret u), hres =>
    obtain ⟨v, H', J3, ru, rfl, q3⟩ := J.after hres
    exact ⟨ru, ⟨V.ref (s.heap.objs.size + 1), H', J3, rfl, q3⟩⟩
theorem pf_mk {D : ClsD X.K X.mg c} (M : Mk X.K D.C f) (G : Gm X.prog X.w X.K X.mg X.base k f fd ps gf) (hr : Room (k + 1) X.A) (hgu : X.A.guards = some []) (hb : Binds X.K fd ps []) (hg : Gl X c) (tk : Takes X W) (ha : PAf X W (e :: es) fa)
    (hdb : (c == ("__debug__" : Str)) = false := by decide) (he : starEach (e :: es) X.env = (false, eval e X.env) :: starEach es X.env := by rfl) (hpl : (backTo pos (starEach es X.env)).any (·.1) = false := by rfl) :
    PF X W (.Call (.Name c p) (e :: es) [] pos) (eMk c gf fa) := by
  refine ⟨fun pins s σ H Q I h => ?_⟩
  obtain ⟨g, ρ, w, hK, r, en, q⟩ := h
  have want := lX_bind (R := DqA) (T := fun vs H1 => ∀ x dx, H1 x = none → H1 dx = none → dx ≠ x → spF X.K ps.length gf (.ref x :: vs) (upd (upd H1 dx (.own x)) x (.ins D.C dx [])) (fun v H2 => v = .non ∧ Q (.ref x) H2) (fun c d H' => W c d σ H')) hK r en q fun vs H1 g1 as w1 x r1 e1 dvs z => by
    intro y dx hy hdx hne
    have hK1 := x.k.trans hK
    obtain ⟨rn, dn⟩ := newI r1 (by rw [hK1]; exact D.at_) hy hdx hne
    have dal : DqA (g1.al y) (.ref y :: vs) (rf w1.length :: as) := .cons dn (dvs.mono Gd.al_xt.toXt0 _ _)
    refine ⟨g1.al y, _, _, hK1, rn, dal, ?_, ?_⟩
    · rw [dal.length]
      by_cases h : (rf w1.length :: as).length = ps.length
      · exact h
      · rw [G.len _ _ h] at z; exact z.elim
    · cases hz : gf (rf w1.length :: as) (w1 ++ [.ins c []]) with
      | ok d w2 =>
        rw [hz] at z
        cases d with
        | none =>
          intro v H2 g' x' r' dv'
          cases dv'
          exact ⟨rfl, z _ H2 g' (Gd.al_xt.trans x') r' (dn.mono x'.toXt0 _ _)⟩
        | _ => exact z.elim
      | ex c' fs w2 =>
        rw [hz] at z
        exact fun dd H' g' x' r' xd => z dd H' g' (Gd.al_xt.trans x') r' xd
      | no => rw [hz] at z; exact z.elim
  refine wpAny_Call_Name_kw (ld_glob I hg D.mg_ ?_ hdb)
  refine PySem.W.callWith_K (h₀ := X.base) I.ok.mod.kin M.kp ?_ he hpl
  refine thn (ha.run pos pins s σ H _ I want) fun us s1 hs => ?_
  obtain ⟨vs, H1, I1, rv, q1⟩ := hs
  exact ⟨I1.kIn, run_mkG M G.fn hr hgu hb tk I1 rv q1⟩
end
/-! ### calls with keywords, with defaults -/
abbrev PKf (X : Cx) (W : WX) (kws : List Keyword) (f : FA) : Prop := PK X kws (lA X.K W f)
theorem pk_imp {X : Cx} {e : List Keyword} {t t' : TA} (h : PK X e t) (i : ∀ σ H Q, t' σ H Q → t σ H Q) : PK X e t' := ⟨fun p pins s σ H Q I q => h.run p pins s σ H Q I (i σ H Q q)⟩
/-- n values by position, those named ks: gD puts them in the parameters' order, defaults among them -/
structure KbD (K : PySem.W.Frag) (fd : FuncData) (ps : List Str) (n : Nat) (ks : List Str) (gD : List PyData → List PyData → List PyData) : Prop where
  ex : ∃ g gV, KBn K fd ps n ks g gV ∧ ∀ (G : Gd) (vs zs : List V) (as bs : List PyData), DqA G vs as → DqA G zs bs → vs.length = n → zs.length = ks.length → DqA G (gV vs zs) (gD as bs)
def eCallN (n m : Nat) (gD : List PyData → List PyData → List PyData) (gf : FF) (fa fk : FA) : FE := fun ρ w => (fa ρ w).bind fun as w1 => (fk ρ w1).bind fun bs w2 => Oc.on (as.length == n && bs.length == m) (gf (gD as bs) w2)
section
variable {X : Cx} {W : WX} {k n : Nat} {f : Addr} {fd : FuncData} {ps ks : List Str} {gf : FF} {gD : List PyData → List PyData → List PyData} {x : Str} {e : Expr} {es : List Expr} {kws : List Keyword} {fe : FE} {fa fk : FA} {p pos kpos : Pos} {nm : Option Str}
theorem pkf_nil : PKf X W [] aN := pk_imp pk_nil fun σ H Q ⟨g, ρ, w, hK, r, e, q⟩ => q [] H g (Xt.refl g) r .nil
theorem pkf_cons (ha : PF X W e fe) (hr : PKf X W kws fk) : PKf X W (⟨nm, e, kpos⟩ :: kws) (aC fe fk) := by
  refine pk_imp (pk_cons ha hr) fun σ H Q ⟨g, ρ, w, hK, r, e, q⟩ => ?_
  refine lX_bind hK r e q fun v H1 g1 d w1 x r1 e1 dv z => ?_
  refine lX_bind (x.k.trans hK) r1 e1 z fun vs H2 g2 ds w2 x2 r2 e2 dvs z2 => ?_
  exact z2 _ H2 g2 (Xt.refl _) r2 (.cons (dv.mono x2 _ _) dvs)
theorem run_GN {pins : List (Addr × Obj)} {σ : L2.St} {H : Hp} {s : Shared} {Q : VK} {us ws : List Value} {vs zs : List V} {g : List Value → List Value → List Value} {gV : List V → List V → List V} (F : FnG X.prog X.w X.K X.mg X.base k f fd ps gf) (hr : Room k X.A) (hgu : X.A.guards = some []) (hb : KBn X.K fd ps n ks g gV) (tk : Takes X W)
    (I : Inv X pins σ H s) (rv : Vals vs us) (rz : Vals zs ws) (l1 : vs.length = n) (l2 : zs.length = ks.length) (h : spF X.K ps.length gf (gV vs zs) H Q (fun c d H' => W c d σ H')) : wpAny (model X.prog X.w) X.A (call (.ref f) us (ks.zip ws)) (EP X pins σ Q) X.xe s := by
  refine wpAny_call (codeAny_mono (F.run X.A X.stack s H _ _ _ Q _ hr hgu I.env0 (hb.to s us ws I.kIn (rv.length.symm.trans l1) (rz.length.symm.trans l2)) (hb.rel rv rz) h) ?_)
  intro res s' hq
  match res, hq with
  | .error e, hq => exact tk e s' (XE.of_call I (fun _ _ _ z => z) hq)
  | .ok (.ret u), hq => exact I.after hq
theorem callN_want {σ : L2.St} {H : Hp} {Q : VK} {g : Gd} {ρ : Ev} {w : Ws} {K : PySem.W.Frag} {gV : List V → List V → List V} (hlen : ∀ as w, as.length ≠ ps.length → gf as w = .no)
    (hv : ∀ (G : Gd) (vs zs : List V) (as bs : List PyData), DqA G vs as → DqA G zs bs → vs.length = n → zs.length = ks.length → DqA G (gV vs zs) (gD as bs)) (h : lE K W (eCallN n ks.length gD gf fa fk) σ H Q) :
    lA K W fa σ H fun vs H1 => lA K W fk σ H1 fun zs H2 => vs.length = n ∧ zs.length = ks.length ∧ spF K ps.length gf (gV vs zs) H2 Q (fun c d H' => W c d σ H') := by
  obtain ⟨g, ρ, w, hK, r, e, q⟩ := h
  refine lX_bind hK r e q fun vs H1 g1 as w1 x r1 e1 dvs z => ?_
  refine lX_bind (x.k.trans hK) r1 e1 z fun zs H2 g2 bs w2 x2 r2 e2 dzs z2 => ?_
  obtain ⟨hb, z2⟩ := z2.on
  rw [Bool.and_eq_true, beq_iff_eq, beq_iff_eq] at hb
  have dvs2 := dvs.mono x2.toXt0 _ _
  have l1 : vs.length = n := by rw [dvs.length]; exact hb.1
  have l2 : zs.length = ks.length := by rw [dzs.length]; exact hb.2
  have dal := hv g2 vs zs as bs dvs2 dzs l1 l2
  refine ⟨l1, l2, g2, w2, _, x2.k.trans (x.k.trans hK), r2, dal, ?_, ?_⟩
  · rw [dal.length]
    by_cases h : (gD as bs).length = ps.length
    · exact h
    · rw [hlen _ _ h] at z2; exact z2.elim
  · cases hz : gf (gD as bs) w2 with
    | ok d w3 => rw [hz] at z2; exact z2
    | ex c fs w3 => rw [hz] at z2; exact z2
    | no => rw [hz] at z2; exact z2
theorem pf_callN (G : Gm X.prog X.w X.K X.mg X.base k f fd ps gf) (hr : Room k X.A) (hgu : X.A.guards = some []) (hg : Gl X x) (hm : X.mg x = some (.ref f)) (hk : PySem.W.keepIn X.K (.ref f) = true) (kb : KbD X.K fd ps n ks gD) (tk : Takes X W) (ha : PAf X W (e :: es) fa) (hkw : PKf X W kws fk)
    (hall : (backToKw pos (keywordEach kws X.env)).all (·.1.isSome) = true := by rfl) (hks : (backToKw pos (keywordEach kws X.env)).filterMap (·.1) = ks := by rfl) (hdb : (x == ("__debug__" : Str)) = false := by decide) (he : starEach (e :: es) X.env = (false, eval e X.env) :: starEach es X.env := by rfl) (hpl : ((backTo pos (starEach (e :: es) X.env)).any (·.1) || (backToKw pos (keywordEach kws X.env)).any (·.1.isNone)) = false := by rfl) :
    PF X W (.Call (.Name x p) (e :: es) kws pos) (eCallN n ks.length gD gf fa fk) := by
  obtain ⟨g, gV, kbn, hv⟩ := kb.ex
  refine ⟨fun pins s σ H Q I h => ?_⟩
  have want := callN_want (g := ⟨X.K, fun _ => none, fun _ => none, fun _ => 0, 0⟩) (ρ := []) (w := []) G.len hv h
  refine wpAny_Call_Name_kw (ld_glob I hg hm ?_ hdb)
  refine PySem.W.callWith_KW (h₀ := X.base) I.ok.mod.kin hk hall (thn (ha.run pos pins s σ H _ I want) fun us s1 hs => ?_) hpl he
  obtain ⟨vs, H1, I1, rv, q1⟩ := hs
  refine thn (hkw.run pos pins s1 σ H1 _ I1 q1) fun ws s2 hs2 => ?_
  obtain ⟨zs, H2, I2, rz, l1, l2, q2⟩ := hs2
  rw [hks]
  exact ⟨I2.kIn, run_GN G.fn hr hgu kbn tk I2 rv rz l1 l2 q2⟩
theorem pf_callN0 (G : Gm X.prog X.w X.K X.mg X.base k f fd ps gf) (hr : Room k X.A) (hgu : X.A.guards = some []) (hg : Gl X x) (hm : X.mg x = some (.ref f)) (hk : PySem.W.keepIn X.K (.ref f) = true) (kb : KbD X.K fd ps n ks gD) (tk : Takes X W) (hkw : PKf X W kws fk)
    (hall : (backToKw pos (keywordEach kws X.env)).all (·.1.isSome) = true := by rfl) (hks : (backToKw pos (keywordEach kws X.env)).filterMap (·.1) = ks := by rfl) (hdb : (x == ("__debug__" : Str)) = false := by decide) (hpl : ((backTo pos (starEach [] X.env)).any (·.1) || (backToKw pos (keywordEach kws X.env)).any (·.1.isNone)) = false := by rfl) :
    PF X W (.Call (.Name x p) [] kws pos) (eCallN n ks.length gD gf aN fk) := by
  obtain ⟨g, gV, kbn, hv⟩ := kb.ex
  refine ⟨fun pins s σ H Q I h => ?_⟩
  have want := callN_want (g := ⟨X.K, fun _ => none, fun _ => none, fun _ => 0, 0⟩) (ρ := []) (w := []) G.len hv h
  obtain ⟨gg, ρ, w, hK, r, en, q⟩ := want
  have q1 := q [] H gg (Xt.refl _) r .nil
  refine wpAny_Call_Name_kw (ld_glob I hg hm ?_ hdb)
  refine PySem.W.callWith_KW0 (h₀ := X.base) I.ok.mod.kin hk hall ?_ hpl
  refine thn (hkw.run pos pins s σ H _ I q1) fun ws s2 hs2 => ?_
  obtain ⟨zs, H2, I2, rz, l1, l2, q2⟩ := hs2
  rw [hks]
  exact ⟨I2.kIn, run_GN (us := []) (vs := []) G.fn hr hgu kbn tk I2 .nil rz l1 l2 q2⟩
end
end Td

set_option Elab.async false
set_option linter.all false
set_option maxRecDepth 100000
set_option maxHeartbeats 4000000
namespace Td
open PySem L2 PySem.Spec PyProof.Rows
/-! ### f'..' -/
section
variable {X : Cx} {W : WX}
def fmtD (_ : Ws) : PyData → Option PyData
  | .str y => if szOk y.length then some (.str y) else none
  | .int i => if decide (i.natAbs.log2 < 1920) then some (.str (toString i)) else none
  | _ => none
theorem pf_fmt {e : Expr} {f : FE} {pos : Pos} (h : PF X W e f) : PF X W (.FormattedValue e (-1) none pos) (eU fmtD f) := by
  refine pe_imp (pe_fmt h) fun σ H Q ⟨g, ρ, w, hK, r, e, q⟩ => ?_
  refine lX_bind hK r e q fun v H1 g1 d w1 x r1 e1 dv z => ?_
  cases dv with
  | str y =>
    simp only [fmtD] at z
    split at z
    · rename_i hs
      exact .inl ⟨y, rfl, of_decide_eq_true hs, z _ H1 g1 (Xt.refl _) r1 (.str _)⟩
    · exact z.elim
  | int i =>
    simp only [fmtD] at z
    split at z
    · rename_i hs
      exact .inr ⟨i, rfl, of_decide_eq_true hs, z _ H1 g1 (Xt.refl _) r1 (.str _)⟩
    · exact z.elim
  | _ => exact z.elim
/-- the parts, each a text -/
def jsF : List FE → Str → Ev → Ws → Oc Str
  | [], acc, _, w => .ok acc w
  | f :: fs, acc, ρ, w => (f ρ w).bind fun d w1 => match d with
    | .str y => Oc.on (szOk (acc ++ y).length) (jsF fs (acc ++ y) ρ w1)
    | _ => .no
def eJs (fs : List FE) : FE := fun ρ w => (jsF fs Str.empty ρ w).bind fun s w1 => .ok (.str s) w1
inductive PJf (X : Cx) (W : WX) : List Expr → List FE → Prop
  | nil : PJf X W [] []
  | cons {e : Expr} {f : FE} {es : List Expr} {fs : List FE} (h : PF X W e f) (r : PJf X W es fs) : PJf X W (e :: es) (f :: fs)
theorem PJf.pj {es : List Expr} {fs : List FE} (h : PJf X W es fs) : PJ X es (fs.map fun f => lE X.K W f) := by
  induction h with
  | nil => exact .nil
  | cons a b ih => exact .cons a ih
theorem js_of {K : PySem.W.Frag} {σ : L2.St} {Q : VK} : ∀ (fs : List FE) (acc : Str) (g : Gd) (ρ : Ev) (w : Ws) (H : Hp), g.K = K → Rp g H w → EnR g σ ρ → oX W σ Dq g Q ((jsF fs acc ρ w).bind fun s w1 => .ok (.str s) w1) → tJs (fs.map fun f => lE K W f) acc σ H fun out H1 => Q (.str out) H1
  | [], acc, g, ρ, w, H, hK, r, e, q => q _ H g (Xt.refl _) r (.str _)
  | f :: fs, acc, g, ρ, w, H, hK, r, e, q => by
    have q' : oX W σ Dq g Q ((f ρ w).bind fun d w1 => (match d with
      | .str y => Oc.on (szOk (acc ++ y).length) (jsF fs (acc ++ y) ρ w1)
      | _ => .no : Oc Str).bind fun s w1 => .ok (.str s) w1) := by
      unfold jsF at q
      cases hz : f ρ w with
      | ok d w1 => rw [hz] at q; exact q
      | ex c fs' w1 => rw [hz] at q; exact q
      | no => rw [hz] at q; exact q
    refine lX_bind hK r e q' fun v H1 g1 d w1 x r1 e1 dv z => ?_
    cases dv with
    | str y =>
      simp only at z
      cases hb : szOk (acc ++ y).length with
      | false => rw [hb] at z; exact z.elim
      | true =>
        rw [hb] at z
        exact ⟨y, rfl, of_decide_eq_true hb, js_of fs (acc ++ y) g1 ρ w1 H1 (x.k.trans hK) r1 e1 z⟩
    | _ => exact z.elim
theorem pf_joined {v1 v2 : Expr} {rest : List Expr} {fs : List FE} {pos : Pos} (h : PJf X W (v1 :: v2 :: rest) fs) : PF X W (.JoinedStr (v1 :: v2 :: rest) pos) (eJs fs) :=
  pe_imp (pe_joined h.pj) fun σ H Q ⟨g, ρ, w, hK, r, e, q⟩ => js_of fs Str.empty g ρ w H hK r e q

/-! ### s.join(xs) -/
def strsOf : List PyData → Option (List Str)
  | [] => some []
  | .str s :: r => (strsOf r).map (s :: ·)
  | _ :: _ => none
theorem strsOf_ok {g : Gd} : ∀ {vs : List V} {ds : List PyData} {ss : List Str}, DqA g vs ds → strsOf ds = some ss → vs = ss.map V.str
  | _, _, _, .nil, e => by cases e; rfl
  | _, _, _, .cons h t, e => by
    cases h with
    | str s =>
      obtain ⟨ss, hs, rfl⟩ := Option.map_eq_some_iff.mp e
      rw [strsOf_ok t hs]
      rfl
    | _ => cases e
def seqOf (w : Ws) : PyData → Option (List PyData)
  | .tuple ds => some ds
  | d => lstOf w d
def joinD (w : Ws) (a b : PyData) : Option PyData := match a with
  | .str s => match (seqOf w b).bind strsOf with
    | some ys => if decide ((ys.map (·.length)).sum + ys.length * s.length ≤ 16777216) then some (.str (Txt.join s ys)) else none
    | none => none
  | _ => none
theorem seqOf_ok {g : Gd} {H : Hp} {w : Ws} (r : Rp g H w) {v : V} {d : PyData} (h : Dq g v d) {ds : List PyData} (e : seqOf w d = some ds) : ∃ a xs, v = .ref a ∧ (SqL g.K H a xs ∨ SqT g.K H a xs) ∧ DqA g xs ds := by
  unfold seqOf at e
  split at e
  · cases e
    cases h with
    | tup a b => exact ⟨_, _, rfl, .inr (r.sqT a), b⟩
  · obtain ⟨a, xs, e1, e2, e3⟩ := lstOf_ok r h e
    exact ⟨a, xs, e1, .inl e2, e3⟩
def eJn (fo fe : FE) : FE := fun ρ w => (fo ρ w).bind fun a w1 => Oc.on (match a with | .str _ => true | _ => false) ((fe ρ w1).bind fun b w2 => Oc.of (joinD w2 a b) w2)
theorem pf_join {o e : Expr} {fo fe : FE} {apos pos : Pos} (ho : PF X W o fo) (he : PF X W e fe) (hs : starEach [e] X.env = [(false, eval e X.env)] := by rfl) (hbase : attributeBase o "join" X.env (eval o X.env) = eval o X.env := by rfl) (hline : (apos.endLine == pos.line) = true := by rfl) :
    PF X W (.Call (.Attribute o "join" apos) [e] [] pos) (eJn fo fe) := by
  refine pe_imp (pe_join ho he hs hbase hline) fun σ H Q ⟨g, ρ, w, hK, r, e, q⟩ => ?_
  refine lX_bind hK r e q fun v H1 g1 d w1 x r1 e1 dv z => ?_
  obtain ⟨hb, z⟩ := z.on
  cases dv with
  | str s =>
    refine ⟨⟨_, rfl⟩, ?_⟩
    refine lX_bind (x.k.trans hK) r1 e1 z fun u H2 g2 b w2 x2 r2 e2 du z2 => ?_
    unfold joinD at z2
    simp only at z2
    cases hz : (seqOf w2 b).bind strsOf with
    | none => rw [hz] at z2; exact z2.elim
    | some ys =>
      rw [hz] at z2
      simp only at z2
      split at z2
      · rename_i hl
        obtain ⟨ds, h1, h2⟩ := Option.bind_eq_some_iff.mp hz
        obtain ⟨a, xs, rfl, sq, da⟩ := seqOf_ok r2 du h1
        have ex := strsOf_ok da h2
        subst ex
        have hK2 := x2.k.trans (x.k.trans hK)
        exact ⟨s, a, ys, rfl, rfl, hK2 ▸ sq, of_decide_eq_true hl, z2 _ H2 g2 (Xt.refl _) r2 (.str _)⟩
      · exact z2.elim
  | _ => cases hb
/-! ### str(x) of a text, too -/
def toStrT (w : Ws) : List PyData → Option PyData
  | [.str z] => some (.str z)
  | ds => toStr w ds
theorem call_strT : CallR X (.type "str") (rDN X.K toStrT) := by
  intro pins s σ H xs us Q I rv ⟨g, w, ds, z, hK, r, dx, hz, q⟩
  unfold toStrT at hz
  split at hz
  · cases dx with
    | cons d0 dn =>
      cases dn; cases d0; cases hz
      obtain ⟨u, rfl, rb⟩ := vals1 rv
      obtain ⟨t, rfl⟩ := rb
      exact PySem.P.str_of_str ⟨.str _, H, I, ⟨t, rfl⟩, q _ H g (Xt.refl g) r (.str _)⟩
  · exact call_strX pins s σ H _ us Q I rv ⟨g, w, ds, z, hK, r, dx, hz, q⟩
/-! ### xs * k of a list -/
def mulL (w : Ws) (d e : PyData) : Option PyData := match lstOf w d, e with
  | some xs, .int k => if decide (0 ≤ k ∧ k < 2 ^ 20 ∧ xs.length * k.toNat ≤ 16777216) then some (.list (List.replicate k.toNat xs).flatten) else none
  | _, _ => none
theorem op_mulL : OpR X (binaryOp .Mult) (rD2 X.K mulL) := by
  intro pins s σ H x y v u Q I rx ry ⟨g, w, d, e, z, hK, r, dx, dy, hz, q⟩
  unfold mulL at hz
  split at hz
  · rename_i ds k hl
    split at hz
    · rename_i hs
      cases hz
      cases dy
      obtain ⟨h1, h2, h3⟩ := of_decide_eq_true hs
      obtain ⟨a, xs, rfl, sq, da⟩ := lstOf_ok r dx hl
      cases rx
      obtain ⟨t, rfl⟩ := ry
      obtain ⟨its, rv, ⟨⟨c1, d1, t1, s1⟩, n1, g1, hc1, hd1, ht1⟩, _⟩ := I.list (hK ▸ sq)
      simp only at hc1 hd1 ht1
      subst hc1 hd1 ht1
      have hlen := rv.length
      have hsz : its.toArray.size * k.toNat ≤ 16777216 := by rw [List.size_toArray, ← hlen, da.length]; exact h3
      refine wpAny_binaryOp_repeat_ref (T := "list") (U := "int") (by decide) ⟨_, g1, rfl⟩ (fun s' => typeIs_int s' k t) noFill_list_mul F.fills_int_mul F.slot_int_rmul repeat_list F.slot_int_index.lookup ?_
      refine call_meets F.slot_int_rmul (typeIs_int s k t) F.entry_int_rmul (F.args_int_rmul_2 _ _) (lm_int_rmul_list_any k t a its.toArray n1 none s1) ⟨g1, rfl, ⟨_, g1, rfl⟩, ?_⟩
      refine call_meets F.slot_list_mul ⟨_, g1, rfl⟩ F.entry_list_mul (F.args_list_mul_2 _ _) (lm_list_mul_any a its.toArray n1 none s1 k t (by simp [Builtin.List.listFitsIndex]; omega) (by omega) (by simp [Builtin.List.listTooLong, sizeLine]; simpa using hsz)) ⟨g1, ?_⟩
      have hnew : List.foldl (fun x1 x2 => x1 ++ x2) #[] (List.replicate (if its.toArray.isEmpty = true then 0 else k.toNat) its.toArray) = (List.replicate k.toNat its).flatten.toArray := listMul_foldl_if _ _
      rw [hnew]
      have hz2 : (List.replicate k.toNat xs).flatten.length ≤ sizeLine := by
        rw [lm_len_rep_flat, Nat.mul_comm, sizeLine_eq, da.length]; exact h3
      have hp : H s.heap.objs.size = none := I.fresh
      exact ⟨.ref _, _, I.lnew (t' := s.toks) (rv.rep k.toNat) hz2, rfl, q _ _ _ (Xt.put (r.fnone hp)) (r.put hp) (newL r hp (da.rep _))⟩
    · cases hz
  · cases hz
end
/-! ### enumerate(text) -/
def Ites (z : Str) : It := ⟨fun i _ => i < z.cps.size, fun i H v H' => ∃ T c, v = .ref T ∧ H T = none ∧ z.cps[i]? = some c ∧ H' = upd H T (.tup [.int (i : Nat), .str ⟨#[c]⟩]), fun i _ => i = z.cps.size⟩
theorem turn_enumS {P : Program} {w : World} {K : PySem.W.Frag} {elts : List Expr} {kk : Nat} {tpos : Pos} (z : Str) (t : Tok) (e it : Addr) :
    Turn P w K (.Tuple elts kk tpos) (Ites z) [e, it] e (fun i h => (∃ old, IsEnum h e it ((i : Nat) : Int) old) ∧ h.IsStrIter it (strIterType z) z t i ∧ e ≠ it) where
  mem := by simp
  obj := fun i h ⟨⟨old, he⟩, ⟨o, ho, hc, hd⟩, _⟩ b hb => by
    rcases (by simpa using hb : b = e ∨ b = it) with q | q
    · subst q; exact ⟨_, he, fun v q => nomatch q⟩
    · subst q; exact ⟨o, ho, fun v q => by rw [hd] at q; cases q⟩
  keep := fun i h h' ⟨⟨old, he⟩, ⟨o, ho, hr⟩, hne⟩ k => ⟨⟨old, k e (by simp) _ he⟩, ⟨o, k it (by simp) _ ho, hr⟩, hne⟩
  item := by
    intro X hP hw hK hc i pins s σ H E I hf st hg
    subst hP hw hK
    obtain ⟨⟨old, he⟩, hit, hne⟩ := st
    have hel : e < s.heap.objs.size := Heap.lt_size he
    have hil : it < s.heap.objs.size := by obtain ⟨_, q, _⟩ := hit; exact Heap.lt_size q
    have hlt : i < z.cps.size := hg
    refine wpAny_pyNext_enum_itemD (Draws.text (A := X.A.in1) (I.ok.hd hc) it z t) he hit hlt hne (by simp [hne]) fun x h' tk hP ho hit' hT hsz hk => ?_
    obtain ⟨c, u, hcc, rfl⟩ := hP
    refine ⟨_, rfl, wpAny_letOwnedTupleGo_enum (s := { s with heap := h', toks := tk + 1 }) ho fun h'' he' sb => ?_⟩
    have hT2 : h''.get? s.heap.objs.size = some { cls := .type "tuple", data := .seq #[.int i tk, .str ⟨#[c]⟩ u] } := (sb.2 _ (Nat.ne_of_gt hel)).trans hT
    have new : ObjOk X.prog X.w (upd H s.heap.objs.size (.tup [.int (i : Nat), .str ⟨#[c]⟩])) h'' s.heap.objs.size (.tup [.int (i : Nat), .str ⟨#[c]⟩]) :=
      ⟨by show 2 ≤ sizeLine; decide, _, .cons ⟨tk, rfl⟩ (.cons ⟨u, rfl⟩ .nil), ⟨_, hT2, rfl, _, rfl⟩⟩
    have J : Inv X pins σ (upd H s.heap.objs.size (.tup [.int (i : Nat), .str ⟨#[c]⟩])) { s with heap := h'', toks := tk + 1 } :=
      I.turnedNew (ch := [e, it]) (fun b ob hb q => (sb.2 b (fun y => hb (by simp [y]))).trans (hk b ob (fun y => hb (by simp [y])) (fun y => hb (by simp [y])) q)) hf (Nat.le_refl _) new
    refine ⟨.ref s.heap.objs.size, _, J, rfl, ⟨_, c, rfl, I.hok.fresh (Nat.le_refl _), hcc, rfl⟩, ⟨⟨.str ⟨#[c]⟩ u, ?_⟩, ?_, hne⟩, fun b hb => ?_⟩
    · rw [show ((i + 1 : Nat) : Int) = (i : Int) + 1 by omega]; exact he'
    · obtain ⟨o, ho', hr⟩ := hit'
      exact ⟨o, (sb.2 it (Ne.symm hne)).trans ho', hr⟩
    · have hb' : b < s.heap.objs.size := by
        rcases (by simpa using hb : b = e ∨ b = it) with y | y
        · subst y; exact hel
        · subst y; exact hil
      rw [upd_ne (Nat.ne_of_lt hb')]
      exact (hf b hb).1
  done := by
    intro X hP hw hK hc i pins s σ H E I hf st hg
    subst hP hw hK
    obtain ⟨⟨old, he⟩, hit, hne⟩ := st
    obtain ⟨f0, f1, f2, f3, f4, f5⟩ := hf it (by simp)
    have hi : i = z.cps.size := hg
    subst hi
    exact wpAny_pyNext_enum_endD (Draws.text (A := X.A.in1) (I.ok.hd hc) it z t) he hit fun h' eb => ⟨rfl, I.turned (t' := s.toks) (fun b o hb q => eb b o hb q) f0 f1 f3 f4 f5⟩
  self := fun A i s Q E ⟨⟨_, he⟩, _⟩ h => wpAny_pyIter_enum he h
/-- for k, c in enumerate(x): a list, a text -/
def enD (i : Nat) : List PyData → List PyData
  | [] => []
  | d :: ds => .tuple [.int (i : Nat), d] :: enD (i + 1) ds
theorem enD_len : ∀ (ds : List PyData) (i : Nat), (enD i ds).length = ds.length
  | [], _ => rfl
  | _ :: ds, i => congrArg (· + 1) (enD_len ds (i + 1))
theorem enD_get : ∀ (ds : List PyData) (i j : Nat) (d : PyData), ds[j]? = some d → (enD i ds)[j]? = some (.tuple [.int ((i + j : Nat) : Int), d])
  | [], _, _, _, h => by simp at h
  | _ :: _, i, 0, d, h => by simp at h; simp [enD, h]
  | _ :: ds, i, j + 1, d, h => by
    have := enD_get ds (i + 1) j d (by simpa using h)
    rw [show i + 1 + j = i + (j + 1) by omega] at this
    simpa [enD] using this
theorem wk_enS {g : Gd} {z : Str} : WkD (Ites z) g (enD 0 (chD z)) where
  stop := fun g' H w x r => by show _ = _; rw [enD_len]; simp [chD]
  go := fun g' H w i x r hi => by rw [enD_len] at hi; show i < z.cps.size; simpa [chD] using hi
  yld := fun g' H w i v H2 x r hi y => by
    obtain ⟨T, c, rfl, hT, hc, rfl⟩ := y
    have hd : (chD z)[i]? = some (.str ⟨#[c]⟩) := by simp [chD, hc]
    have he := enD_get (chD z) 0 i _ hd
    rw [Nat.zero_add] at he
    exact ⟨g'.put T (.tup [.int (i : Nat), .str ⟨#[c]⟩]), _, he, Xt.put (r.fnone hT), r.put hT, newT r hT (.cons (.int _) (.cons (.str _) .nil))⟩
theorem wk_enL {g : Gd} {a : Addr} {xs : List V} {ds : List PyData} (h : SqL g.K g.F a xs) (d : DqA g xs ds) : WkD (Ite g.K a) g (enD 0 ds) where
  stop := fun g' H w x r => by
    rw [enD_len, ← d.length]
    exact walk_enum.stops H (x.k ▸ r.sqL (x.sqL h))
  go := fun g' H w i x r hi => walk_enum.goes i H (by rw [enD_len, ← d.length] at hi; exact hi) (x.k ▸ r.sqL (x.sqL h))
  yld := fun g' H w i v H2 x r hi y => by
    rw [enD_len] at hi
    obtain ⟨T, u, b, rfl, hT, rfl, ha, hb⟩ := walk_enum.yields i H v H2 (by rw [d.length]; exact hi) (x.k ▸ r.sqL (x.sqL h)) y
    have hd := List.getElem?_eq_getElem hi
    obtain ⟨b', h3, h4⟩ := d.get hd
    have hb : xs[i]? = some b := hb
    have ha : some (V.int (i : Nat)) = some u := ha
    rw [hb] at h3
    cases h3
    cases ha
    have he := enD_get ds 0 i _ hd
    rw [Nat.zero_add] at he
    exact ⟨g'.put T (.tup [.int (i : Nat), b]), _, he, Xt.put (r.fnone hT), r.put hT, newT r hT (.cons (.int _) (.cons (h4.mono x _ _) .nil))⟩
def iEn (fa : FA) : FA := fun ρ w => (fa ρ w).bind fun ds w1 => match ds with
  | [.str z] => .ok (enD 0 (chD z)) w1
  | [.list xs] => .ok (enD 0 xs) w1
  | _ => .no
section
variable {X : Cx} {W : WX}
def iEnA (K : PySem.W.Frag) (ta : TA) : TI := fun σ H R => ta σ H fun vs H1 => (∃ z, vs = [.str z] ∧ R (Ites z) H1) ∨ ∃ a xs, vs = [.ref a] ∧ SqL K H1 a xs ∧ R (Ite K a) H1
theorem pi_enA {e : Expr} {ta : TA} {p pos tpos : Pos} {elts : List Expr} {kk : Nat} (hg : Gl X "enumerate") (hm : X.mg "enumerate" = none) (ha : PA X [e] ta) (hs : starEach [e] X.env = [(false, eval e X.env)] := by rfl) : PI X (.Tuple elts kk tpos) (.Call (.Name "enumerate" p) [e] [] pos) (iEnA X.K ta) := by
  refine ⟨fun pins s σ H R I h => ?_⟩
  refine Call_ (ld_blt I hg hm boot_enumerate (PyProof.Rows.callWith_type1 (thn (ha.run pos pins s σ H _ I h) fun us s1 hv => ?_) hs rfl))
  obtain ⟨vs, H1, I1, r1, q1⟩ := hv
  have apart : ∀ b, b ∈ [s1.heap.objs.size + 1, s1.heap.objs.size] → FpOk X pins H1 b := fun b hb => by
    have hle : s1.heap.objs.size ≤ b := by
      rcases (by simpa using hb : b = s1.heap.objs.size + 1 ∨ b = s1.heap.objs.size) with y | y
      · rw [y]; exact Nat.le_add_right _ _
      · rw [y]; exact Nat.le_refl _
    exact I1.fpOk hle (I1.hok.fresh hle)
  rcases q1 with ⟨z, rfl, q⟩ | ⟨a, xs, rfl, hq, q⟩
  · obtain ⟨u, rfl, ⟨t, rfl⟩⟩ := vals1 r1
    refine call_enumerate_str fun h' he hit hsz hk => wpAny_pyIter_enum he ?_
    exact ⟨_, [s1.heap.objs.size + 1, s1.heap.objs.size], _, _, H1, rfl, I1.kept (t' := s1.toks) hk, turn_enumS z t _ _, ⟨⟨.none, he⟩, hit, Nat.succ_ne_self _⟩, apart, q⟩
  · obtain ⟨u, rfl, ru⟩ := vals1 r1
    cases ru
    obtain ⟨its, rv, pl, hz⟩ := I1.list hq
    refine call_enumerate_list pl.isList fun h' he hit hsz hk => wpAny_pyIter_enum he ?_
    exact ⟨_, [s1.heap.objs.size + 1, s1.heap.objs.size], _, _, H1, rfl, I1.kept (t' := s1.toks) hk, turn_enum a _ _, ⟨⟨.none, he⟩, hit, Nat.succ_ne_self _⟩, apart, q⟩
theorem pif_enum {e : Expr} {fa : FA} {p pos tpos : Pos} {elts : List Expr} {kk : Nat} (hg : Gl X "enumerate") (hm : X.mg "enumerate" = none) (ha : PAf X W [e] fa) (hs : starEach [e] X.env = [(false, eval e X.env)] := by rfl) : PIf X W (.Tuple elts kk tpos) (.Call (.Name "enumerate" p) [e] [] pos) (iEn fa) := by
  refine pi_imp (pi_enA hg hm ha hs) fun σ H R ⟨g, ρ, w, hK, r, e, q⟩ => ?_
  refine lX_bind hK r e q fun v H1 g1 d w1 x r1 e1 dv z => ?_
  have hK1 := x.k.trans hK
  split at z
  · cases dv with
    | cons d0 dn =>
      cases dn; cases d0
      exact .inl ⟨_, rfl, z _ H1 g1 (Xt.refl _) r1 wk_enS⟩
  · cases dv with
    | cons d0 dn =>
      cases dn
      cases d0 with
      | lst sq da => exact .inr ⟨_, _, rfl, hK1 ▸ r1.sqL sq, hK1 ▸ z _ H1 g1 (Xt.refl _) r1 (wk_enL sq da)⟩
  · exact z.elim
/-- nothing is said of what cannot come -/
theorem psf_no {st : Stmt} : PSf X W st (fun _ _ => .no) := ⟨fun pins s σ H D I ⟨g, ρ, w, hK, r, e, q⟩ => q.elim⟩
end
end Td

set_option Elab.async false
set_option linter.all false
set_option maxRecDepth 100000
set_option maxHeartbeats 4000000
namespace Td
open PySem L2 PySem.Spec PyProof.Rows
/-! ### how a call puts its values: 0 by position, 1 by keyword, 2 a default -/
def pick {α : Type} (us mv ws : List α) : Nat → Nat → Option α
  | 0, i => us[i]?
  | 1, i => ws[i]?
  | _, i => mv[i]?
def arr {α : Type} : List (Nat × Nat) → List α → List α → List α → List α
  | [], _, _, _ => []
  | (t, i) :: r, us, mv, ws => match pick us mv ws t i with
    | some x => x :: arr r us mv ws
    | none => arr r us mv ws
theorem vals_opt {vs : List V} {us : List Value} (h : Vals vs us) (i : Nat) : (vs[i]? = none ∧ us[i]? = none) ∨ ∃ v u, vs[i]? = some v ∧ us[i]? = some u ∧ RelV v u := by
  by_cases hi : i < vs.length
  · obtain ⟨u, hu, r⟩ := h.get (List.getElem?_eq_getElem hi)
    exact .inr ⟨_, u, List.getElem?_eq_getElem hi, hu, r⟩
  · exact .inl ⟨List.getElem?_eq_none (by omega), List.getElem?_eq_none (by rw [← h.length]; omega)⟩
theorem arr_vals {vs mz zs : List V} {us mv ws : List Value} (h1 : Vals vs us) (h2 : Vals mz mv) (h3 : Vals zs ws) : ∀ srcs : List (Nat × Nat), Vals (arr srcs vs mz zs) (arr srcs us mv ws)
  | [] => .nil
  | (t, i) :: r => by
    have ih := arr_vals h1 h2 h3 r
    have pk : (pick vs mz zs t i = none ∧ pick us mv ws t i = none) ∨ ∃ v u, pick vs mz zs t i = some v ∧ pick us mv ws t i = some u ∧ RelV v u := match t with
      | 0 => vals_opt h1 i
      | 1 => vals_opt h3 i
      | _ + 2 => vals_opt h2 i
    rw [arr, arr]
    rcases pk with ⟨e1, e2⟩ | ⟨v, u, e1, e2, q⟩
    · rw [e1, e2]; exact ih
    · rw [e1, e2]; exact .cons q ih
theorem dqa_opt {g : Gd} {vs : List V} {us : List PyData} (h : DqA g vs us) (i : Nat) : (vs[i]? = none ∧ us[i]? = none) ∨ ∃ v u, vs[i]? = some v ∧ us[i]? = some u ∧ Dq g v u := by
  by_cases hi : i < us.length
  · obtain ⟨v, hv, r⟩ := h.get (List.getElem?_eq_getElem hi)
    exact .inr ⟨v, _, hv, List.getElem?_eq_getElem hi, r⟩
  · exact .inl ⟨List.getElem?_eq_none (by rw [h.length]; omega), List.getElem?_eq_none (by omega)⟩
theorem arr_dqa {g : Gd} {vs mz zs : List V} {us mv ws : List PyData} (h1 : DqA g vs us) (h2 : DqA g mz mv) (h3 : DqA g zs ws) : ∀ srcs : List (Nat × Nat), DqA g (arr srcs vs mz zs) (arr srcs us mv ws)
  | [] => .nil
  | (t, i) :: r => by
    have ih := arr_dqa h1 h2 h3 r
    have pk : (pick vs mz zs t i = none ∧ pick us mv ws t i = none) ∨ ∃ v u, pick vs mz zs t i = some v ∧ pick us mv ws t i = some u ∧ Dq g v u := match t with
      | 0 => dqa_opt h1 i
      | 1 => dqa_opt h3 i
      | _ + 2 => dqa_opt h2 i
    rw [arr, arr]
    rcases pk with ⟨e1, e2⟩ | ⟨v, u, e1, e2, q⟩
    · rw [e1, e2]; exact ih
    · rw [e1, e2]; exact .cons q ih
/-- no default is missing -/
theorem kbD_plain {K : PySem.W.Frag} {fd : FuncData} {ps ks : List Str} {n : Nat} (srcs : List (Nat × Nat)) (h : ∀ us ws : List Value, us.length = n → ws.length = ks.length → bindArgs fd ⟨us, ks.zip ws⟩ = pure (ps.zip (arr srcs us [] ws))) : KbD K fd ps n ks (fun as bs => arr srcs as [] bs) :=
  ⟨fun us ws => arr srcs us [] ws, fun vs zs => arr srcs vs [] zs, ⟨fun s us ws _ h1 h2 => .of_eq (h us ws h1 h2), fun r1 r2 => arr_vals r1 .nil r2 srcs⟩, fun G vs zs as bs d1 d2 _ _ => arr_dqa d1 .nil d2 srcs⟩
/-- ms: the keyword-only ones that lack -/
theorem kbD_kw {K : PySem.W.Frag} {x qual : Str} {params : Arguments} {body : List Stmt} {scope : Scope} {kws ms : List (Str × V)} {f : Addr} {fd : FuncData} {ps ks : List Str} {n : Nat} {des : List PyData} (srcs : List (Nat × Nat)) (F : FunD K x qual params body scope [] kws f fd) (hk : kws ≠ []) (hms : ∀ q ∈ ms, q ∈ kws) (hdd : ∀ G : Gd, DqA G (ms.map (·.2)) des)
    (h : ∀ (D : Addr) (doc pm : Value) (an : Option Addr) (cdv ct : Value) (us mv ws : List Value), us.length = n → mv.length = ms.length → ws.length = ks.length →
      KwChain D ((ms.map (·.1)).zip mv) (bindArgs (PySem.W.fnOf x qual params body scope .none (.ref D) doc pm an cdv ct) ⟨us, ks.zip ws⟩) (ps.zip (arr srcs us mv ws))) : KbD K fd ps n ks (fun as bs => arr srcs as des bs) := by
  obtain ⟨mv, kb⟩ := FunD.kbinds0 F n ks ms (fun {α} (us mv ws : List α) => arr srcs us mv ws) hk hms (fun h1 h2 h3 => arr_vals h1 h2 h3 srcs) h
  exact ⟨_, _, kb, fun G vs zs as bs d1 d2 _ _ => arr_dqa d1 (hdd G) d2 srcs⟩
/-- the body of a class -/
def cbody : Stmt → List Stmt
  | .ClassDef (body := b) .. => b
  | _ => []
/-- a def of the text whose parameters are not all by position -/
structure DefA (K : PySem.W.Frag) (mg : Str → Option Value) (x : Str) (st : Stmt) where
  f : Addr
  fd : FuncData
  fn : Fun K x x st f fd
  at_ : mg x = some (.ref f)
theorem Gx.gm {P : Program} {w : World} {K : PySem.W.Frag} {mg : Str → Option Value} {base : Heap} {k : Nat} {x : Str} {st : Stmt} {ps : List Str} {D : DefAt K mg x st ps} {gf : FF} (G : Gx P w K mg base k D gf) : Gm P w K mg base k D.f D.fd ps gf := ⟨G.fn, G.len⟩
theorem ga_of {P : Program} {w : World} {K : PySem.W.Frag} {mg : Str → Option Value} {base : Heap} {x : Str} {st : Stmt} {N ps : List Str} {k : Nat} {bf : FS} (D : DefA K mg x st) (S : FnScope N ps (defScope st))
    (hbody : ∀ (cdv : Value) (A : Around) (outer : List Env) (s : Shared) (H : Hp) (E : XK), Room k (A.deeper (envOfC x (defScope st) s.heap.objs.size D.f cdv)) → A.guards = some [] →
      PSsf (cxOf (CX P w) P w K mg base N x (defScope st) D.f cdv A outer s H E) (fun c d _ H => E c d H) (defBody st) bf) : Gm P w K mg base (k + 1) D.f D.fd ps (defF N.length ps.length bf) := gm_of D.fn S hbody
theorem funD_mk {K : PySem.W.Frag} {x qual : Str} {st : Stmt} {kws : List (Str × V)} {f D : Addr} {oc : Value} {od an : Option Addr} {osl : Array (Option Value)} {doc pm cdv ct : Value}
    (l : K.lookup f = some ⟨oc, od, .func (PySem.W.fnOf x qual (defArgs st) (defBody st) (defScope st) .none (.ref D) doc pm an cdv ct), osl⟩) (c : PySem.W.codeIn K cdv qual = true) (k : PySem.W.keepIn K (.ref f) = true) (hk : ∀ q ∈ kws, ∃ u, PySem.W.nsIn K D q.1 = some (some u) ∧ RelV q.2 u) :
    FunD K x qual (defArgs st) (defBody st) (defScope st) [] kws f (PySem.W.fnOf x qual (defArgs st) (defBody st) (defScope st) .none (.ref D) doc pm an cdv ct) :=
  ⟨⟨oc, od, .none, .ref D, doc, pm, an, cdv, ct, osl, rfl, l, c, .inl ⟨rfl, rfl⟩, .inr ⟨D, rfl, hk⟩⟩, k⟩
end Td

set_option Elab.async false
set_option linter.all false
set_option maxRecDepth 100000
set_option maxHeartbeats 4000000
/-! Plain facts that any law wants: data of a size, repr, stores, places. -/
namespace Td
open PySem L2
/-! ### data of a size -/
def ascS (z : Str) : Bool := z.cps.toList.all fun c => decide (c < 128)
mutual
def wt : PyData → Nat
  | .none => 1
  | .bool _ => 1
  | .int _ => 1
  | .str z => 1 + z.length
  | .list xs => 1 + wtA xs
  | .tuple xs => 1 + wtA xs
  | .dict _ => 1
def wtA : List PyData → Nat
  | [] => 0
  | x :: xs => wt x + wtA xs
end
def ten62 : Nat := 10 ^ 62
mutual
def okD : PyData → Bool
  | .none => true
  | .bool _ => true
  | .int i => decide (i.natAbs < ten62)
  | .str z => ascS z
  | .list xs => okDA xs
  | .tuple xs => okDA xs
  | .dict _ => false
def okDA : List PyData → Bool
  | [] => true
  | x :: xs => okD x && okDA xs
end
theorem okDA_iff : ∀ {xs : List PyData}, okDA xs = true ↔ ∀ x ∈ xs, okD x = true
  | [] => by simp [okDA]
  | x :: xs => by simp [okDA, okDA_iff (xs := xs)]
theorem okDA_app {a b : List PyData} : okDA (a ++ b) = (okDA a && okDA b) := by
  induction a with
  | nil => simp [okDA]
  | cons x a ih => simp [okDA, ih, Bool.and_assoc]
theorem wtA_app : ∀ (a b : List PyData), wtA (a ++ b) = wtA a + wtA b
  | [], b => by simp [wtA]
  | x :: a, b => by simp only [List.cons_append, wtA, wtA_app a b]; omega
theorem wt_pos (d : PyData) : 1 ≤ wt d := by cases d <;> simp [wt] <;> omega
theorem len_wtA : ∀ a : List PyData, a.length ≤ wtA a
  | [] => Nat.le_refl _
  | x :: a => by have := len_wtA a; have := wt_pos x; simp only [List.length_cons, wtA]; omega
theorem wtA_mem {x : PyData} : ∀ {a : List PyData}, x ∈ a → wt x ≤ wtA a
  | y :: a, h => by
    simp only [wtA]
    rcases List.mem_cons.mp h with h | h
    · subst h; omega
    · have := wtA_mem h; omega
theorem depthAll_le {D : Nat} : ∀ {a : List PyData}, PyData.depthAll a ≤ D ↔ ∀ x ∈ a, x.depth ≤ D
  | [] => by simp [PyData.depthAll]
  | x :: a => by
    simp only [PyData.depthAll, List.mem_cons, forall_eq_or_imp]
    rw [Nat.max_le, depthAll_le (a := a)]
theorem depthAll_app : ∀ {a b : List PyData}, PyData.depthAll (a ++ b) = max (PyData.depthAll a) (PyData.depthAll b)
  | [], b => by simp [PyData.depthAll]
  | x :: a, b => by simp only [List.cons_append, PyData.depthAll, depthAll_app (a := a)]; omega
theorem asc_ok {z : Str} (h : ascS z = true) : PyData.strOk z = true := by
  unfold PyData.strOk
  unfold ascS at h
  rw [← Array.all_toList, List.all_eq_true] at *
  intro c hc
  have := of_decide_eq_true (h c hc)
  exact decide_eq_true (by omega)
mutual
theorem okD_lay : ∀ d : PyData, okD d = true → d.canLay0 = true
  | .none, _ => rfl
  | .bool _, _ => rfl
  | .int _, _ => rfl
  | .str z, h => by simpa [PyData.canLay0] using asc_ok (by simpa [okD] using h)
  | .list xs, h => by simpa [PyData.canLay0] using okDA_lay xs (by simpa [okD] using h)
  | .tuple xs, h => by simpa [PyData.canLay0] using okDA_lay xs (by simpa [okD] using h)
  | .dict _, h => by simp [okD] at h
theorem okDA_lay : ∀ xs : List PyData, okDA xs = true → PyData.canLayAll0 xs = true
  | [], _ => rfl
  | x :: xs, h => by
    have h' : okD x = true ∧ okDA xs = true := by simpa [okDA] using h
    simp [PyData.canLayAll0, okD_lay x h'.1, okDA_lay xs h'.2]
end
theorem int_short {i : Int} (h : i.natAbs < ten62) : (PyData.shown (.int i)).length ≤ 64 ∧ i.natAbs.log2 < 1920 := by
  constructor
  · have e := int_text_length_le10 (k := 62) (by decide) h
    show (Str.ofString (toString i)).length ≤ 64
    rw [ofString_length]
    omega
  · by_cases h0 : i.natAbs = 0
    · rw [h0]; decide
    · refine (Nat.log2_lt h0).mpr (Nat.lt_of_lt_of_le h ?_)
      unfold ten62
      decide +kernel
mutual
theorem okD_short : ∀ d : PyData, okD d = true → d.leavesShort 64 = true ∧ d.showable = true
  | .none, _ => ⟨rfl, rfl⟩
  | .bool b, _ => ⟨rfl, rfl⟩
  | .int i, h => by
    have hi : i.natAbs < ten62 := of_decide_eq_true (show decide (i.natAbs < ten62) = true by simpa only [okD] using h)
    obtain ⟨s1, s2⟩ := int_short hi
    exact ⟨by simp only [PyData.leavesShort]; exact decide_eq_true s1, by simp only [PyData.showable]; exact decide_eq_true s2⟩
  | .str z, h => by
    refine ⟨?_, by simp [PyData.showable]⟩
    simp only [PyData.leavesShort, List.all_eq_true, decide_eq_true_eq]
    intro c hc
    have h' : ascS z = true := by simpa [okD] using h
    unfold ascS at h'
    rw [List.all_eq_true] at h'
    have := of_decide_eq_true (h' c hc)
    omega
  | .list xs, h => by
    have := okDA_short xs (by simpa [okD] using h)
    exact ⟨by simpa [PyData.leavesShort] using this.1, by simpa [PyData.showable] using this.2⟩
  | .tuple xs, h => by
    have := okDA_short xs (by simpa [okD] using h)
    exact ⟨by simpa [PyData.leavesShort] using this.1, by simpa [PyData.showable] using this.2⟩
  | .dict _, h => by simp [okD] at h
theorem okDA_short : ∀ xs : List PyData, okDA xs = true → PyData.leavesShortAll 64 xs = true ∧ PyData.showableAll xs = true
  | [], _ => ⟨rfl, rfl⟩
  | x :: xs, h => by
    have h' : okD x = true ∧ okDA xs = true := by simpa [okDA] using h
    have h1 := okD_short x h'.1
    have h2 := okDA_short xs h'.2
    exact ⟨by simp [PyData.leavesShortAll, h1.1, h2.1], by simp [PyData.showableAll, h1.2, h2.2]⟩
end
mutual
theorem bulk_wt : ∀ d : PyData, okD d = true → d.bulk + 1 ≤ wt d
  | .none, _ => Nat.le_refl _
  | .bool b, _ => Nat.le_refl _
  | .int i, _ => Nat.le_refl _
  | .str z, _ => by simp only [PyData.bulk, wt, Str.length]; omega
  | .list xs, h => by
    have := bulk_wtA xs (by simpa only [okD] using h)
    simp only [PyData.bulk, wt]; omega
  | .tuple xs, h => by
    have := bulk_wtA xs (by simpa only [okD] using h)
    simp only [PyData.bulk, wt]; omega
  | .dict _, h => by simp [okD] at h
theorem bulk_wtA : ∀ xs : List PyData, okDA xs = true → PyData.bulkAll xs ≤ wtA xs
  | [], _ => Nat.le_refl _
  | x :: xs, h => by
    have h' : okD x = true ∧ okDA xs = true := by simpa only [okDA, Bool.and_eq_true] using h
    have h1 := bulk_wt x h'.1
    have h2 := bulk_wtA xs h'.2
    simp only [PyData.bulkAll, wtA]; omega
end
theorem shaped_of {d : PyData} (h : okD d = true) (hd : d.depth ≤ 64) : SeqAt.shaped d = true := by
  unfold SeqAt.shaped
  rw [okD_lay d h, Bool.true_and]
  exact decide_eq_true (by omega)
theorem repr_of {d : PyData} (w : Ws) (h : okD d = true) (hd : d.depth ≤ 64) (hw : wt d ≤ 200000) : reprD w [d] = some (.str d.shown) := by
  have s := okD_short d h
  have b := bulk_wt d h
  have l := PyData.shown_le_bulk 64 (by decide) d s.1
  have z : szOk d.shown.length = true := decide_eq_true (by rw [sizeLine_eq]; omega)
  simp only [reprD, shaped_of h hd, s.2, z, Bool.and_true, if_true]
/-! ### == of data -/
theorem strs_eq (a b : Str) : (a.cps.toList == b.cps.toList) = decide (a = b) := by
  by_cases h : a = b
  · subst h; simp
  · have : a.cps.toList ≠ b.cps.toList := fun e => h (by cases a; cases b; simp at e; simp [e])
    rw [decide_eq_false h]
    exact beq_eq_false_iff_ne.mpr this
theorem eqv_str (a b : Str) : PyData.eqv (.str a) (.str b) = decide (a = b) := by
  by_cases h : a = b
  · subst h
    simp [PyData.eqv]
  · simp only [PyData.eqv]
    first | exact (strs_eq a b).trans (by simp [h]) | simp [h] | (simp [h]; intro e; exact h (by cases a; cases b; simp_all))
theorem eqD_str (w : Ws) (a b : Str) : eqD w (.str a) (.str b) = some (.bool (decide (a = b))) := by
  unfold eqD
  split
  · rw [eqv_str]
  · simp only [strsE, strs_eq, id]
theorem neD_str (w : Ws) (a b : Str) : neD w (.str a) (.str b) = some (.bool (!decide (a = b))) := by
  unfold neD
  split
  · rw [eqv_str]
  · simp only [strsE, strs_eq]
theorem eqD_int (w : Ws) (a b : Int) : eqD w (.int a) (.int b) = some (.bool (decide (a = b))) := by
  unfold eqD
  rw [if_pos (by simp [SeqAt.shaped, PyData.canLay0, PyData.depth])]
  by_cases h : a = b <;> simp [PyData.eqv, h]
theorem neD_int (w : Ws) (a b : Int) : neD w (.int a) (.int b) = some (.bool (!decide (a = b))) := by
  unfold neD
  rw [if_pos (by simp [SeqAt.shaped, PyData.canLay0, PyData.depth])]
  by_cases h : a = b <;> simp [PyData.eqv, h]
/-! ### texts as lists of signs -/
def S (l : List Nat) : Str := ⟨l.toArray⟩
theorem S_cps (l : List Nat) : (S l).cps.toList = l := by simp [S]
theorem S_of (z : Str) : z = S z.cps.toList := by cases z; simp [S]
theorem S_len (l : List Nat) : (S l).length = l.length := by simp [S, Str.length]
theorem S_app (a b : List Nat) : S a ++ S b = S (a ++ b) := by
  show (⟨a.toArray ++ b.toArray⟩ : Str) = ⟨(a ++ b).toArray⟩
  simp
theorem S_inj {a b : List Nat} : S a = S b ↔ a = b := ⟨fun h => by have := congrArg (fun z : Str => z.cps.toList) h; simpa [S_cps] using this, fun h => by rw [h]⟩
theorem S_ne {t u : List Nat} (h : t ≠ u) : ¬ (S t = S u) := fun e => h (S_inj.mp e)
theorem strOk_S {n : List Nat} (h : ∀ c ∈ n, c < 128) : PyData.strOk (S n) = true := by
  unfold PyData.strOk
  rw [← Array.all_toList, S_cps, List.all_eq_true]
  intro c hc
  have := h c hc
  simp
  try omega
theorem asc_S {n : List Nat} : ascS (S n) = n.all fun c => decide (c < 128) := by simp [ascS, S_cps]
theorem chD_S (t : List Nat) : chD (S t) = t.map fun c => .str ⟨#[c]⟩ := by simp [chD, S_cps]
theorem S_one (c : Nat) : S [c] = ⟨#[c]⟩ := rfl
theorem szOk_of {n : Nat} (h : n ≤ 10000000) : szOk n = true := decide_eq_true (by rw [sizeLine_eq]; omega)
/-! ### places -/
theorem atI_nat {α : Type} {xs : List α} {k : Nat} {x : α} (h : xs[k]? = some x) : atI xs (k : Int) = some x := by
  have hk : k < xs.length := (List.getElem?_eq_some_iff.mp h).1
  unfold atI ixN
  simp [hk]
  exact (List.getElem?_eq_some_iff.mp h).2
theorem ixD_tup {w : Ws} {ds : List PyData} {i : Int} : ixD w (.tuple ds) (.int i) = atI ds i := rfl
theorem ixD_list {w : Ws} {ds : List PyData} {i : Int} : ixD w (.list ds) (.int i) = atI ds i := rfl
theorem ixD_rf {w : Ws} {q : Nat} {ds : List PyData} {i : Int} (h : w[q]? = some (.lst ds)) : ixD w (rf q) (.int i) = atI ds i := by
  simp [ixD, lstOf, h]
theorem ix_last (n : Nat) : ixN (n + 1) (-1) = some n := by
  simp [ixN]
  omega
theorem atI_last {α : Type} (a : List α) (x : α) : atI (a ++ [x]) (-1) = some x := by
  simp [atI, ix_last]
theorem lst_at {w : Ws} {q : Nat} {ds : List PyData} (h : w[q]? = some (.lst ds)) : lstOf w (rf q) = some ds := by
  simp [lstOf, h]
theorem lstOf_list {w : Ws} {ds : List PyData} : lstOf w (.list ds) = some ds := rfl
theorem upd_at {w : Ws} {q : Nat} {ds ys : List PyData} {d : PyData} {k : List PyData → Option (PyData × List PyData)} (h : w[q]? = some (.lst ds)) (hk : k ds = some (d, ys)) : updL w (rf q) k = some (d, w.set q (.lst ys)) := by
  simp [updL, locOf, h, hk]
theorem set_get {w : Ws} {l : Nat} {x : Ob} (hw : w[l]? = some x) (y : Ob) : (w.set l y)[l]? = some y := List.getElem?_set_self (List.getElem?_eq_some_iff.mp hw).1
theorem set_at {w : Ws} {l : Nat} {ob : Ob} (h : w[l]? = some ob) : w.set l ob = w := by
  obtain ⟨hl, e⟩ := List.getElem?_eq_some_iff.mp h
  rw [← e]
  exact List.set_getElem_self ..
/-! ### statements one behind the other -/
theorem seq_nx {f k : FS} {ρ ρ1 : Ev} {w w1 : Ws} (h : f ρ w = .nx ρ1 w1) : sSeq f k ρ w = k ρ1 w1 := by simp [sSeq, h]
theorem seq_rt {f k : FS} {ρ : Ev} {w w1 : Ws} {d : PyData} (h : f ρ w = .rt d w1) : sSeq f k ρ w = .rt d w1 := by simp [sSeq, h]
theorem seq_bk {f k : FS} {ρ ρ1 : Ev} {w w1 : Ws} (h : f ρ w = .bk ρ1 w1) : sSeq f k ρ w = .bk ρ1 w1 := by simp [sSeq, h]
theorem seq_ct {f k : FS} {ρ ρ1 : Ev} {w w1 : Ws} (h : f ρ w = .ct ρ1 w1) : sSeq f k ρ w = .ct ρ1 w1 := by simp [sSeq, h]
theorem seq_congr {f f' kk : FS} {ρ ρ' : Ev} {w w' : Ws} (h : f ρ w = f' ρ' w') : sSeq f kk ρ w = sSeq f' kk ρ' w' := by simp only [sSeq, h]
theorem wh_succ {t : FT} {body : FS} {n : Nat} {ρ : Ev} {w : Ws} : whL t body (n + 1) ρ w = (t ρ w).thenS ρ fun b w1 => cond b (match body ρ w1 with
    | .nx ρ2 w2 => whL t body n ρ2 w2
    | .ct ρ2 w2 => whL t body n ρ2 w2
    | .bk ρ2 w2 => .nx ρ2 w2
    | o => o) (.nx ρ w1) := rfl
theorem sz0 : szOk 0 = true := szOk_of (by omega)
theorem sz2 : szOk 2 = true := szOk_of (by omega)
/-! ### stores whose cells speak of no later ones -/
mutual
theorem bnd_mono {n m : Nat} (h : n ≤ m) : ∀ d : PyData, bnd n d = true → bnd m d = true
  | .none, _ => rfl
  | .bool _, _ => rfl
  | .int _, _ => rfl
  | .str _, _ => rfl
  | .list xs, b => by simpa [bnd] using bndA_mono h xs (by simpa [bnd] using b)
  | .tuple xs, b => by simpa [bnd] using bndA_mono h xs (by simpa [bnd] using b)
  | .dict kvs, b => by
    simp only [bnd] at b ⊢
    unfold bndK at b ⊢
    split at b
    · have := of_decide_eq_true b
      exact decide_eq_true (by omega)
    · cases b
theorem bndA_mono {n m : Nat} (h : n ≤ m) : ∀ xs : List PyData, bndA n xs = true → bndA m xs = true
  | [], _ => rfl
  | x :: xs, b => by
    have b' : bnd n x = true ∧ bndA n xs = true := by simpa [bndA] using b
    simp [bndA, bnd_mono h x b'.1, bndA_mono h xs b'.2]
end
theorem bndO_mono {n m : Nat} (h : n ≤ m) (ob : Ob) (b : bndO n ob = true) : bndO m ob = true := by
  cases ob with
  | lst xs => exact bndA_mono h _ b
  | dK kvs => exact bndA_mono h _ b
  | ins c fs => exact bndA_mono h _ b
  | dead => rfl
mutual
theorem bnd_okD {n : Nat} : ∀ d : PyData, okD d = true → bnd n d = true
  | .none, _ => rfl
  | .bool _, _ => rfl
  | .int _, _ => rfl
  | .str _, _ => rfl
  | .list xs, b => by simpa [bnd] using bndA_okD xs (by simpa [okD] using b)
  | .tuple xs, b => by simpa [bnd] using bndA_okD xs (by simpa [okD] using b)
  | .dict kvs, b => by simp [okD] at b
theorem bndA_okD {n : Nat} : ∀ xs : List PyData, okDA xs = true → bndA n xs = true
  | [], _ => rfl
  | x :: xs, b => by
    have b' : okD x = true ∧ okDA xs = true := by simpa [okDA] using b
    simp [bndA, bnd_okD x b'.1, bndA_okD xs b'.2]
end
def Cl (w : Ws) : Prop := w.all (bndO w.length) = true
theorem Cl.snoc {w : Ws} {ob : Ob} (h : Cl w) (b : bndO (w.length + 1) ob = true) : Cl (w ++ [ob]) := by
  unfold Cl at *
  rw [List.length_append, List.length_singleton, List.all_append, Bool.and_eq_true]
  refine ⟨?_, by simp [b]⟩
  rw [List.all_eq_true] at h ⊢
  exact fun x hx => bndO_mono (by omega) x (h x hx)
theorem Cl.set {w : Ws} {l : Nat} {ob : Ob} (h : Cl w) (b : bndO w.length ob = true) : Cl (w.set l ob) := by
  unfold Cl at *
  rw [List.length_set]
  rw [List.all_eq_true] at h ⊢
  intro x hx
  rcases List.mem_or_eq_of_mem_set hx with hx | rfl
  · exact h x hx
  · exact b
theorem trim_app {w v : Ws} (h : Cl w) : trimW w.length (w ++ v) = true := by
  unfold trimW
  rw [List.take_left, h]
  simp
theorem leave_trim {w v : Ws} {d : PyData} (h : Cl w) (b : bnd w.length d = true) : leave w.length (.rt d (w ++ v)) = .ok d w := by
  simp only [leave, trim_app h, b, Bool.and_self, if_true, List.take_left]
theorem leave_trimN {w v : Ws} {ρ : Ev} (h : Cl w) : leave w.length (.nx ρ (w ++ v)) = .ok .none w := by
  simp only [leave, trim_app h, if_true, List.take_left]
end Td

set_option Elab.async false
set_option linter.all false
set_option maxRecDepth 100000
set_option maxHeartbeats 4000000
namespace Tk
open PySem L2 PySem.Spec PyProof.Rows Td
def topS (i : Nat) : Stmt := PySem.Challenge.pw_tidyrules_k18_patterns_written.main.body.getD i (.Pass ⟨0, 0, 0, 0⟩)
abbrev s_is_name : Stmt := topS 3
abbrev N_is_name : List Str := ["thing", "char"]
abbrev P_is_name : List Str := ["thing"]
abbrev s_is_variable : Stmt := topS 6
abbrev N_is_variable : List Str := ["thing"]
abbrev P_is_variable : List Str := ["thing"]
abbrev s_pattern_text : Stmt := topS 9
abbrev N_pattern_text : List Str := ["pattern", "inside", "head", "parts", "part"]
abbrev P_pattern_text : List Str := ["pattern"]
abbrev s_rule_text : Stmt := topS 10
abbrev N_rule_text : List Str := ["rule", "name", "left", "right"]
abbrev P_rule_text : List Str := ["rule"]
abbrev s_words_in : Stmt := topS 21
abbrev N_words_in : List Str := ["text", "found", "k", "char"]
abbrev P_words_in : List Str := ["text"]
abbrev s_PatternReader_refuse : Stmt := (cbody (topS 22)).getD 3 (.Pass ⟨0, 0, 0, 0⟩)
abbrev N_PatternReader_refuse : List Str := ["self", "at"]
abbrev P_PatternReader_refuse : List Str := ["self", "at"]
abbrev s_PatternReader_index_now : Stmt := (cbody (topS 22)).getD 1 (.Pass ⟨0, 0, 0, 0⟩)
abbrev N_PatternReader_index_now : List Str := ["self"]
abbrev P_PatternReader_index_now : List Str := ["self"]
abbrev s_PatternReader_require : Stmt := (cbody (topS 22)).getD 4 (.Pass ⟨0, 0, 0, 0⟩)
abbrev N_PatternReader_require : List Str := ["self", "condition"]
abbrev P_PatternReader_require : List Str := ["self", "condition"]
abbrev s_PatternReader_present : Stmt := (cbody (topS 22)).getD 2 (.Pass ⟨0, 0, 0, 0⟩)
abbrev N_PatternReader_present : List Str := ["self"]
abbrev P_PatternReader_present : List Str := ["self"]
abbrev s_PatternReader_take : Stmt := (cbody (topS 22)).getD 5 (.Pass ⟨0, 0, 0, 0⟩)
abbrev N_PatternReader_take : List Str := ["self", "word"]
abbrev P_PatternReader_take : List Str := ["self", "word"]
abbrev s_PatternReader_name : Stmt := (cbody (topS 22)).getD 6 (.Pass ⟨0, 0, 0, 0⟩)
abbrev N_PatternReader_name : List Str := ["self", "found"]
abbrev P_PatternReader_name : List Str := ["self"]
abbrev s_PatternReader_opening : Stmt := (cbody (topS 25)).getD 0 (.Pass ⟨0, 0, 0, 0⟩)
abbrev N_PatternReader_opening : List Str := ["self"]
abbrev P_PatternReader_opening : List Str := ["self"]
abbrev s_PatternReader_can_hold : Stmt := (cbody (topS 25)).getD 1 (.Pass ⟨0, 0, 0, 0⟩)
abbrev N_PatternReader_can_hold : List Str := ["self", "opened"]
abbrev P_PatternReader_can_hold : List Str := ["self", "opened"]
abbrev s_PatternReader_closed : Stmt := (cbody (topS 25)).getD 2 (.Pass ⟨0, 0, 0, 0⟩)
abbrev N_PatternReader_closed : List Str := ["self", "opened", "parts"]
abbrev P_PatternReader_closed : List Str := ["self", "opened", "parts"]
abbrev s_PatternReader_whole : Stmt := (cbody (topS 23)).getD 3 (.Pass ⟨0, 0, 0, 0⟩)
abbrev N_PatternReader_whole : List Str := ["self", "pile", "opened", "found", "parts"]
abbrev P_PatternReader_whole : List Str := ["self"]
abbrev s_PatternReader___init__ : Stmt := (cbody (topS 22)).getD 0 (.Pass ⟨0, 0, 0, 0⟩)
abbrev N_PatternReader___init__ : List Str := ["self", "text", "line", "field"]
abbrev P_PatternReader___init__ : List Str := ["self", "text", "line", "field"]
abbrev s_PatternReader_finish : Stmt := (cbody (topS 22)).getD 7 (.Pass ⟨0, 0, 0, 0⟩)
abbrev N_PatternReader_finish : List Str := ["self"]
abbrev P_PatternReader_finish : List Str := ["self"]
abbrev s_pattern_read : Stmt := topS 26
abbrev N_pattern_read : List Str := ["text", "line", "field", "reader", "found"]
abbrev P_pattern_read : List Str := ["text", "line", "field"]
abbrev s_rule_read : Stmt := topS 27
abbrev N_rule_read : List Str := ["text", "line", "field", "reader", "name", "left", "sign", "right"]
abbrev P_rule_read : List Str := ["text", "line", "field"]
abbrev s__law_feed : Stmt := topS 29
abbrev N__law_feed : List Str := ["_law_script"]
abbrev P__law_feed : List Str := ["_law_script"]
abbrev s__law_draw : Stmt := topS 30
abbrev N__law_draw : List Str := ["_law_feed_here", "_law_many", "_law_cell", "_law_turn", "_law_mixed", "_law_digit_now"]
abbrev P__law_draw : List Str := ["_law_feed_here", "_law_many"]
abbrev s__law_choice : Stmt := topS 31
abbrev N__law_choice : List Str := ["_law_feed_here", "_law_some"]
abbrev P__law_choice : List Str := ["_law_feed_here", "_law_some"]
abbrev s__law_text : Stmt := topS 32
abbrev N__law_text : List Str := ["_law_shape_now", "_law_parts", "_law_part"]
abbrev P__law_text : List Str := ["_law_shape_now"]
abbrev s__law_free : Stmt := topS 33
abbrev N__law_free : List Str := ["_law_feed_here", "_law_deep", "_law_many", "_law_k"]
abbrev P__law_free : List Str := ["_law_feed_here", "_law_deep"]
abbrev s__law_pattern_right : Stmt := topS 34
abbrev N__law_pattern_right : List Str := ["_law_one_now", "_law_own", "_law_told"]
abbrev P__law_pattern_right : List Str := ["_law_one_now"]
abbrev s__law_rule_right : Stmt := topS 35
abbrev N__law_rule_right : List Str := ["_law_label", "_law_left", "_law_right", "_law_triple", "_law_own", "_law_told"]
abbrev P__law_rule_right : List Str := ["_law_label", "_law_left", "_law_right"]
abbrev s_law : Stmt := topS 36
abbrev N_law : List Str := ["_law_script", "_law_feed_here", "_law_tower", "_law_k", "_law_wide", "_law_last", "_law_attempt", "_law_one_now", "_law_kept", "_law_label", "_law_c"]
abbrev P_law : List Str := ["_law_script"]
structure Tx (K : PySem.W.Frag) (mg : Str → Option Value) where
  k_PatternReader : ClsD K mg "PatternReader"
  d_is_name : DefAt K mg "is_name" s_is_name P_is_name
  d_is_variable : DefAt K mg "is_variable" s_is_variable P_is_variable
  d_pattern_text : DefAt K mg "pattern_text" s_pattern_text P_pattern_text
  d_rule_text : DefAt K mg "rule_text" s_rule_text P_rule_text
  d_words_in : DefAt K mg "words_in" s_words_in P_words_in
  m_PatternReader_refuse : MethD K mg "PatternReader" "refuse" "Scanner.refuse" s_PatternReader_refuse P_PatternReader_refuse k_PatternReader
  m_PatternReader_index_now : MethD K mg "PatternReader" "index_now" "Scanner.index_now" s_PatternReader_index_now P_PatternReader_index_now k_PatternReader
  m_PatternReader_require : MethD K mg "PatternReader" "require" "Scanner.require" s_PatternReader_require P_PatternReader_require k_PatternReader
  m_PatternReader_present : MethD K mg "PatternReader" "present" "Scanner.present" s_PatternReader_present P_PatternReader_present k_PatternReader
  m_PatternReader_take : MethD K mg "PatternReader" "take" "Scanner.take" s_PatternReader_take P_PatternReader_take k_PatternReader
  m_PatternReader_name : MethD K mg "PatternReader" "name" "Scanner.name" s_PatternReader_name P_PatternReader_name k_PatternReader
  m_PatternReader_opening : MethD K mg "PatternReader" "opening" "PatternReader.opening" s_PatternReader_opening P_PatternReader_opening k_PatternReader
  m_PatternReader_can_hold : MethD K mg "PatternReader" "can_hold" "PatternReader.can_hold" s_PatternReader_can_hold P_PatternReader_can_hold k_PatternReader
  m_PatternReader_closed : MethD K mg "PatternReader" "closed" "PatternReader.closed" s_PatternReader_closed P_PatternReader_closed k_PatternReader
  m_PatternReader_whole : MethD K mg "PatternReader" "whole" "Nested.whole" s_PatternReader_whole P_PatternReader_whole k_PatternReader
  m_PatternReader___init__ : MethD K mg "PatternReader" "__init__" "Scanner.__init__" s_PatternReader___init__ P_PatternReader___init__ k_PatternReader
  m_PatternReader_finish : MethD K mg "PatternReader" "finish" "Scanner.finish" s_PatternReader_finish P_PatternReader_finish k_PatternReader
  d_pattern_read : DefA K mg "pattern_read" s_pattern_read
  d_rule_read : DefA K mg "rule_read" s_rule_read
  d__law_feed : DefAt K mg "_law_feed" s__law_feed P__law_feed
  d__law_draw : DefAt K mg "_law_draw" s__law_draw P__law_draw
  d__law_choice : DefAt K mg "_law_choice" s__law_choice P__law_choice
  d__law_text : DefAt K mg "_law_text" s__law_text P__law_text
  d__law_free : DefAt K mg "_law_free" s__law_free P__law_free
  d__law_pattern_right : DefAt K mg "_law_pattern_right" s__law_pattern_right P__law_pattern_right
  d__law_rule_right : DefAt K mg "_law_rule_right" s__law_rule_right P__law_rule_right
  d_law : DefAt K mg "law" s_law P_law
  nf_PatternReader_line : NoAttr K k_PatternReader.C "line"
  nf_PatternReader_field : NoAttr K k_PatternReader.C "field"
  nf_PatternReader_words : NoAttr K k_PatternReader.C "words"
  nf_PatternReader_length : NoAttr K k_PatternReader.C "length"
  nf_PatternReader_line_held : NoAttr K k_PatternReader.C "line_held"
  nf_PatternReader_first_field : NoAttr K k_PatternReader.C "first_field"
  nf_PatternReader_spot : NoAttr K k_PatternReader.C "spot"
  mk_PatternReader : Mk K k_PatternReader.C m_PatternReader___init__.f
  kb_pattern_text_0_pattern : KbD K d_pattern_text.fd P_pattern_text 0 ["pattern"] (fun as bs => arr [(1, 0)] as [] bs)
  kb_pattern_read_1_line_field : KbD K d_pattern_read.fd P_pattern_read 1 ["line", "field"] (fun as bs => arr [(0, 0), (1, 0), (1, 1)] as [] bs)
  kb_pattern_read_0_text : KbD K d_pattern_read.fd P_pattern_read 0 ["text"] (fun as bs => arr [(1, 0), (2, 0), (2, 1)] as [.int 0, .int 0] bs)
  kb_pattern_read_1_ : KbD K d_pattern_read.fd P_pattern_read 1 [] (fun as bs => arr [(0, 0), (2, 0), (2, 1)] as [.int 0, .int 0] bs)
  kb_pattern_read_1_field : KbD K d_pattern_read.fd P_pattern_read 1 ["field"] (fun as bs => arr [(0, 0), (2, 0), (1, 0)] as [.int 0] bs)
  kb_rule_text_0_rule : KbD K d_rule_text.fd P_rule_text 0 ["rule"] (fun as bs => arr [(1, 0)] as [] bs)
  kb_rule_read_1_line : KbD K d_rule_read.fd P_rule_read 1 ["line"] (fun as bs => arr [(0, 0), (1, 0), (2, 0)] as [.int 0] bs)
  kb_rule_read_1_line_field : KbD K d_rule_read.fd P_rule_read 1 ["line", "field"] (fun as bs => arr [(0, 0), (1, 0), (1, 1)] as [] bs)
  kb_rule_read_0_text : KbD K d_rule_read.fd P_rule_read 0 ["text"] (fun as bs => arr [(1, 0), (2, 0), (2, 1)] as [.int 0, .int 0] bs)
  kb_rule_read_1_ : KbD K d_rule_read.fd P_rule_read 1 [] (fun as bs => arr [(0, 0), (2, 0), (2, 1)] as [.int 0, .int 0] bs)
  b_all : mg "all" = none
  b_enumerate : mg "enumerate" = none
  b_int : mg "int" = none
  b_isinstance : mg "isinstance" = none
  b_len : mg "len" = none
  b_list : mg "list" = none
  b_range : mg "range" = none
  b_repr : mg "repr" = none
  b_str : mg "str" = none
  b_tuple : mg "tuple" = none
  c_LETTERS : (t : Tok) ×' mg "LETTERS" = some (.str "abcdefghijklmnopqrstuvwxyz" t)
  c_LONGEST_NAME : (t : Tok) ×' mg "LONGEST_NAME" = some (.int 8 t)
  c_MARK : (t : Tok) ×' mg "MARK" = some (.str "?" t)
  c_ARROW : (t : Tok) ×' mg "ARROW" = some (.str " -> " t)
  c_BEGIN : (t : Tok) ×' mg "BEGIN" = some (.str "(" t)
  c_END : (t : Tok) ×' mg "END" = some (.str ")" t)
  c_COMMA : (t : Tok) ×' mg "COMMA" = some (.str "," t)
  c_SPACE : (t : Tok) ×' mg "SPACE" = some (.str " " t)
  c_MOST_OPEN : (t : Tok) ×' mg "MOST_OPEN" = some (.int 30 t)
def b_is_name : FS :=
    (sSeq (sIf (tOr' (tNo (tTr (eIsi "str" (eV 0)))) (tNo (tB' (eCh leD leD (eC (.int 1)) (eCb lenD (aC (eV 0) aN)) (eC (.int 8)))))) (sRet (eC (.bool false))) sNil)
    (sRet (eCb allD (aC (eLc (iE (eV 0)) (gN 1) tYs (eB inD (eV 1) (eC (.str "abcdefghijklmnopqrstuvwxyz"))) [1]) aN))))
def F_is_name : FF := defF 2 1 b_is_name
def b_is_variable : FS :=
    (sRet (eAn (eIsi "str" (eV 0)) (eAn (eB eqD (eSl (eV 0) oN (oS (eC (.int 1)))) (eC (.str "?"))) (eCall F_is_name [] (aC (eSl (eV 0) (oS (eC (.int 1))) oN) aN)))))
def F_is_variable : FF := defF 1 1 b_is_variable
def b_pattern_text (g : FF) : FS :=
    (sSeq (sIf (tTr (eCall F_is_variable [] (aC (eV 0) aN))) (sRet (eCb toStrT (aC (eV 0) aN))) sNil)
    (sSeq (sAsg (eV 0) (gT 2 (gC (gN 2) (gC (gN 3) gZ))))
    (sSeq (sAsg (eJn (eC (.str ", ")) (eLc (iE (eV 3)) (gN 4) tYs (eCall g [] (aC (eV 4) aN)) [4])) (gN 1))
    (sRet (eIf (tB' (eB gtD (eCb lenD (aC (eV 3) aN)) (eC (.int 0)))) (eJs ((eU fmtD (eV 2)) :: ((eC (.str "(")) :: ((eU fmtD (eV 1)) :: ((eC (.str ")")) :: []))))) (eCb toStrT (aC (eV 2) aN)))))))
def F_pattern_text : Nat → FF
  | 0 => fun _ _ => .no
  | l + 1 => defF 5 1 (b_pattern_text (F_pattern_text l))
def b_rule_text : FS :=
    (sSeq (sAsg (eV 0) (gT 3 (gC (gN 1) (gC (gN 2) (gC (gN 3) gZ)))))
    (sRet (eJs ((eU fmtD (eV 1)) :: ((eC (.str " ")) :: ((eU fmtD (eCall (F_pattern_text 40) [] (aC (eV 2) aN))) :: ((eU fmtD (eC (.str " -> "))) :: ((eU fmtD (eCall (F_pattern_text 40) [] (aC (eV 3) aN))) :: []))))))))
def F_rule_text : FF := defF 4 1 b_rule_text
def b_words_in : FS :=
    (sSeq (sAsg (eLstS aN) (gN 1))
    (sSeq (sFor (iEn (aC (eV 0) aN)) (gT 2 (gC (gN 2) (gC (gN 3) gZ)))
    (sIf (tAn (tB' (eB inD (eV 3) (eC (.str "abcdefghijklmnopqrstuvwxyz")))) (tAn (tB' (eB gtD (eV 2) (eC (.int 0)))) (tB' (eB inD (eB ixD (eV 0) (eB subD (eV 2) (eC (.int 1)))) (eC (.str "abcdefghijklmnopqrstuvwxyz")))))) (sAsg (eTup (aC (eB ixD (eB ixD (eV 1) (eU negD (eC (.int 1)))) (eC (.int 0))) (aC (eB addD (eB ixD (eB ixD (eV 1) (eU negD (eC (.int 1)))) (eC (.int 1))) (eV 3)) aN))) (gIx (eV 1) (eU negD (eC (.int 1))))) (sExp (eLm apL (eV 1) (aC (eTup (aC (eV 2) (aC (eV 3) aN))) aN)))))
    (sRet (eFz (eV 1)))))
def F_words_in : FF := defF 4 1 b_words_in
def b_PatternReader_refuse : FS :=
    (fun _ _ => .no)
def F_PatternReader_refuse : FF := defF 2 2 b_PatternReader_refuse
def b_PatternReader_index_now : FS :=
    (sRet (eIf (tB' (eB ltD (eFd "PatternReader" "spot" (eV 0)) (eCb lenD (aC (eFd "PatternReader" "words" (eV 0)) aN)))) (eB ixD (eB ixD (eFd "PatternReader" "words" (eV 0)) (eFd "PatternReader" "spot" (eV 0))) (eC (.int 0))) (eFd "PatternReader" "length" (eV 0))))
def F_PatternReader_index_now : FF := defF 1 1 b_PatternReader_index_now
def b_PatternReader_require : FS :=
    (sIf (tNo (tTr (eV 1))) (sExp (eMt "PatternReader" "refuse" F_PatternReader_refuse (eV 0) (aC (eMt "PatternReader" "index_now" F_PatternReader_index_now (eV 0) aN) aN))) sNil)
def F_PatternReader_require : FF := defF 2 2 b_PatternReader_require
def b_PatternReader_present : FS :=
    (sRet (eIf (tB' (eB ltD (eFd "PatternReader" "spot" (eV 0)) (eCb lenD (aC (eFd "PatternReader" "words" (eV 0)) aN)))) (eB ixD (eB ixD (eFd "PatternReader" "words" (eV 0)) (eFd "PatternReader" "spot" (eV 0))) (eC (.int 1))) (eC (.str ""))))
def F_PatternReader_present : FF := defF 1 1 b_PatternReader_present
def b_PatternReader_take : FS :=
    (sSeq (sExp (eMt "PatternReader" "require" F_PatternReader_require (eV 0) (aC (eB eqD (eMt "PatternReader" "present" F_PatternReader_present (eV 0) aN) (eV 1)) aN)))
    (sFdA "PatternReader" "spot" (eV 0) (eC (.int 1))))
def F_PatternReader_take : FF := defF 2 2 b_PatternReader_take
def b_PatternReader_name : FS :=
    (sSeq (sAsg (eMt "PatternReader" "present" F_PatternReader_present (eV 0) aN) (gN 1))
    (sSeq (sExp (eMt "PatternReader" "require" F_PatternReader_require (eV 0) (aC (eCall F_is_name [] (aC (eV 1) aN)) aN)))
    (sSeq (sFdA "PatternReader" "spot" (eV 0) (eC (.int 1)))
    (sRet (eV 1)))))
def F_PatternReader_name : FF := defF 2 1 b_PatternReader_name
def b_PatternReader_opening : FS :=
    (sSeq (sIf (tB' (eB neD (eMt "PatternReader" "present" F_PatternReader_present (eV 0) aN) (eC (.str "?")))) (sRet (eMt "PatternReader" "name" F_PatternReader_name (eV 0) aN)) sNil)
    (sSeq (sExp (eMt "PatternReader" "take" F_PatternReader_take (eV 0) (aC (eC (.str "?")) aN)))
    (sRet (eB addD (eC (.str "?")) (eMt "PatternReader" "name" F_PatternReader_name (eV 0) aN)))))
def F_PatternReader_opening : FF := defF 1 1 b_PatternReader_opening
def b_PatternReader_can_hold : FS :=
    (sRet (eNo (eCall F_is_variable [] (aC (eV 1) aN))))
def F_PatternReader_can_hold : FF := defF 2 2 b_PatternReader_can_hold
def b_PatternReader_closed : FS :=
    (sRet (eIf (tTr (eCall F_is_variable [] (aC (eV 1) aN))) (eV 1) (eTup (aC (eV 1) (aC (eV 2) aN)))))
def F_PatternReader_closed : FF := defF 3 3 b_PatternReader_closed
def b_PatternReader_whole : FS :=
    (sSeq (sAsg (eLstS aN) (gN 1))
    (sWh (tTr (eC (.bool true)))
    (sSeq (sAsg (eMt "PatternReader" "opening" F_PatternReader_opening (eV 0) aN) (gN 2))
    (sSeq (sIf (tAn (tB' (eB eqD (eMt "PatternReader" "present" F_PatternReader_present (eV 0) aN) (eC (.str "(")))) (tTr (eMt "PatternReader" "can_hold" F_PatternReader_can_hold (eV 0) (aC (eV 2) aN)))) (sSeq (sExp (eMt "PatternReader" "require" F_PatternReader_require (eV 0) (aC (eB ltD (eCb lenD (aC (eV 1) aN)) (eC (.int 30))) aN)))
    (sSeq (sExp (eMt "PatternReader" "take" F_PatternReader_take (eV 0) (aC (eC (.str "(")) aN)))
    (sSeq (sExp (eLm apL (eV 1) (aC (eTup (aC (eV 2) (aC (eLstS aN) aN))) aN)))
    sCnt))) sNil)
    (sSeq (sAsg (eMt "PatternReader" "closed" F_PatternReader_closed (eV 0) (aC (eV 2) (aC (eTup aN) aN))) (gN 3))
    (sSeq (sWh (tB' (eB neL (eV 1) (eLst aN)))
    (sSeq (sExp (eLm apL (eB ixD (eB ixD (eV 1) (eU negD (eC (.int 1)))) (eC (.int 1))) (aC (eV 3) aN)))
    (sSeq (sIf (tB' (eB eqD (eMt "PatternReader" "present" F_PatternReader_present (eV 0) aN) (eC (.str ",")))) sBrk sNil)
    (sSeq (sExp (eMt "PatternReader" "take" F_PatternReader_take (eV 0) (aC (eC (.str ")")) aN)))
    (sSeq (sAsg (eLm0 ppL (eV 1)) (gT 2 (gC (gN 2) (gC (gN 4) gZ))))
    (sAsg (eMt "PatternReader" "closed" F_PatternReader_closed (eV 0) (aC (eV 2) (aC (eCb tupleD (aC (eV 4) aN)) aN))) (gN 3)))))))
    (sSeq (sIf (tB' (eB eqL (eV 1) (eLst aN))) (sRet (eV 3)) sNil)
    (sSeq (sExp (eMt "PatternReader" "take" F_PatternReader_take (eV 0) (aC (eC (.str ",")) aN)))
    (sExp (eMt "PatternReader" "take" F_PatternReader_take (eV 0) (aC (eC (.str " ")) aN)))))))))))
def F_PatternReader_whole : FF := defF 5 1 b_PatternReader_whole
def b_PatternReader___init__ : FS :=
    (sSeq (sFd "PatternReader" "words" (eV 0) (eCall F_words_in [] (aC (eV 1) aN)))
    (sSeq (sFd "PatternReader" "length" (eV 0) (eCb lenD (aC (eV 1) aN)))
    (sSeq (sFd "PatternReader" "line_held" (eV 0) (eV 2))
    (sSeq (sFd "PatternReader" "first_field" (eV 0) (eV 3))
    (sFd "PatternReader" "spot" (eV 0) (eC (.int 0)))))))
def F_PatternReader___init__ : FF := defF 4 4 b_PatternReader___init__
def b_PatternReader_finish : FS :=
    (sExp (eMt "PatternReader" "require" F_PatternReader_require (eV 0) (aC (eB eqD (eFd "PatternReader" "spot" (eV 0)) (eCb lenD (aC (eFd "PatternReader" "words" (eV 0)) aN))) aN)))
def F_PatternReader_finish : FF := defF 1 1 b_PatternReader_finish
def b_pattern_read : FS :=
    (sSeq (sAsg (eMk "PatternReader" F_PatternReader___init__ (aC (eV 0) (aC (eV 1) (aC (eV 2) aN)))) (gN 3))
    (sSeq (sAsg (eMt "PatternReader" "whole" F_PatternReader_whole (eV 3) aN) (gN 4))
    (sSeq (sExp (eMt "PatternReader" "finish" F_PatternReader_finish (eV 3) aN))
    (sRet (eV 4)))))
def F_pattern_read : FF := defF 5 3 b_pattern_read
def b_rule_read : FS :=
    (sSeq (sAsg (eMk "PatternReader" F_PatternReader___init__ (aC (eV 0) (aC (eV 1) (aC (eV 2) aN)))) (gN 3))
    (sSeq (sAsg (eMt "PatternReader" "name" F_PatternReader_name (eV 3) aN) (gN 4))
    (sSeq (sExp (eMt "PatternReader" "take" F_PatternReader_take (eV 3) (aC (eC (.str " ")) aN)))
    (sSeq (sAsg (eMt "PatternReader" "whole" F_PatternReader_whole (eV 3) aN) (gN 5))
    (sSeq (sFor (iE (eC (.str " -> "))) (gN 6)
    (sExp (eMt "PatternReader" "take" F_PatternReader_take (eV 3) (aC (eV 6) aN))))
    (sSeq (sAsg (eMt "PatternReader" "whole" F_PatternReader_whole (eV 3) aN) (gN 7))
    (sSeq (sExp (eMt "PatternReader" "finish" F_PatternReader_finish (eV 3) aN))
    (sRet (eTup (aC (eV 4) (aC (eV 5) (aC (eV 7) aN))))))))))))
def F_rule_read : FF := defF 8 3 b_rule_read
def b__law_feed : FS :=
    (sRet (eLstS (aC (eCb listD (aC (eSl (eV 0) oN (oS (eC (.int 63)))) aN)) (aC (eC (.int 0)) (aC (eC (.int 0)) (aC (eC (.int 0)) aN))))))
def F__law_feed : FF := defF 1 1 b__law_feed
def b__law_draw : FS :=
    (sSeq (sAsg (eB addD (eB ixD (eV 0) (eC (.int 3))) (eC (.int 1))) (gIx (eV 0) (eC (.int 3))))
    (sSeq (sIf (tB' (eB gtD (eB ixD (eV 0) (eC (.int 2))) (eC (.int 0)))) (sSeq (sAsg (eB modD (eCb toInt (aC (eB ixD (eV 0) (eC (.int 2))) aN)) (eV 1)) (gN 5))
    (sSeq (sAsg (eB fdvD (eB ixD (eV 0) (eC (.int 2))) (eV 1)) (gIx (eV 0) (eC (.int 2))))
    (sRet (eV 5)))) sNil)
    (sSeq (sAsg (eIf (tB' (eB neL (eB ixD (eV 0) (eC (.int 0))) (eLst aN))) (eB ixD (eB ixD (eV 0) (eC (.int 0))) (eB modD (eCb toInt (aC (eB ixD (eV 0) (eC (.int 1))) aN)) (eCb lenD (aC (eB ixD (eV 0) (eC (.int 0))) aN)))) (eC (.int 47))) (gN 2))
    (sSeq (sAsg (eB addD (eB ixD (eV 0) (eC (.int 1))) (eC (.int 1))) (gIx (eV 0) (eC (.int 1))))
    (sSeq (sIf (tAn (tB' (eB geD (eV 2) (eB powD (eC (.int 10)) (eC (.int 18))))) (tB' (eB leD (eB ixD (eV 0) (eC (.int 1))) (eCb lenD (aC (eB ixD (eV 0) (eC (.int 0))) aN))))) (sSeq (sAsg (eB fdvD (eV 2) (eV 1)) (gIx (eV 0) (eC (.int 2))))
    (sRet (eB modD (eCb toInt (aC (eV 2) aN)) (eV 1)))) sNil)
    (sSeq (sAsg (eB ixD (eV 0) (eC (.int 3))) (gN 3))
    (sSeq (sAsg (eCb toInt (aC (eB powD (eB addD (eB addD (eB modD (eCb toInt (aC (eV 2) aN)) (eC (.int 1000003171))) (eB mulD (eB mulD (eC (.int 163)) (eV 3)) (eB addD (eV 3) (eC (.int 8))))) (eC (.int 37))) (eC (.int 5))) aN)) (gN 4))
    (sSeq (sAsg (eCb toInt (aC (eB powD (eB addD (eB mulD (eB modD (eCb toInt (aC (eV 4) aN)) (eC (.int 2147483249))) (eB addD (eB mulD (eC (.int 2)) (eV 3)) (eC (.int 13)))) (eB mulD (eC (.int 50153)) (eV 3))) (eC (.int 3))) aN)) (gN 4))
    (sRet (eB modD (eCb toInt (aC (eB fdvD (eB modD (eCb toInt (aC (eV 4) aN)) (eC (.int 2147483171))) (eC (.int 64))) aN)) (eV 1)))))))))))
def F__law_draw : FF := defF 6 2 b__law_draw
def b__law_choice : FS :=
    (sRet (eB ixD (eV 1) (eCall F__law_draw [] (aC (eV 0) (aC (eCb lenD (aC (eV 1) aN)) aN)))))
def F__law_choice : FF := defF 2 2 b__law_choice
def b__law_text (g : FF) : FS :=
    (sSeq (sIf (tTr (eIsi "str" (eV 0))) (sRet (eV 0)) sNil)
    (sSeq (sAsg (eJn (eC (.str ", ")) (eLc (iE (eB ixD (eV 0) (eC (.int 1)))) (gN 2) tYs (eCall g [] (aC (eV 2) aN)) [2])) (gN 1))
    (sRet (eB addD (eB ixD (eV 0) (eC (.int 0))) (eIf (tB' (eB neD (eB ixD (eV 0) (eC (.int 1))) (eTup aN))) (eB addD (eB addD (eC (.str "(")) (eV 1)) (eC (.str ")"))) (eC (.str "")))))))
def F__law_text : Nat → FF
  | 0 => fun _ _ => .no
  | l + 1 => defF 3 1 (b__law_text (F__law_text l))
def b__law_free (g : FF) : FS :=
    (sSeq (sIf (tOr' (tB' (eB eqD (eV 1) (eC (.int 0)))) (tB' (eB eqD (eCall F__law_draw [] (aC (eV 0) (aC (eC (.int 3)) aN))) (eC (.int 0))))) (sRet (eCall F__law_choice [] (aC (eV 0) (aC (eLst (aC (eC (.str "?a")) (aC (eC (.str "?b")) (aC (eC (.str "?a")) (aC (eC (.str "?zzzzzzzz")) (aC (eTup (aC (eC (.str "x")) (aC (eTup aN) aN))) (aC (eTup (aC (eC (.str "no")) (aC (eTup aN) aN))) aN))))))) aN)))) sNil)
    (sSeq (sAsg (eCall F__law_draw [] (aC (eV 0) (aC (eC (.int 4)) aN))) (gN 2))
    (sRet (eTup (aC (eCall F__law_choice [] (aC (eV 0) (aC (eLst (aC (eC (.str "and")) (aC (eC (.str "f")) (aC (eC (.str "zzzzzzzz")) (aC (eC (.str "x")) aN))))) aN))) (aC (eCb tupleD (aC (eLc (iR1 (aC (eV 2) aN)) (gN 3) tYs (eCall g [] (aC (eV 0) (aC (eB subD (eV 1) (eC (.int 1))) aN))) [3]) aN)) aN))))))
def F__law_free : Nat → FF
  | 0 => fun _ _ => .no
  | l + 1 => defF 4 2 (b__law_free (F__law_free l))
def b__law_pattern_right : FS :=
    (sSeq (sAsg (eCall (F__law_text 40) [] (aC (eV 0) aN)) (gN 1))
    (sSeq (sIf (tB' (eB neD (eCb reprD (aC (eLst (aC (eCall (F_pattern_text 40) [] (aC (eV 0) aN)) (aC (eCallN 0 1 (fun as bs => arr [(1, 0)] as [] bs) (F_pattern_text 40) aN (aC (eV 0) aN)) aN))) aN)) (eCb reprD (aC (eLst (aC (eV 1) (aC (eV 1) aN))) aN)))) (sRet (eC (.bool false))) sNil)
    (sSeq (sAsg (eLst (aC (eCallN 1 0 (fun as bs => arr [(0, 0), (2, 0), (2, 1)] as [.int 0, .int 0] bs) F_pattern_read (aC (eV 1) aN) aN) (aC (eCallN 0 1 (fun as bs => arr [(1, 0), (2, 0), (2, 1)] as [.int 0, .int 0] bs) F_pattern_read aN (aC (eV 1) aN)) (aC (eCallN 1 2 (fun as bs => arr [(0, 0), (1, 0), (1, 1)] as [] bs) F_pattern_read (aC (eV 1) aN) (aC (eC (.int 3)) (aC (eC (.int 5)) aN))) aN)))) (gN 2))
    (sSeq (sAsg (eB addD (eV 2) (eLst (aC (eCallN 1 1 (fun as bs => arr [(0, 0), (2, 0), (1, 0)] as [.int 0] bs) F_pattern_read (aC (eV 1) aN) (aC (eB powD (eC (.int 10)) (eC (.int 20))) aN)) aN))) (gN 2))
    (sRet (eB eqD (eCb reprD (aC (eV 2) aN)) (eCb reprD (aC (eB mulL (eLst (aC (eV 0) aN)) (eC (.int 4))) aN))))))))
def F__law_pattern_right : FF := defF 3 1 b__law_pattern_right
def b__law_rule_right : FS :=
    (sSeq (sAsg (eTup (aC (eV 0) (aC (eV 1) (aC (eV 2) aN)))) (gN 3))
    (sSeq (sAsg (eB addD (eB addD (eB addD (eB addD (eV 0) (eC (.str " "))) (eCall (F__law_text 40) [] (aC (eV 1) aN))) (eC (.str " -> "))) (eCall (F__law_text 40) [] (aC (eV 2) aN))) (gN 4))
    (sSeq (sIf (tB' (eB neD (eCb reprD (aC (eLst (aC (eCall F_rule_text [] (aC (eV 3) aN)) (aC (eCallN 0 1 (fun as bs => arr [(1, 0)] as [] bs) F_rule_text aN (aC (eV 3) aN)) aN))) aN)) (eCb reprD (aC (eLst (aC (eV 4) (aC (eV 4) aN))) aN)))) (sRet (eC (.bool false))) sNil)
    (sSeq (sAsg (eLst (aC (eCallN 1 0 (fun as bs => arr [(0, 0), (2, 0), (2, 1)] as [.int 0, .int 0] bs) F_rule_read (aC (eV 4) aN) aN) (aC (eCallN 0 1 (fun as bs => arr [(1, 0), (2, 0), (2, 1)] as [.int 0, .int 0] bs) F_rule_read aN (aC (eV 4) aN)) (aC (eCallN 1 2 (fun as bs => arr [(0, 0), (1, 0), (1, 1)] as [] bs) F_rule_read (aC (eV 4) aN) (aC (eC (.int 7)) (aC (eC (.int 1)) aN))) (aC (eCallN 1 1 (fun as bs => arr [(0, 0), (1, 0), (2, 0)] as [.int 0] bs) F_rule_read (aC (eV 4) aN) (aC (eB powD (eC (.int 10)) (eC (.int 20))) aN)) aN))))) (gN 5))
    (sRet (eB eqD (eCb reprD (aC (eV 5) aN)) (eCb reprD (aC (eB mulL (eLst (aC (eV 3) aN)) (eC (.int 4))) aN))))))))
def F__law_rule_right : FF := defF 6 3 b__law_rule_right
def b_law : FS :=
    (sSeq (sAsg (eCall F__law_feed [] (aC (eV 0) aN)) (gN 1))
    (sSeq (sAsg (eTup (aC (eC (.str "x")) (aC (eTup aN) aN))) (gN 2))
    (sSeq (sFor (iR1 (aC (eC (.int 30)) aN)) (gN 3)
    (sAsg (eIf (tB' (eB eqD (eB modD (eCb toInt (aC (eV 3) aN)) (eC (.int 2))) (eC (.int 0)))) (eTup (aC (eC (.str "f")) (aC (eTup (aC (eV 2) aN)) aN))) (eTup (aC (eC (.str "and")) (aC (eTup (aC (eV 2) (aC (eC (.str "?a")) aN))) aN)))) (gN 2)))
    (sSeq (sAsg (eTup (aC (eC (.str "f")) (aC (eB addD (eCb tupleD (aC (eLc (iE (eC (.str "abcdegh"))) (gN 10) tYs (eTup (aC (eV 10) (aC (eTup aN) aN))) [10]) aN)) (eTup (aC (eC (.str "?a")) aN))) aN))) (gN 4))
    (sSeq (sIf (tOr' (tNo (tTr (eCall F__law_pattern_right [] (aC (eV 2) aN)))) (tNo (tTr (eCall F__law_rule_right [] (aC (eC (.str "up")) (aC (eV 2) (aC (eV 2) aN))))))) (sRet (eC (.bool false))) sNil)
    (sSeq (sIf (tOr' (tNo (tTr (eCall F__law_pattern_right [] (aC (eV 4) aN)))) (tNo (tTr (eCall F__law_rule_right [] (aC (eC (.str "wide")) (aC (eV 4) (aC (eV 4) aN))))))) (sRet (eC (.bool false))) sNil)
    (sSeq (sAsg (eC (.str "?a")) (gN 5))
    (sSeq (sFor (iR1 (aC (eC (.int 12)) aN)) (gN 6)
    (sSeq (sAsg (eCall (F__law_free 4) [] (aC (eV 1) (aC (eC (.int 2)) aN))) (gN 7))
    (sSeq (sAsg (eCb reprD (aC (eV 7) aN)) (gN 8))
    (sSeq (sIf (tOr' (tNo (tTr (eCall F__law_pattern_right [] (aC (eV 7) aN)))) (tB' (eB neD (eCb reprD (aC (eV 7) aN)) (eV 8)))) (sRet (eC (.bool false))) sNil)
    (sSeq (sAsg (eCall F__law_choice [] (aC (eV 1) (aC (eLst (aC (eC (.str "idem")) (aC (eC (.str "a")) (aC (eC (.str "zzzzzzzz")) (aC (eC (.str "x")) (aC (eC (.str "not")) aN)))))) aN))) (gN 9))
    (sSeq (sIf (tOr' (tNo (tTr (eCall F__law_rule_right [] (aC (eV 9) (aC (eV 7) (aC (eV 5) aN)))))) (tNo (tTr (eCall F__law_rule_right [] (aC (eV 9) (aC (eV 5) (aC (eV 7) aN))))))) (sRet (eC (.bool false))) sNil)
    (sAsg (eV 7) (gN 5))))))))
    (sRet (eC (.bool true)))))))))))
def F_law : FF := defF 11 1 b_law
section
variable {P : Program} {w : World} {K : PySem.W.Frag} {mg : Str → Option Value} {base : Heap}
theorem sc_is_name : FnScope N_is_name P_is_name (defScope s_is_name) := ⟨rfl, rfl, rfl, by decide +kernel, rfl, by decide +kernel, by decide +kernel⟩
theorem G_is_name (T : Tx K mg) : Gx P w K mg base 1 T.d_is_name F_is_name := by
  refine gx_of _ sc_is_name fun cdv A outer s H E hr hg => ?_
  have nd := sc_is_name.nd
  have tk := tkX (P := P) (w := w) (K := K) (mg := mg) (base := base) (x := "is_name") (st := s_is_name) (N := N_is_name) (f := T.d_is_name.f) (cdv := cdv) (A := A) (outer := outer) (s := s) (H := H) (E := E)
  have po := poX (P := P) (w := w) (K := K) (mg := mg) (base := base) (x := "is_name") (st := s_is_name) (N := N_is_name) (f := T.d_is_name.f) (cdv := cdv) (A := A) (outer := outer) (s := s) (H := H) (E := E)
  exact (pssf_cons (psf_if (ptf_w (pwf_or (ptf_not (ptf_tru (pf_isi (T := "str") (pf_var 0) (by rfl) T.b_isinstance (by rfl) T.b_str (by decide +kernel)))) (pwf_or1 (ptf_not (ptf_chain op_leD op_leD pf_int (pf_callB call_lenX (by rfl) T.b_len (by decide +kernel) (paf_cons (pf_var 0) paf_nil)) (pf_gint (by rfl) T.c_LONGEST_NAME.2)))))) (pssf_one (psf_ret pf_bl)) pssf_nil)
    (pssf_one (psf_ret (pf_callB (call_allX rfl) (by rfl) T.b_all (by decide +kernel) (paf_cons (pf_lc (own := [("char", 1)]) rfl nd (pif_any (pf_var 0)) (blkOk_by (own := [("char", 1)]) (N := N_is_name) (sc := defScope s_is_name) (by decide +kernel)) (fun _ _ _ _ _ => (pgf_name (i := 1) nd rfl (by first | exact Or.inl rfl | exact Or.inr rfl))) (fun _ _ _ _ _ => ptsf_nil) (fun _ _ _ _ _ => (pf_cmp (op_inX (hu65 hr)) (pf_var 1) (pf_gstr (by rfl) T.c_LETTERS.2)))) paf_nil)))))
theorem sc_is_variable : FnScope N_is_variable P_is_variable (defScope s_is_variable) := ⟨rfl, rfl, rfl, by decide +kernel, rfl, by decide +kernel, by decide +kernel⟩
theorem G_is_variable (T : Tx K mg) : Gx P w K mg base 2 T.d_is_variable F_is_variable := by
  have G_is_name := G_is_name (P := P) (w := w) (base := base) T
  refine gx_of _ sc_is_variable fun cdv A outer s H E hr hg => ?_
  have nd := sc_is_variable.nd
  have tk := tkX (P := P) (w := w) (K := K) (mg := mg) (base := base) (x := "is_variable") (st := s_is_variable) (N := N_is_variable) (f := T.d_is_variable.f) (cdv := cdv) (A := A) (outer := outer) (s := s) (H := H) (E := E)
  have po := poX (P := P) (w := w) (K := K) (mg := mg) (base := base) (x := "is_variable") (st := s_is_variable) (N := N_is_variable) (f := T.d_is_variable.f) (cdv := cdv) (A := A) (outer := outer) (s := s) (H := H) (E := E)
  exact (pssf_one (psf_ret (pf_and (pf_isi (T := "str") (pf_var 0) (by rfl) T.b_isinstance (by rfl) T.b_str (by decide +kernel)) (pf_and (pf_cmp (op_eqD' (hu64 hr)) (pf_slice (pf_var 0) pof_none (pof_some pf_int)) (pf_gstr (by rfl) T.c_MARK.2)) (pf_one (pf_callR G_is_name (hr.mono (by decide)) hg (by rfl) tk (paf_cons (pf_slice (pf_var 0) (pof_some pf_int) pof_none) paf_nil)))))))
theorem sc_pattern_text : FnScope N_pattern_text P_pattern_text (defScope s_pattern_text) := ⟨rfl, rfl, rfl, by decide +kernel, rfl, by decide +kernel, by decide +kernel⟩
theorem G_pattern_text (T : Tx K mg) : ∀ l, Gx P w K mg base (2 + l) T.d_pattern_text (F_pattern_text l)
  | 0 => gx_no _
  | l + 1 => by
    have G := G_pattern_text T l
    have G_is_variable := G_is_variable (P := P) (w := w) (base := base) T
    refine gx_of (k := 2 + l) _ sc_pattern_text fun cdv A outer s H E hr hg => ?_
    have nd := sc_pattern_text.nd
    have tk := tkX (P := P) (w := w) (K := K) (mg := mg) (base := base) (x := "pattern_text") (st := s_pattern_text) (N := N_pattern_text) (f := T.d_pattern_text.f) (cdv := cdv) (A := A) (outer := outer) (s := s) (H := H) (E := E)
    have po := poX (P := P) (w := w) (K := K) (mg := mg) (base := base) (x := "pattern_text") (st := s_pattern_text) (N := N_pattern_text) (f := T.d_pattern_text.f) (cdv := cdv) (A := A) (outer := outer) (s := s) (H := H) (E := E)
    exact (pssf_cons (psf_if (ptf_tru (pf_callR G_is_variable (hr.mono (by omega)) hg (by rfl) tk (paf_cons (pf_var 0) paf_nil))) (pssf_one (psf_ret (pf_callTy call_strT (by rfl) T.b_str (by decide +kernel) (paf_cons (pf_var 0) paf_nil)))) pssf_nil)
    (pssf_cons (psf_asg (pf_var 0) (pgf_tup rfl (pgsf_cons (pgf_name (i := 2) nd rfl (by first | exact Or.inl rfl | exact Or.inr rfl)) (pgsf_cons (pgf_name (i := 3) nd rfl (by first | exact Or.inl rfl | exact Or.inr rfl)) pgsf_nil))))
    (pssf_cons (psf_set (i := 1) nd rfl (by first | exact Or.inl rfl | exact Or.inr rfl) (pf_join pf_str (pf_lc (own := [("part", 4)]) rfl nd (pif_any (pf_var 3)) (blkOk_by (own := [("part", 4)]) (N := N_pattern_text) (sc := defScope s_pattern_text) (by decide +kernel)) (fun _ _ _ _ _ => (pgf_name (i := 4) nd rfl (by first | exact Or.inl rfl | exact Or.inr rfl))) (fun _ _ _ _ _ => ptsf_nil) (fun _ _ _ _ _ => (pf_callR G (hr.mono (by omega)) hg (by rfl) takesW0 (paf_cons (pf_var 4) paf_nil))))))
    (pssf_one (psf_ret (pf_ifx (ptf_cmp op_gtD (pf_callB call_lenX (by rfl) T.b_len (by decide +kernel) (paf_cons (pf_var 3) paf_nil)) pf_int) (pf_joined (PJf.cons (pf_fmt (pf_var 2)) (PJf.cons pf_str (PJf.cons (pf_fmt (pf_var 1)) (PJf.cons pf_str PJf.nil))))) (pf_callTy call_strT (by rfl) T.b_str (by decide +kernel) (paf_cons (pf_var 2) paf_nil))))))))
theorem sc_rule_text : FnScope N_rule_text P_rule_text (defScope s_rule_text) := ⟨rfl, rfl, rfl, by decide +kernel, rfl, by decide +kernel, by decide +kernel⟩
theorem G_rule_text (T : Tx K mg) : Gx P w K mg base 43 T.d_rule_text F_rule_text := by
  have G_pattern_text := G_pattern_text (P := P) (w := w) (base := base) T 40
  refine gx_of _ sc_rule_text fun cdv A outer s H E hr hg => ?_
  have nd := sc_rule_text.nd
  have tk := tkX (P := P) (w := w) (K := K) (mg := mg) (base := base) (x := "rule_text") (st := s_rule_text) (N := N_rule_text) (f := T.d_rule_text.f) (cdv := cdv) (A := A) (outer := outer) (s := s) (H := H) (E := E)
  have po := poX (P := P) (w := w) (K := K) (mg := mg) (base := base) (x := "rule_text") (st := s_rule_text) (N := N_rule_text) (f := T.d_rule_text.f) (cdv := cdv) (A := A) (outer := outer) (s := s) (H := H) (E := E)
  exact (pssf_cons (psf_asg (pf_var 0) (pgf_tup rfl (pgsf_cons (pgf_name (i := 1) nd rfl (by first | exact Or.inl rfl | exact Or.inr rfl)) (pgsf_cons (pgf_name (i := 2) nd rfl (by first | exact Or.inl rfl | exact Or.inr rfl)) (pgsf_cons (pgf_name (i := 3) nd rfl (by first | exact Or.inl rfl | exact Or.inr rfl)) pgsf_nil)))))
    (pssf_one (psf_ret (pf_joined (PJf.cons (pf_fmt (pf_var 1)) (PJf.cons pf_str (PJf.cons (pf_fmt (pf_callR G_pattern_text (hr.mono (by decide)) hg (by rfl) tk (paf_cons (pf_var 2) paf_nil))) (PJf.cons (pf_fmt (pf_gstr (by rfl) T.c_ARROW.2)) (PJf.cons (pf_fmt (pf_callR G_pattern_text (hr.mono (by decide)) hg (by rfl) tk (paf_cons (pf_var 3) paf_nil))) PJf.nil)))))))))
theorem sc_words_in : FnScope N_words_in P_words_in (defScope s_words_in) := ⟨rfl, rfl, rfl, by decide +kernel, rfl, by decide +kernel, by decide +kernel⟩
theorem G_words_in (T : Tx K mg) : Gx P w K mg base 1 T.d_words_in F_words_in := by
  refine gx_of _ sc_words_in fun cdv A outer s H E hr hg => ?_
  have nd := sc_words_in.nd
  have tk := tkX (P := P) (w := w) (K := K) (mg := mg) (base := base) (x := "words_in") (st := s_words_in) (N := N_words_in) (f := T.d_words_in.f) (cdv := cdv) (A := A) (outer := outer) (s := s) (H := H) (E := E)
  have po := poX (P := P) (w := w) (K := K) (mg := mg) (base := base) (x := "words_in") (st := s_words_in) (N := N_words_in) (f := T.d_words_in.f) (cdv := cdv) (A := A) (outer := outer) (s := s) (H := H) (E := E)
  exact (pssf_cons (psf_set (i := 1) nd rfl (by first | exact Or.inl rfl | exact Or.inr rfl) (pf_lstS paf_nil))
    (pssf_cons (psf_for po rfl (pif_enum (by rfl) T.b_enumerate (paf_cons (pf_var 0) paf_nil)) (pgf_tup rfl (pgsf_cons (pgf_name (i := 2) nd rfl (by first | exact Or.inl rfl | exact Or.inr rfl)) (pgsf_cons (pgf_name (i := 3) nd rfl (by first | exact Or.inl rfl | exact Or.inr rfl)) pgsf_nil)))
    (pssf_one (psf_if (ptf_w (pwf_and (ptf_cmp (op_inX (hu65 hr)) (pf_var 3) (pf_gstr (by rfl) T.c_LETTERS.2)) (pwf_and (ptf_cmp op_gtD (pf_var 2) pf_int) (pwf_and1 (ptf_cmp (op_inX (hu65 hr)) (pf_ix (pf_var 0) (pf_bin op_subD (pf_var 2) pf_int)) (pf_gstr (by rfl) T.c_LETTERS.2)))))) (pssf_one (psf_asg (pf_tup (paf_cons (pf_ix (pf_ix (pf_var 1) (pf_un un_negD pf_int)) pf_int) (paf_cons (pf_bin op_addD (pf_ix (pf_ix (pf_var 1) (pf_un un_negD pf_int)) pf_int) (pf_var 3)) paf_nil))) (pgf_ix (pf_w0 (W := fun c d _ H => E c d H) (pf_var 1)) (pf_w0 (W := fun c d _ H => E c d H) (pf_un un_negD pf_int))))) (pssf_one (psf_expr (pf_lm PySem.F.slot_list_append PySem.F.type_list_append mtL_append (pf_var 1) (paf_cons (pf_tup (paf_cons (pf_var 2) (paf_cons (pf_var 3) paf_nil))) paf_nil)))))))
    (pssf_one (psf_ret (pf_fz (pf_var 1))))))
theorem sc_PatternReader_refuse : FnScope N_PatternReader_refuse P_PatternReader_refuse (defScope s_PatternReader_refuse) := ⟨rfl, rfl, rfl, by decide +kernel, rfl, by decide +kernel, by decide +kernel⟩
theorem G_PatternReader_refuse (T : Tx K mg) : Gm P w K mg base 1 T.m_PatternReader_refuse.f T.m_PatternReader_refuse.fd P_PatternReader_refuse F_PatternReader_refuse := by
  refine gm_of T.m_PatternReader_refuse.fn sc_PatternReader_refuse fun cdv A outer s H E hr hg => ?_
  have nd := sc_PatternReader_refuse.nd
  have tk := tkX (P := P) (w := w) (K := K) (mg := mg) (base := base) (x := "Scanner.refuse") (st := s_PatternReader_refuse) (N := N_PatternReader_refuse) (f := T.m_PatternReader_refuse.f) (cdv := cdv) (A := A) (outer := outer) (s := s) (H := H) (E := E)
  have po := poX (P := P) (w := w) (K := K) (mg := mg) (base := base) (x := "Scanner.refuse") (st := s_PatternReader_refuse) (N := N_PatternReader_refuse) (f := T.m_PatternReader_refuse.f) (cdv := cdv) (A := A) (outer := outer) (s := s) (H := H) (E := E)
  exact (pssf_one psf_no)
theorem sc_PatternReader_index_now : FnScope N_PatternReader_index_now P_PatternReader_index_now (defScope s_PatternReader_index_now) := ⟨rfl, rfl, rfl, by decide +kernel, rfl, by decide +kernel, by decide +kernel⟩
theorem G_PatternReader_index_now (T : Tx K mg) : Gm P w K mg base 1 T.m_PatternReader_index_now.f T.m_PatternReader_index_now.fd P_PatternReader_index_now F_PatternReader_index_now := by
  refine gm_of T.m_PatternReader_index_now.fn sc_PatternReader_index_now fun cdv A outer s H E hr hg => ?_
  have nd := sc_PatternReader_index_now.nd
  have tk := tkX (P := P) (w := w) (K := K) (mg := mg) (base := base) (x := "Scanner.index_now") (st := s_PatternReader_index_now) (N := N_PatternReader_index_now) (f := T.m_PatternReader_index_now.f) (cdv := cdv) (A := A) (outer := outer) (s := s) (H := H) (E := E)
  have po := poX (P := P) (w := w) (K := K) (mg := mg) (base := base) (x := "Scanner.index_now") (st := s_PatternReader_index_now) (N := N_PatternReader_index_now) (f := T.m_PatternReader_index_now.f) (cdv := cdv) (A := A) (outer := outer) (s := s) (H := H) (E := E)
  exact (pssf_one (psf_ret (pf_ifx (ptf_cmp op_ltD (pf_fld T.k_PatternReader T.nf_PatternReader_spot (pf_var 0)) (pf_callB call_lenX (by rfl) T.b_len (by decide +kernel) (paf_cons (pf_fld T.k_PatternReader T.nf_PatternReader_words (pf_var 0)) paf_nil))) (pf_ix (pf_ix (pf_fld T.k_PatternReader T.nf_PatternReader_words (pf_var 0)) (pf_fld T.k_PatternReader T.nf_PatternReader_spot (pf_var 0))) pf_int) (pf_fld T.k_PatternReader T.nf_PatternReader_length (pf_var 0)))))
theorem sc_PatternReader_require : FnScope N_PatternReader_require P_PatternReader_require (defScope s_PatternReader_require) := ⟨rfl, rfl, rfl, by decide +kernel, rfl, by decide +kernel, by decide +kernel⟩
theorem G_PatternReader_require (T : Tx K mg) : Gm P w K mg base 2 T.m_PatternReader_require.f T.m_PatternReader_require.fd P_PatternReader_require F_PatternReader_require := by
  have G_PatternReader_refuse := G_PatternReader_refuse (P := P) (w := w) (base := base) T
  have G_PatternReader_index_now := G_PatternReader_index_now (P := P) (w := w) (base := base) T
  refine gm_of T.m_PatternReader_require.fn sc_PatternReader_require fun cdv A outer s H E hr hg => ?_
  have nd := sc_PatternReader_require.nd
  have tk := tkX (P := P) (w := w) (K := K) (mg := mg) (base := base) (x := "Scanner.require") (st := s_PatternReader_require) (N := N_PatternReader_require) (f := T.m_PatternReader_require.f) (cdv := cdv) (A := A) (outer := outer) (s := s) (H := H) (E := E)
  have po := poX (P := P) (w := w) (K := K) (mg := mg) (base := base) (x := "Scanner.require") (st := s_PatternReader_require) (N := N_PatternReader_require) (f := T.m_PatternReader_require.f) (cdv := cdv) (A := A) (outer := outer) (s := s) (H := H) (E := E)
  exact (pssf_one (psf_if (ptf_not (ptf_tru (pf_var 1))) (pssf_one (psf_expr (pf_meth (M := T.m_PatternReader_refuse) G_PatternReader_refuse (hr.mono (by decide)) hg tk (pf_var 0) (paf_cons (pf_meth0 (M := T.m_PatternReader_index_now) G_PatternReader_index_now (hr.mono (by decide)) hg tk (pf_var 0)) paf_nil)))) pssf_nil))
theorem sc_PatternReader_present : FnScope N_PatternReader_present P_PatternReader_present (defScope s_PatternReader_present) := ⟨rfl, rfl, rfl, by decide +kernel, rfl, by decide +kernel, by decide +kernel⟩
theorem G_PatternReader_present (T : Tx K mg) : Gm P w K mg base 1 T.m_PatternReader_present.f T.m_PatternReader_present.fd P_PatternReader_present F_PatternReader_present := by
  refine gm_of T.m_PatternReader_present.fn sc_PatternReader_present fun cdv A outer s H E hr hg => ?_
  have nd := sc_PatternReader_present.nd
  have tk := tkX (P := P) (w := w) (K := K) (mg := mg) (base := base) (x := "Scanner.present") (st := s_PatternReader_present) (N := N_PatternReader_present) (f := T.m_PatternReader_present.f) (cdv := cdv) (A := A) (outer := outer) (s := s) (H := H) (E := E)
  have po := poX (P := P) (w := w) (K := K) (mg := mg) (base := base) (x := "Scanner.present") (st := s_PatternReader_present) (N := N_PatternReader_present) (f := T.m_PatternReader_present.f) (cdv := cdv) (A := A) (outer := outer) (s := s) (H := H) (E := E)
  exact (pssf_one (psf_ret (pf_ifx (ptf_cmp op_ltD (pf_fld T.k_PatternReader T.nf_PatternReader_spot (pf_var 0)) (pf_callB call_lenX (by rfl) T.b_len (by decide +kernel) (paf_cons (pf_fld T.k_PatternReader T.nf_PatternReader_words (pf_var 0)) paf_nil))) (pf_ix (pf_ix (pf_fld T.k_PatternReader T.nf_PatternReader_words (pf_var 0)) (pf_fld T.k_PatternReader T.nf_PatternReader_spot (pf_var 0))) pf_int) pf_str)))
theorem sc_PatternReader_take : FnScope N_PatternReader_take P_PatternReader_take (defScope s_PatternReader_take) := ⟨rfl, rfl, rfl, by decide +kernel, rfl, by decide +kernel, by decide +kernel⟩
theorem G_PatternReader_take (T : Tx K mg) : Gm P w K mg base 3 T.m_PatternReader_take.f T.m_PatternReader_take.fd P_PatternReader_take F_PatternReader_take := by
  have G_PatternReader_require := G_PatternReader_require (P := P) (w := w) (base := base) T
  have G_PatternReader_present := G_PatternReader_present (P := P) (w := w) (base := base) T
  refine gm_of T.m_PatternReader_take.fn sc_PatternReader_take fun cdv A outer s H E hr hg => ?_
  have nd := sc_PatternReader_take.nd
  have tk := tkX (P := P) (w := w) (K := K) (mg := mg) (base := base) (x := "Scanner.take") (st := s_PatternReader_take) (N := N_PatternReader_take) (f := T.m_PatternReader_take.f) (cdv := cdv) (A := A) (outer := outer) (s := s) (H := H) (E := E)
  have po := poX (P := P) (w := w) (K := K) (mg := mg) (base := base) (x := "Scanner.take") (st := s_PatternReader_take) (N := N_PatternReader_take) (f := T.m_PatternReader_take.f) (cdv := cdv) (A := A) (outer := outer) (s := s) (H := H) (E := E)
  exact (pssf_cons (psf_expr (pf_meth (M := T.m_PatternReader_require) G_PatternReader_require (hr.mono (by decide)) hg tk (pf_var 0) (paf_cons (pf_cmp (op_eqD' (hu64 hr)) (pf_meth0 (M := T.m_PatternReader_present) G_PatternReader_present (hr.mono (by decide)) hg tk (pf_var 0)) (pf_var 1)) paf_nil)))
    (pssf_one (psf_fldA T.k_PatternReader T.nf_PatternReader_spot (pf_var 0) pf_int)))
theorem sc_PatternReader_name : FnScope N_PatternReader_name P_PatternReader_name (defScope s_PatternReader_name) := ⟨rfl, rfl, rfl, by decide +kernel, rfl, by decide +kernel, by decide +kernel⟩
theorem G_PatternReader_name (T : Tx K mg) : Gm P w K mg base 3 T.m_PatternReader_name.f T.m_PatternReader_name.fd P_PatternReader_name F_PatternReader_name := by
  have G_PatternReader_present := G_PatternReader_present (P := P) (w := w) (base := base) T
  have G_PatternReader_require := G_PatternReader_require (P := P) (w := w) (base := base) T
  have G_is_name := G_is_name (P := P) (w := w) (base := base) T
  refine gm_of T.m_PatternReader_name.fn sc_PatternReader_name fun cdv A outer s H E hr hg => ?_
  have nd := sc_PatternReader_name.nd
  have tk := tkX (P := P) (w := w) (K := K) (mg := mg) (base := base) (x := "Scanner.name") (st := s_PatternReader_name) (N := N_PatternReader_name) (f := T.m_PatternReader_name.f) (cdv := cdv) (A := A) (outer := outer) (s := s) (H := H) (E := E)
  have po := poX (P := P) (w := w) (K := K) (mg := mg) (base := base) (x := "Scanner.name") (st := s_PatternReader_name) (N := N_PatternReader_name) (f := T.m_PatternReader_name.f) (cdv := cdv) (A := A) (outer := outer) (s := s) (H := H) (E := E)
  exact (pssf_cons (psf_set (i := 1) nd rfl (by first | exact Or.inl rfl | exact Or.inr rfl) (pf_meth0 (M := T.m_PatternReader_present) G_PatternReader_present (hr.mono (by decide)) hg tk (pf_var 0)))
    (pssf_cons (psf_expr (pf_meth (M := T.m_PatternReader_require) G_PatternReader_require (hr.mono (by decide)) hg tk (pf_var 0) (paf_cons (pf_callR G_is_name (hr.mono (by decide)) hg (by rfl) tk (paf_cons (pf_var 1) paf_nil)) paf_nil)))
    (pssf_cons (psf_fldA T.k_PatternReader T.nf_PatternReader_spot (pf_var 0) pf_int)
    (pssf_one (psf_ret (pf_var 1))))))
theorem sc_PatternReader_opening : FnScope N_PatternReader_opening P_PatternReader_opening (defScope s_PatternReader_opening) := ⟨rfl, rfl, rfl, by decide +kernel, rfl, by decide +kernel, by decide +kernel⟩
theorem G_PatternReader_opening (T : Tx K mg) : Gm P w K mg base 4 T.m_PatternReader_opening.f T.m_PatternReader_opening.fd P_PatternReader_opening F_PatternReader_opening := by
  have G_PatternReader_take := G_PatternReader_take (P := P) (w := w) (base := base) T
  have G_PatternReader_present := G_PatternReader_present (P := P) (w := w) (base := base) T
  have G_PatternReader_name := G_PatternReader_name (P := P) (w := w) (base := base) T
  refine gm_of T.m_PatternReader_opening.fn sc_PatternReader_opening fun cdv A outer s H E hr hg => ?_
  have nd := sc_PatternReader_opening.nd
  have tk := tkX (P := P) (w := w) (K := K) (mg := mg) (base := base) (x := "PatternReader.opening") (st := s_PatternReader_opening) (N := N_PatternReader_opening) (f := T.m_PatternReader_opening.f) (cdv := cdv) (A := A) (outer := outer) (s := s) (H := H) (E := E)
  have po := poX (P := P) (w := w) (K := K) (mg := mg) (base := base) (x := "PatternReader.opening") (st := s_PatternReader_opening) (N := N_PatternReader_opening) (f := T.m_PatternReader_opening.f) (cdv := cdv) (A := A) (outer := outer) (s := s) (H := H) (E := E)
  exact (pssf_cons (psf_if (ptf_cmp (op_neD' (hu64 hr)) (pf_meth0 (M := T.m_PatternReader_present) G_PatternReader_present (hr.mono (by decide)) hg tk (pf_var 0)) (pf_gstr (by rfl) T.c_MARK.2)) (pssf_one (psf_ret (pf_meth0 (M := T.m_PatternReader_name) G_PatternReader_name (hr.mono (by decide)) hg tk (pf_var 0)))) pssf_nil)
    (pssf_cons (psf_expr (pf_meth (M := T.m_PatternReader_take) G_PatternReader_take (hr.mono (by decide)) hg tk (pf_var 0) (paf_cons (pf_gstr (by rfl) T.c_MARK.2) paf_nil)))
    (pssf_one (psf_ret (pf_bin op_addD (pf_gstr (by rfl) T.c_MARK.2) (pf_meth0 (M := T.m_PatternReader_name) G_PatternReader_name (hr.mono (by decide)) hg tk (pf_var 0)))))))
theorem sc_PatternReader_can_hold : FnScope N_PatternReader_can_hold P_PatternReader_can_hold (defScope s_PatternReader_can_hold) := ⟨rfl, rfl, rfl, by decide +kernel, rfl, by decide +kernel, by decide +kernel⟩
theorem G_PatternReader_can_hold (T : Tx K mg) : Gm P w K mg base 3 T.m_PatternReader_can_hold.f T.m_PatternReader_can_hold.fd P_PatternReader_can_hold F_PatternReader_can_hold := by
  have G_is_variable := G_is_variable (P := P) (w := w) (base := base) T
  refine gm_of T.m_PatternReader_can_hold.fn sc_PatternReader_can_hold fun cdv A outer s H E hr hg => ?_
  have nd := sc_PatternReader_can_hold.nd
  have tk := tkX (P := P) (w := w) (K := K) (mg := mg) (base := base) (x := "PatternReader.can_hold") (st := s_PatternReader_can_hold) (N := N_PatternReader_can_hold) (f := T.m_PatternReader_can_hold.f) (cdv := cdv) (A := A) (outer := outer) (s := s) (H := H) (E := E)
  have po := poX (P := P) (w := w) (K := K) (mg := mg) (base := base) (x := "PatternReader.can_hold") (st := s_PatternReader_can_hold) (N := N_PatternReader_can_hold) (f := T.m_PatternReader_can_hold.f) (cdv := cdv) (A := A) (outer := outer) (s := s) (H := H) (E := E)
  exact (pssf_one (psf_ret (pf_not (pf_callR G_is_variable (hr.mono (by decide)) hg (by rfl) tk (paf_cons (pf_var 1) paf_nil)))))
theorem sc_PatternReader_closed : FnScope N_PatternReader_closed P_PatternReader_closed (defScope s_PatternReader_closed) := ⟨rfl, rfl, rfl, by decide +kernel, rfl, by decide +kernel, by decide +kernel⟩
theorem G_PatternReader_closed (T : Tx K mg) : Gm P w K mg base 3 T.m_PatternReader_closed.f T.m_PatternReader_closed.fd P_PatternReader_closed F_PatternReader_closed := by
  have G_is_variable := G_is_variable (P := P) (w := w) (base := base) T
  refine gm_of T.m_PatternReader_closed.fn sc_PatternReader_closed fun cdv A outer s H E hr hg => ?_
  have nd := sc_PatternReader_closed.nd
  have tk := tkX (P := P) (w := w) (K := K) (mg := mg) (base := base) (x := "PatternReader.closed") (st := s_PatternReader_closed) (N := N_PatternReader_closed) (f := T.m_PatternReader_closed.f) (cdv := cdv) (A := A) (outer := outer) (s := s) (H := H) (E := E)
  have po := poX (P := P) (w := w) (K := K) (mg := mg) (base := base) (x := "PatternReader.closed") (st := s_PatternReader_closed) (N := N_PatternReader_closed) (f := T.m_PatternReader_closed.f) (cdv := cdv) (A := A) (outer := outer) (s := s) (H := H) (E := E)
  exact (pssf_one (psf_ret (pf_ifx (ptf_tru (pf_callR G_is_variable (hr.mono (by decide)) hg (by rfl) tk (paf_cons (pf_var 1) paf_nil))) (pf_var 1) (pf_tup (paf_cons (pf_var 1) (paf_cons (pf_var 2) paf_nil))))))
theorem sc_PatternReader_whole : FnScope N_PatternReader_whole P_PatternReader_whole (defScope s_PatternReader_whole) := ⟨rfl, rfl, rfl, by decide +kernel, rfl, by decide +kernel, by decide +kernel⟩
theorem G_PatternReader_whole (T : Tx K mg) : Gm P w K mg base 5 T.m_PatternReader_whole.f T.m_PatternReader_whole.fd P_PatternReader_whole F_PatternReader_whole := by
  have G_PatternReader_opening := G_PatternReader_opening (P := P) (w := w) (base := base) T
  have G_PatternReader_closed := G_PatternReader_closed (P := P) (w := w) (base := base) T
  have G_PatternReader_take := G_PatternReader_take (P := P) (w := w) (base := base) T
  have G_PatternReader_can_hold := G_PatternReader_can_hold (P := P) (w := w) (base := base) T
  have G_PatternReader_require := G_PatternReader_require (P := P) (w := w) (base := base) T
  have G_PatternReader_present := G_PatternReader_present (P := P) (w := w) (base := base) T
  refine gm_of T.m_PatternReader_whole.fn sc_PatternReader_whole fun cdv A outer s H E hr hg => ?_
  have nd := sc_PatternReader_whole.nd
  have tk := tkX (P := P) (w := w) (K := K) (mg := mg) (base := base) (x := "Nested.whole") (st := s_PatternReader_whole) (N := N_PatternReader_whole) (f := T.m_PatternReader_whole.f) (cdv := cdv) (A := A) (outer := outer) (s := s) (H := H) (E := E)
  have po := poX (P := P) (w := w) (K := K) (mg := mg) (base := base) (x := "Nested.whole") (st := s_PatternReader_whole) (N := N_PatternReader_whole) (f := T.m_PatternReader_whole.f) (cdv := cdv) (A := A) (outer := outer) (s := s) (H := H) (E := E)
  exact (pssf_cons (psf_set (i := 1) nd rfl (by first | exact Or.inl rfl | exact Or.inr rfl) (pf_lstS paf_nil))
    (pssf_one (psf_while po (ptf_tru pf_bl)
    (pssf_cons (psf_set (i := 2) nd rfl (by first | exact Or.inl rfl | exact Or.inr rfl) (pf_meth0 (M := T.m_PatternReader_opening) G_PatternReader_opening (hr.mono (by decide)) hg tk (pf_var 0)))
    (pssf_cons (psf_if (ptf_w (pwf_and (ptf_cmp (op_eqD' (hu64 hr)) (pf_meth0 (M := T.m_PatternReader_present) G_PatternReader_present (hr.mono (by decide)) hg tk (pf_var 0)) (pf_gstr (by rfl) T.c_BEGIN.2)) (pwf_and1 (ptf_tru (pf_meth (M := T.m_PatternReader_can_hold) G_PatternReader_can_hold (hr.mono (by decide)) hg tk (pf_var 0) (paf_cons (pf_var 2) paf_nil)))))) (pssf_cons (psf_expr (pf_meth (M := T.m_PatternReader_require) G_PatternReader_require (hr.mono (by decide)) hg tk (pf_var 0) (paf_cons (pf_cmp op_ltD (pf_callB call_lenX (by rfl) T.b_len (by decide +kernel) (paf_cons (pf_var 1) paf_nil)) (pf_gint (by rfl) T.c_MOST_OPEN.2)) paf_nil)))
    (pssf_cons (psf_expr (pf_meth (M := T.m_PatternReader_take) G_PatternReader_take (hr.mono (by decide)) hg tk (pf_var 0) (paf_cons (pf_gstr (by rfl) T.c_BEGIN.2) paf_nil)))
    (pssf_cons (psf_expr (pf_lm PySem.F.slot_list_append PySem.F.type_list_append mtL_append (pf_var 1) (paf_cons (pf_tup (paf_cons (pf_var 2) (paf_cons (pf_lstS paf_nil) paf_nil))) paf_nil)))
    (pssf_one psf_continue)))) pssf_nil)
    (pssf_cons (psf_set (i := 3) nd rfl (by first | exact Or.inl rfl | exact Or.inr rfl) (pf_meth (M := T.m_PatternReader_closed) G_PatternReader_closed (hr.mono (by decide)) hg tk (pf_var 0) (paf_cons (pf_var 2) (paf_cons (pf_tup paf_nil) paf_nil))))
    (pssf_cons (psf_while po (ptf_cmp (op_neL (hu64 hr)) (pf_var 1) (pf_lst paf_nil))
    (pssf_cons (psf_expr (pf_lm PySem.F.slot_list_append PySem.F.type_list_append mtL_append (pf_ix (pf_ix (pf_var 1) (pf_un un_negD pf_int)) pf_int) (paf_cons (pf_var 3) paf_nil)))
    (pssf_cons (psf_if (ptf_cmp (op_eqD' (hu64 hr)) (pf_meth0 (M := T.m_PatternReader_present) G_PatternReader_present (hr.mono (by decide)) hg tk (pf_var 0)) (pf_gstr (by rfl) T.c_COMMA.2)) (pssf_one psf_break) pssf_nil)
    (pssf_cons (psf_expr (pf_meth (M := T.m_PatternReader_take) G_PatternReader_take (hr.mono (by decide)) hg tk (pf_var 0) (paf_cons (pf_gstr (by rfl) T.c_END.2) paf_nil)))
    (pssf_cons (psf_asg (pf_lm0 PySem.F.slot_list_pop PySem.F.type_list_pop mtL_pop (pf_var 1)) (pgf_tup rfl (pgsf_cons (pgf_name (i := 2) nd rfl (by first | exact Or.inl rfl | exact Or.inr rfl)) (pgsf_cons (pgf_name (i := 4) nd rfl (by first | exact Or.inl rfl | exact Or.inr rfl)) pgsf_nil))))
    (pssf_one (psf_set (i := 3) nd rfl (by first | exact Or.inl rfl | exact Or.inr rfl) (pf_meth (M := T.m_PatternReader_closed) G_PatternReader_closed (hr.mono (by decide)) hg tk (pf_var 0) (paf_cons (pf_var 2) (paf_cons (pf_callTy call_tupleX (by rfl) T.b_tuple (by decide +kernel) (paf_cons (pf_var 4) paf_nil)) paf_nil))))))))))
    (pssf_cons (psf_if (ptf_cmp (op_eqL (hu64 hr)) (pf_var 1) (pf_lst paf_nil)) (pssf_one (psf_ret (pf_var 3))) pssf_nil)
    (pssf_cons (psf_expr (pf_meth (M := T.m_PatternReader_take) G_PatternReader_take (hr.mono (by decide)) hg tk (pf_var 0) (paf_cons (pf_gstr (by rfl) T.c_COMMA.2) paf_nil)))
    (pssf_one (psf_expr (pf_meth (M := T.m_PatternReader_take) G_PatternReader_take (hr.mono (by decide)) hg tk (pf_var 0) (paf_cons (pf_gstr (by rfl) T.c_SPACE.2) paf_nil)))))))))))))
theorem sc_PatternReader___init__ : FnScope N_PatternReader___init__ P_PatternReader___init__ (defScope s_PatternReader___init__) := ⟨rfl, rfl, rfl, by decide +kernel, rfl, by decide +kernel, by decide +kernel⟩
theorem G_PatternReader___init__ (T : Tx K mg) : Gm P w K mg base 2 T.m_PatternReader___init__.f T.m_PatternReader___init__.fd P_PatternReader___init__ F_PatternReader___init__ := by
  have G_words_in := G_words_in (P := P) (w := w) (base := base) T
  refine gm_of T.m_PatternReader___init__.fn sc_PatternReader___init__ fun cdv A outer s H E hr hg => ?_
  have nd := sc_PatternReader___init__.nd
  have tk := tkX (P := P) (w := w) (K := K) (mg := mg) (base := base) (x := "Scanner.__init__") (st := s_PatternReader___init__) (N := N_PatternReader___init__) (f := T.m_PatternReader___init__.f) (cdv := cdv) (A := A) (outer := outer) (s := s) (H := H) (E := E)
  have po := poX (P := P) (w := w) (K := K) (mg := mg) (base := base) (x := "Scanner.__init__") (st := s_PatternReader___init__) (N := N_PatternReader___init__) (f := T.m_PatternReader___init__.f) (cdv := cdv) (A := A) (outer := outer) (s := s) (H := H) (E := E)
  exact (pssf_cons (psf_fld T.k_PatternReader T.nf_PatternReader_words (pf_var 0) (pf_callR G_words_in (hr.mono (by decide)) hg (by rfl) tk (paf_cons (pf_var 1) paf_nil)))
    (pssf_cons (psf_fld T.k_PatternReader T.nf_PatternReader_length (pf_var 0) (pf_callB call_lenX (by rfl) T.b_len (by decide +kernel) (paf_cons (pf_var 1) paf_nil)))
    (pssf_cons (psf_fld T.k_PatternReader T.nf_PatternReader_line_held (pf_var 0) (pf_var 2))
    (pssf_cons (psf_fld T.k_PatternReader T.nf_PatternReader_first_field (pf_var 0) (pf_var 3))
    (pssf_one (psf_fld T.k_PatternReader T.nf_PatternReader_spot (pf_var 0) pf_int))))))
theorem sc_PatternReader_finish : FnScope N_PatternReader_finish P_PatternReader_finish (defScope s_PatternReader_finish) := ⟨rfl, rfl, rfl, by decide +kernel, rfl, by decide +kernel, by decide +kernel⟩
theorem G_PatternReader_finish (T : Tx K mg) : Gm P w K mg base 3 T.m_PatternReader_finish.f T.m_PatternReader_finish.fd P_PatternReader_finish F_PatternReader_finish := by
  have G_PatternReader_require := G_PatternReader_require (P := P) (w := w) (base := base) T
  refine gm_of T.m_PatternReader_finish.fn sc_PatternReader_finish fun cdv A outer s H E hr hg => ?_
  have nd := sc_PatternReader_finish.nd
  have tk := tkX (P := P) (w := w) (K := K) (mg := mg) (base := base) (x := "Scanner.finish") (st := s_PatternReader_finish) (N := N_PatternReader_finish) (f := T.m_PatternReader_finish.f) (cdv := cdv) (A := A) (outer := outer) (s := s) (H := H) (E := E)
  have po := poX (P := P) (w := w) (K := K) (mg := mg) (base := base) (x := "Scanner.finish") (st := s_PatternReader_finish) (N := N_PatternReader_finish) (f := T.m_PatternReader_finish.f) (cdv := cdv) (A := A) (outer := outer) (s := s) (H := H) (E := E)
  exact (pssf_one (psf_expr (pf_meth (M := T.m_PatternReader_require) G_PatternReader_require (hr.mono (by decide)) hg tk (pf_var 0) (paf_cons (pf_cmp (op_eqD' (hu64 hr)) (pf_fld T.k_PatternReader T.nf_PatternReader_spot (pf_var 0)) (pf_callB call_lenX (by rfl) T.b_len (by decide +kernel) (paf_cons (pf_fld T.k_PatternReader T.nf_PatternReader_words (pf_var 0)) paf_nil))) paf_nil))))
theorem sc_pattern_read : FnScope N_pattern_read P_pattern_read (defScope s_pattern_read) := ⟨rfl, rfl, rfl, by decide +kernel, rfl, by decide +kernel, by decide +kernel⟩
theorem G_pattern_read (T : Tx K mg) : Gm P w K mg base 6 T.d_pattern_read.f T.d_pattern_read.fd P_pattern_read F_pattern_read := by
  have G_PatternReader___init__ := G_PatternReader___init__ (P := P) (w := w) (base := base) T
  have G_PatternReader_whole := G_PatternReader_whole (P := P) (w := w) (base := base) T
  have G_PatternReader_finish := G_PatternReader_finish (P := P) (w := w) (base := base) T
  refine gm_of T.d_pattern_read.fn sc_pattern_read fun cdv A outer s H E hr hg => ?_
  have nd := sc_pattern_read.nd
  have tk := tkX (P := P) (w := w) (K := K) (mg := mg) (base := base) (x := "pattern_read") (st := s_pattern_read) (N := N_pattern_read) (f := T.d_pattern_read.f) (cdv := cdv) (A := A) (outer := outer) (s := s) (H := H) (E := E)
  have po := poX (P := P) (w := w) (K := K) (mg := mg) (base := base) (x := "pattern_read") (st := s_pattern_read) (N := N_pattern_read) (f := T.d_pattern_read.f) (cdv := cdv) (A := A) (outer := outer) (s := s) (H := H) (E := E)
  exact (pssf_cons (psf_set (i := 3) nd rfl (by first | exact Or.inl rfl | exact Or.inr rfl) (pf_mk (D := T.k_PatternReader) T.mk_PatternReader G_PatternReader___init__ (hr.mono (by decide)) hg T.m_PatternReader___init__.bd (by rfl) tk (paf_cons (pf_var 0) (paf_cons (pf_var 1) (paf_cons (pf_var 2) paf_nil)))))
    (pssf_cons (psf_set (i := 4) nd rfl (by first | exact Or.inl rfl | exact Or.inr rfl) (pf_meth0 (M := T.m_PatternReader_whole) G_PatternReader_whole (hr.mono (by decide)) hg tk (pf_var 3)))
    (pssf_cons (psf_expr (pf_meth0 (M := T.m_PatternReader_finish) G_PatternReader_finish (hr.mono (by decide)) hg tk (pf_var 3)))
    (pssf_one (psf_ret (pf_var 4))))))
theorem sc_rule_read : FnScope N_rule_read P_rule_read (defScope s_rule_read) := ⟨rfl, rfl, rfl, by decide +kernel, rfl, by decide +kernel, by decide +kernel⟩
theorem G_rule_read (T : Tx K mg) : Gm P w K mg base 6 T.d_rule_read.f T.d_rule_read.fd P_rule_read F_rule_read := by
  have G_PatternReader___init__ := G_PatternReader___init__ (P := P) (w := w) (base := base) T
  have G_PatternReader_name := G_PatternReader_name (P := P) (w := w) (base := base) T
  have G_PatternReader_take := G_PatternReader_take (P := P) (w := w) (base := base) T
  have G_PatternReader_whole := G_PatternReader_whole (P := P) (w := w) (base := base) T
  have G_PatternReader_finish := G_PatternReader_finish (P := P) (w := w) (base := base) T
  refine gm_of T.d_rule_read.fn sc_rule_read fun cdv A outer s H E hr hg => ?_
  have nd := sc_rule_read.nd
  have tk := tkX (P := P) (w := w) (K := K) (mg := mg) (base := base) (x := "rule_read") (st := s_rule_read) (N := N_rule_read) (f := T.d_rule_read.f) (cdv := cdv) (A := A) (outer := outer) (s := s) (H := H) (E := E)
  have po := poX (P := P) (w := w) (K := K) (mg := mg) (base := base) (x := "rule_read") (st := s_rule_read) (N := N_rule_read) (f := T.d_rule_read.f) (cdv := cdv) (A := A) (outer := outer) (s := s) (H := H) (E := E)
  exact (pssf_cons (psf_set (i := 3) nd rfl (by first | exact Or.inl rfl | exact Or.inr rfl) (pf_mk (D := T.k_PatternReader) T.mk_PatternReader G_PatternReader___init__ (hr.mono (by decide)) hg T.m_PatternReader___init__.bd (by rfl) tk (paf_cons (pf_var 0) (paf_cons (pf_var 1) (paf_cons (pf_var 2) paf_nil)))))
    (pssf_cons (psf_set (i := 4) nd rfl (by first | exact Or.inl rfl | exact Or.inr rfl) (pf_meth0 (M := T.m_PatternReader_name) G_PatternReader_name (hr.mono (by decide)) hg tk (pf_var 3)))
    (pssf_cons (psf_expr (pf_meth (M := T.m_PatternReader_take) G_PatternReader_take (hr.mono (by decide)) hg tk (pf_var 3) (paf_cons (pf_gstr (by rfl) T.c_SPACE.2) paf_nil)))
    (pssf_cons (psf_set (i := 5) nd rfl (by first | exact Or.inl rfl | exact Or.inr rfl) (pf_meth0 (M := T.m_PatternReader_whole) G_PatternReader_whole (hr.mono (by decide)) hg tk (pf_var 3)))
    (pssf_cons (psf_for po rfl (pif_any (pf_gstr (by rfl) T.c_ARROW.2)) (pgf_name (i := 6) nd rfl (by first | exact Or.inl rfl | exact Or.inr rfl))
    (pssf_one (psf_expr (pf_meth (M := T.m_PatternReader_take) G_PatternReader_take (hr.mono (by decide)) hg tk (pf_var 3) (paf_cons (pf_var 6) paf_nil)))))
    (pssf_cons (psf_set (i := 7) nd rfl (by first | exact Or.inl rfl | exact Or.inr rfl) (pf_meth0 (M := T.m_PatternReader_whole) G_PatternReader_whole (hr.mono (by decide)) hg tk (pf_var 3)))
    (pssf_cons (psf_expr (pf_meth0 (M := T.m_PatternReader_finish) G_PatternReader_finish (hr.mono (by decide)) hg tk (pf_var 3)))
    (pssf_one (psf_ret (pf_tup (paf_cons (pf_var 4) (paf_cons (pf_var 5) (paf_cons (pf_var 7) paf_nil)))))))))))))
theorem sc__law_feed : FnScope N__law_feed P__law_feed (defScope s__law_feed) := ⟨rfl, rfl, rfl, by decide +kernel, rfl, by decide +kernel, by decide +kernel⟩
theorem G__law_feed (T : Tx K mg) : Gx P w K mg base 1 T.d__law_feed F__law_feed := by
  refine gx_of _ sc__law_feed fun cdv A outer s H E hr hg => ?_
  have nd := sc__law_feed.nd
  have tk := tkX (P := P) (w := w) (K := K) (mg := mg) (base := base) (x := "_law_feed") (st := s__law_feed) (N := N__law_feed) (f := T.d__law_feed.f) (cdv := cdv) (A := A) (outer := outer) (s := s) (H := H) (E := E)
  have po := poX (P := P) (w := w) (K := K) (mg := mg) (base := base) (x := "_law_feed") (st := s__law_feed) (N := N__law_feed) (f := T.d__law_feed.f) (cdv := cdv) (A := A) (outer := outer) (s := s) (H := H) (E := E)
  exact (pssf_one (psf_ret (pf_lstS (paf_cons (pf_callTy call_listX (by rfl) T.b_list (by decide +kernel) (paf_cons (pf_slice (pf_var 0) pof_none (pof_some pf_int)) paf_nil)) (paf_cons pf_int (paf_cons pf_int (paf_cons pf_int paf_nil)))))))
theorem sc__law_draw : FnScope N__law_draw P__law_draw (defScope s__law_draw) := ⟨rfl, rfl, rfl, by decide +kernel, rfl, by decide +kernel, by decide +kernel⟩
theorem G__law_draw (T : Tx K mg) : Gx P w K mg base 1 T.d__law_draw F__law_draw := by
  refine gx_of _ sc__law_draw fun cdv A outer s H E hr hg => ?_
  have nd := sc__law_draw.nd
  have tk := tkX (P := P) (w := w) (K := K) (mg := mg) (base := base) (x := "_law_draw") (st := s__law_draw) (N := N__law_draw) (f := T.d__law_draw.f) (cdv := cdv) (A := A) (outer := outer) (s := s) (H := H) (E := E)
  have po := poX (P := P) (w := w) (K := K) (mg := mg) (base := base) (x := "_law_draw") (st := s__law_draw) (N := N__law_draw) (f := T.d__law_draw.f) (cdv := cdv) (A := A) (outer := outer) (s := s) (H := H) (E := E)
  exact (pssf_cons (psf_asg (pf_bin op_addD (pf_ix (pf_var 0) pf_int) pf_int) (pgf_ix (pf_w0 (W := fun c d _ H => E c d H) (pf_var 0)) (pf_w0 (W := fun c d _ H => E c d H) pf_int)))
    (pssf_cons (psf_if (ptf_cmp op_gtD (pf_ix (pf_var 0) pf_int) pf_int) (pssf_cons (psf_set (i := 5) nd rfl (by first | exact Or.inl rfl | exact Or.inr rfl) (pf_bin op_modD (pf_callTy call_intX (by rfl) T.b_int (by decide +kernel) (paf_cons (pf_ix (pf_var 0) pf_int) paf_nil)) (pf_var 1)))
    (pssf_cons (psf_asg (pf_bin op_fdvD (pf_ix (pf_var 0) pf_int) (pf_var 1)) (pgf_ix (pf_w0 (W := fun c d _ H => E c d H) (pf_var 0)) (pf_w0 (W := fun c d _ H => E c d H) pf_int)))
    (pssf_one (psf_ret (pf_var 5))))) pssf_nil)
    (pssf_cons (psf_set (i := 2) nd rfl (by first | exact Or.inl rfl | exact Or.inr rfl) (pf_ifx (ptf_cmp (op_neL (hu64 hr)) (pf_ix (pf_var 0) pf_int) (pf_lst paf_nil)) (pf_ix (pf_ix (pf_var 0) pf_int) (pf_bin op_modD (pf_callTy call_intX (by rfl) T.b_int (by decide +kernel) (paf_cons (pf_ix (pf_var 0) pf_int) paf_nil)) (pf_callB call_lenX (by rfl) T.b_len (by decide +kernel) (paf_cons (pf_ix (pf_var 0) pf_int) paf_nil)))) pf_int))
    (pssf_cons (psf_asg (pf_bin op_addD (pf_ix (pf_var 0) pf_int) pf_int) (pgf_ix (pf_w0 (W := fun c d _ H => E c d H) (pf_var 0)) (pf_w0 (W := fun c d _ H => E c d H) pf_int)))
    (pssf_cons (psf_if (ptf_w (pwf_and (ptf_cmp op_geD (pf_var 2) (pf_bin op_powD pf_int pf_int)) (pwf_and1 (ptf_cmp op_leD (pf_ix (pf_var 0) pf_int) (pf_callB call_lenX (by rfl) T.b_len (by decide +kernel) (paf_cons (pf_ix (pf_var 0) pf_int) paf_nil)))))) (pssf_cons (psf_asg (pf_bin op_fdvD (pf_var 2) (pf_var 1)) (pgf_ix (pf_w0 (W := fun c d _ H => E c d H) (pf_var 0)) (pf_w0 (W := fun c d _ H => E c d H) pf_int)))
    (pssf_one (psf_ret (pf_bin op_modD (pf_callTy call_intX (by rfl) T.b_int (by decide +kernel) (paf_cons (pf_var 2) paf_nil)) (pf_var 1))))) pssf_nil)
    (pssf_cons (psf_set (i := 3) nd rfl (by first | exact Or.inl rfl | exact Or.inr rfl) (pf_ix (pf_var 0) pf_int))
    (pssf_cons (psf_set (i := 4) nd rfl (by first | exact Or.inl rfl | exact Or.inr rfl) (pf_callTy call_intX (by rfl) T.b_int (by decide +kernel) (paf_cons (pf_bin op_powD (pf_bin op_addD (pf_bin op_addD (pf_bin op_modD (pf_callTy call_intX (by rfl) T.b_int (by decide +kernel) (paf_cons (pf_var 2) paf_nil)) pf_int) (pf_bin op_mulD (pf_bin op_mulD pf_int (pf_var 3)) (pf_bin op_addD (pf_var 3) pf_int))) pf_int) pf_int) paf_nil)))
    (pssf_cons (psf_set (i := 4) nd rfl (by first | exact Or.inl rfl | exact Or.inr rfl) (pf_callTy call_intX (by rfl) T.b_int (by decide +kernel) (paf_cons (pf_bin op_powD (pf_bin op_addD (pf_bin op_mulD (pf_bin op_modD (pf_callTy call_intX (by rfl) T.b_int (by decide +kernel) (paf_cons (pf_var 4) paf_nil)) pf_int) (pf_bin op_addD (pf_bin op_mulD pf_int (pf_var 3)) pf_int)) (pf_bin op_mulD pf_int (pf_var 3))) pf_int) paf_nil)))
    (pssf_one (psf_ret (pf_bin op_modD (pf_callTy call_intX (by rfl) T.b_int (by decide +kernel) (paf_cons (pf_bin op_fdvD (pf_bin op_modD (pf_callTy call_intX (by rfl) T.b_int (by decide +kernel) (paf_cons (pf_var 4) paf_nil)) pf_int) pf_int) paf_nil)) (pf_var 1))))))))))))
theorem sc__law_choice : FnScope N__law_choice P__law_choice (defScope s__law_choice) := ⟨rfl, rfl, rfl, by decide +kernel, rfl, by decide +kernel, by decide +kernel⟩
theorem G__law_choice (T : Tx K mg) : Gx P w K mg base 2 T.d__law_choice F__law_choice := by
  have G__law_draw := G__law_draw (P := P) (w := w) (base := base) T
  refine gx_of _ sc__law_choice fun cdv A outer s H E hr hg => ?_
  have nd := sc__law_choice.nd
  have tk := tkX (P := P) (w := w) (K := K) (mg := mg) (base := base) (x := "_law_choice") (st := s__law_choice) (N := N__law_choice) (f := T.d__law_choice.f) (cdv := cdv) (A := A) (outer := outer) (s := s) (H := H) (E := E)
  have po := poX (P := P) (w := w) (K := K) (mg := mg) (base := base) (x := "_law_choice") (st := s__law_choice) (N := N__law_choice) (f := T.d__law_choice.f) (cdv := cdv) (A := A) (outer := outer) (s := s) (H := H) (E := E)
  exact (pssf_one (psf_ret (pf_ix (pf_var 1) (pf_callR G__law_draw (hr.mono (by decide)) hg (by rfl) tk (paf_cons (pf_var 0) (paf_cons (pf_callB call_lenX (by rfl) T.b_len (by decide +kernel) (paf_cons (pf_var 1) paf_nil)) paf_nil))))))
theorem sc__law_text : FnScope N__law_text P__law_text (defScope s__law_text) := ⟨rfl, rfl, rfl, by decide +kernel, rfl, by decide +kernel, by decide +kernel⟩
theorem G__law_text (T : Tx K mg) : ∀ l, Gx P w K mg base (0 + l) T.d__law_text (F__law_text l)
  | 0 => gx_no _
  | l + 1 => by
    have G := G__law_text T l
    refine gx_of (k := 0 + l) _ sc__law_text fun cdv A outer s H E hr hg => ?_
    have nd := sc__law_text.nd
    have tk := tkX (P := P) (w := w) (K := K) (mg := mg) (base := base) (x := "_law_text") (st := s__law_text) (N := N__law_text) (f := T.d__law_text.f) (cdv := cdv) (A := A) (outer := outer) (s := s) (H := H) (E := E)
    have po := poX (P := P) (w := w) (K := K) (mg := mg) (base := base) (x := "_law_text") (st := s__law_text) (N := N__law_text) (f := T.d__law_text.f) (cdv := cdv) (A := A) (outer := outer) (s := s) (H := H) (E := E)
    exact (pssf_cons (psf_if (ptf_tru (pf_isi (T := "str") (pf_var 0) (by rfl) T.b_isinstance (by rfl) T.b_str (by decide +kernel))) (pssf_one (psf_ret (pf_var 0))) pssf_nil)
    (pssf_cons (psf_set (i := 1) nd rfl (by first | exact Or.inl rfl | exact Or.inr rfl) (pf_join pf_str (pf_lc (own := [("_law_part", 2)]) rfl nd (pif_any (pf_ix (pf_var 0) pf_int)) (blkOk_by (own := [("_law_part", 2)]) (N := N__law_text) (sc := defScope s__law_text) (by decide +kernel)) (fun _ _ _ _ _ => (pgf_name (i := 2) nd rfl (by first | exact Or.inl rfl | exact Or.inr rfl))) (fun _ _ _ _ _ => ptsf_nil) (fun _ _ _ _ _ => (pf_callR G (hr.mono (by omega)) hg (by rfl) takesW0 (paf_cons (pf_var 2) paf_nil))))))
    (pssf_one (psf_ret (pf_bin op_addD (pf_ix (pf_var 0) pf_int) (pf_ifx (ptf_cmp (op_neD' (hu64 hr)) (pf_ix (pf_var 0) pf_int) (pf_tup paf_nil)) (pf_bin op_addD (pf_bin op_addD pf_str (pf_var 1)) pf_str) pf_str))))))
theorem sc__law_free : FnScope N__law_free P__law_free (defScope s__law_free) := ⟨rfl, rfl, rfl, by decide +kernel, rfl, by decide +kernel, by decide +kernel⟩
theorem G__law_free (T : Tx K mg) : ∀ l, Gx P w K mg base (2 + l) T.d__law_free (F__law_free l)
  | 0 => gx_no _
  | l + 1 => by
    have G := G__law_free T l
    have G__law_draw := G__law_draw (P := P) (w := w) (base := base) T
    have G__law_choice := G__law_choice (P := P) (w := w) (base := base) T
    refine gx_of (k := 2 + l) _ sc__law_free fun cdv A outer s H E hr hg => ?_
    have nd := sc__law_free.nd
    have tk := tkX (P := P) (w := w) (K := K) (mg := mg) (base := base) (x := "_law_free") (st := s__law_free) (N := N__law_free) (f := T.d__law_free.f) (cdv := cdv) (A := A) (outer := outer) (s := s) (H := H) (E := E)
    have po := poX (P := P) (w := w) (K := K) (mg := mg) (base := base) (x := "_law_free") (st := s__law_free) (N := N__law_free) (f := T.d__law_free.f) (cdv := cdv) (A := A) (outer := outer) (s := s) (H := H) (E := E)
    exact (pssf_cons (psf_if (ptf_w (pwf_or (ptf_cmp (op_eqD' (hu64 hr)) (pf_var 1) pf_int) (pwf_or1 (ptf_cmp (op_eqD' (hu64 hr)) (pf_callR G__law_draw (hr.mono (by omega)) hg (by rfl) tk (paf_cons (pf_var 0) (paf_cons pf_int paf_nil))) pf_int)))) (pssf_one (psf_ret (pf_callR G__law_choice (hr.mono (by omega)) hg (by rfl) tk (paf_cons (pf_var 0) (paf_cons (pf_lst (paf_cons pf_str (paf_cons pf_str (paf_cons pf_str (paf_cons pf_str (paf_cons (pf_tup (paf_cons pf_str (paf_cons (pf_tup paf_nil) paf_nil))) (paf_cons (pf_tup (paf_cons pf_str (paf_cons (pf_tup paf_nil) paf_nil))) paf_nil))))))) paf_nil))))) pssf_nil)
    (pssf_cons (psf_set (i := 2) nd rfl (by first | exact Or.inl rfl | exact Or.inr rfl) (pf_callR G__law_draw (hr.mono (by omega)) hg (by rfl) tk (paf_cons (pf_var 0) (paf_cons pf_int paf_nil))))
    (pssf_one (psf_ret (pf_tup (paf_cons (pf_callR G__law_choice (hr.mono (by omega)) hg (by rfl) tk (paf_cons (pf_var 0) (paf_cons (pf_lst (paf_cons pf_str (paf_cons pf_str (paf_cons pf_str (paf_cons pf_str paf_nil))))) paf_nil))) (paf_cons (pf_callTy call_tupleX (by rfl) T.b_tuple (by decide +kernel) (paf_cons (pf_lc (own := [("_law_k", 3)]) rfl nd (pif_range1 (by rfl) T.b_range (paf_cons (pf_var 2) paf_nil)) (blkOk_by (own := [("_law_k", 3)]) (N := N__law_free) (sc := defScope s__law_free) (by decide +kernel)) (fun _ _ _ _ _ => (pgf_name (i := 3) nd rfl (by first | exact Or.inl rfl | exact Or.inr rfl))) (fun _ _ _ _ _ => ptsf_nil) (fun _ _ _ _ _ => (pf_callR G (hr.mono (by omega)) hg (by rfl) takesW0 (paf_cons (pf_var 0) (paf_cons (pf_bin op_subD (pf_var 1) pf_int) paf_nil))))) paf_nil)) paf_nil)))))))
theorem sc__law_pattern_right : FnScope N__law_pattern_right P__law_pattern_right (defScope s__law_pattern_right) := ⟨rfl, rfl, rfl, by decide +kernel, rfl, by decide +kernel, by decide +kernel⟩
theorem G__law_pattern_right (T : Tx K mg) : Gx P w K mg base 43 T.d__law_pattern_right F__law_pattern_right := by
  have G__law_text := G__law_text (P := P) (w := w) (base := base) T 40
  have G_pattern_read := G_pattern_read (P := P) (w := w) (base := base) T
  have G_pattern_text := G_pattern_text (P := P) (w := w) (base := base) T 40
  refine gx_of _ sc__law_pattern_right fun cdv A outer s H E hr hg => ?_
  have nd := sc__law_pattern_right.nd
  have tk := tkX (P := P) (w := w) (K := K) (mg := mg) (base := base) (x := "_law_pattern_right") (st := s__law_pattern_right) (N := N__law_pattern_right) (f := T.d__law_pattern_right.f) (cdv := cdv) (A := A) (outer := outer) (s := s) (H := H) (E := E)
  have po := poX (P := P) (w := w) (K := K) (mg := mg) (base := base) (x := "_law_pattern_right") (st := s__law_pattern_right) (N := N__law_pattern_right) (f := T.d__law_pattern_right.f) (cdv := cdv) (A := A) (outer := outer) (s := s) (H := H) (E := E)
  exact (pssf_cons (psf_set (i := 1) nd rfl (by first | exact Or.inl rfl | exact Or.inr rfl) (pf_callR G__law_text (hr.mono (by decide)) hg (by rfl) tk (paf_cons (pf_var 0) paf_nil)))
    (pssf_cons (psf_if (ptf_cmp (op_neD' (hu64 hr)) (pf_callB (call_reprX hg (hu70 hr)) (by rfl) T.b_repr (by decide +kernel) (paf_cons (pf_lst (paf_cons (pf_callR G_pattern_text (hr.mono (by decide)) hg (by rfl) tk (paf_cons (pf_var 0) paf_nil)) (paf_cons (pf_callN0 (Gx.gm G_pattern_text) (hr.mono (by decide)) hg (by rfl) T.d_pattern_text.at_ T.d_pattern_text.fn.kp T.kb_pattern_text_0_pattern tk (pkf_cons (pf_var 0) pkf_nil)) paf_nil))) paf_nil)) (pf_callB (call_reprX hg (hu70 hr)) (by rfl) T.b_repr (by decide +kernel) (paf_cons (pf_lst (paf_cons (pf_var 1) (paf_cons (pf_var 1) paf_nil))) paf_nil))) (pssf_one (psf_ret pf_bl)) pssf_nil)
    (pssf_cons (psf_set (i := 2) nd rfl (by first | exact Or.inl rfl | exact Or.inr rfl) (pf_lst (paf_cons (pf_callN G_pattern_read (hr.mono (by decide)) hg (by rfl) T.d_pattern_read.at_ T.d_pattern_read.fn.kp T.kb_pattern_read_1_ tk (paf_cons (pf_var 1) paf_nil) pkf_nil) (paf_cons (pf_callN0 G_pattern_read (hr.mono (by decide)) hg (by rfl) T.d_pattern_read.at_ T.d_pattern_read.fn.kp T.kb_pattern_read_0_text tk (pkf_cons (pf_var 1) pkf_nil)) (paf_cons (pf_callN G_pattern_read (hr.mono (by decide)) hg (by rfl) T.d_pattern_read.at_ T.d_pattern_read.fn.kp T.kb_pattern_read_1_line_field tk (paf_cons (pf_var 1) paf_nil) (pkf_cons pf_int (pkf_cons pf_int pkf_nil))) paf_nil)))))
    (pssf_cons (psf_set (i := 2) nd rfl (by first | exact Or.inl rfl | exact Or.inr rfl) (pf_bin op_addD (pf_var 2) (pf_lst (paf_cons (pf_callN G_pattern_read (hr.mono (by decide)) hg (by rfl) T.d_pattern_read.at_ T.d_pattern_read.fn.kp T.kb_pattern_read_1_field tk (paf_cons (pf_var 1) paf_nil) (pkf_cons (pf_bin op_powD pf_int pf_int) pkf_nil)) paf_nil))))
    (pssf_one (psf_ret (pf_cmp (op_eqD' (hu64 hr)) (pf_callB (call_reprX hg (hu70 hr)) (by rfl) T.b_repr (by decide +kernel) (paf_cons (pf_var 2) paf_nil)) (pf_callB (call_reprX hg (hu70 hr)) (by rfl) T.b_repr (by decide +kernel) (paf_cons (pf_bin op_mulL (pf_lst (paf_cons (pf_var 0) paf_nil)) pf_int) paf_nil)))))))))
theorem sc__law_rule_right : FnScope N__law_rule_right P__law_rule_right (defScope s__law_rule_right) := ⟨rfl, rfl, rfl, by decide +kernel, rfl, by decide +kernel, by decide +kernel⟩
theorem G__law_rule_right (T : Tx K mg) : Gx P w K mg base 44 T.d__law_rule_right F__law_rule_right := by
  have G__law_text := G__law_text (P := P) (w := w) (base := base) T 40
  have G_rule_read := G_rule_read (P := P) (w := w) (base := base) T
  have G_rule_text := G_rule_text (P := P) (w := w) (base := base) T
  refine gx_of _ sc__law_rule_right fun cdv A outer s H E hr hg => ?_
  have nd := sc__law_rule_right.nd
  have tk := tkX (P := P) (w := w) (K := K) (mg := mg) (base := base) (x := "_law_rule_right") (st := s__law_rule_right) (N := N__law_rule_right) (f := T.d__law_rule_right.f) (cdv := cdv) (A := A) (outer := outer) (s := s) (H := H) (E := E)
  have po := poX (P := P) (w := w) (K := K) (mg := mg) (base := base) (x := "_law_rule_right") (st := s__law_rule_right) (N := N__law_rule_right) (f := T.d__law_rule_right.f) (cdv := cdv) (A := A) (outer := outer) (s := s) (H := H) (E := E)
  exact (pssf_cons (psf_set (i := 3) nd rfl (by first | exact Or.inl rfl | exact Or.inr rfl) (pf_tup (paf_cons (pf_var 0) (paf_cons (pf_var 1) (paf_cons (pf_var 2) paf_nil)))))
    (pssf_cons (psf_set (i := 4) nd rfl (by first | exact Or.inl rfl | exact Or.inr rfl) (pf_bin op_addD (pf_bin op_addD (pf_bin op_addD (pf_bin op_addD (pf_var 0) pf_str) (pf_callR G__law_text (hr.mono (by decide)) hg (by rfl) tk (paf_cons (pf_var 1) paf_nil))) pf_str) (pf_callR G__law_text (hr.mono (by decide)) hg (by rfl) tk (paf_cons (pf_var 2) paf_nil))))
    (pssf_cons (psf_if (ptf_cmp (op_neD' (hu64 hr)) (pf_callB (call_reprX hg (hu70 hr)) (by rfl) T.b_repr (by decide +kernel) (paf_cons (pf_lst (paf_cons (pf_callR G_rule_text (hr.mono (by decide)) hg (by rfl) tk (paf_cons (pf_var 3) paf_nil)) (paf_cons (pf_callN0 (Gx.gm G_rule_text) (hr.mono (by decide)) hg (by rfl) T.d_rule_text.at_ T.d_rule_text.fn.kp T.kb_rule_text_0_rule tk (pkf_cons (pf_var 3) pkf_nil)) paf_nil))) paf_nil)) (pf_callB (call_reprX hg (hu70 hr)) (by rfl) T.b_repr (by decide +kernel) (paf_cons (pf_lst (paf_cons (pf_var 4) (paf_cons (pf_var 4) paf_nil))) paf_nil))) (pssf_one (psf_ret pf_bl)) pssf_nil)
    (pssf_cons (psf_set (i := 5) nd rfl (by first | exact Or.inl rfl | exact Or.inr rfl) (pf_lst (paf_cons (pf_callN G_rule_read (hr.mono (by decide)) hg (by rfl) T.d_rule_read.at_ T.d_rule_read.fn.kp T.kb_rule_read_1_ tk (paf_cons (pf_var 4) paf_nil) pkf_nil) (paf_cons (pf_callN0 G_rule_read (hr.mono (by decide)) hg (by rfl) T.d_rule_read.at_ T.d_rule_read.fn.kp T.kb_rule_read_0_text tk (pkf_cons (pf_var 4) pkf_nil)) (paf_cons (pf_callN G_rule_read (hr.mono (by decide)) hg (by rfl) T.d_rule_read.at_ T.d_rule_read.fn.kp T.kb_rule_read_1_line_field tk (paf_cons (pf_var 4) paf_nil) (pkf_cons pf_int (pkf_cons pf_int pkf_nil))) (paf_cons (pf_callN G_rule_read (hr.mono (by decide)) hg (by rfl) T.d_rule_read.at_ T.d_rule_read.fn.kp T.kb_rule_read_1_line tk (paf_cons (pf_var 4) paf_nil) (pkf_cons (pf_bin op_powD pf_int pf_int) pkf_nil)) paf_nil))))))
    (pssf_one (psf_ret (pf_cmp (op_eqD' (hu64 hr)) (pf_callB (call_reprX hg (hu70 hr)) (by rfl) T.b_repr (by decide +kernel) (paf_cons (pf_var 5) paf_nil)) (pf_callB (call_reprX hg (hu70 hr)) (by rfl) T.b_repr (by decide +kernel) (paf_cons (pf_bin op_mulL (pf_lst (paf_cons (pf_var 3) paf_nil)) pf_int) paf_nil)))))))))
theorem sc_law : FnScope N_law P_law (defScope s_law) := ⟨rfl, rfl, rfl, by decide +kernel, rfl, by decide +kernel, by decide +kernel⟩
theorem G_law (T : Tx K mg) : Gx P w K mg base 45 T.d_law F_law := by
  have G__law_feed := G__law_feed (P := P) (w := w) (base := base) T
  have G__law_free := G__law_free (P := P) (w := w) (base := base) T 4
  have G__law_choice := G__law_choice (P := P) (w := w) (base := base) T
  have G__law_pattern_right := G__law_pattern_right (P := P) (w := w) (base := base) T
  have G__law_rule_right := G__law_rule_right (P := P) (w := w) (base := base) T
  refine gx_of _ sc_law fun cdv A outer s H E hr hg => ?_
  have nd := sc_law.nd
  have tk := tkX (P := P) (w := w) (K := K) (mg := mg) (base := base) (x := "law") (st := s_law) (N := N_law) (f := T.d_law.f) (cdv := cdv) (A := A) (outer := outer) (s := s) (H := H) (E := E)
  have po := poX (P := P) (w := w) (K := K) (mg := mg) (base := base) (x := "law") (st := s_law) (N := N_law) (f := T.d_law.f) (cdv := cdv) (A := A) (outer := outer) (s := s) (H := H) (E := E)
  exact (pssf_cons (psf_set (i := 1) nd rfl (by first | exact Or.inl rfl | exact Or.inr rfl) (pf_callR G__law_feed (hr.mono (by decide)) hg (by rfl) tk (paf_cons (pf_var 0) paf_nil)))
    (pssf_cons (psf_set (i := 2) nd rfl (by first | exact Or.inl rfl | exact Or.inr rfl) (pf_tup (paf_cons pf_str (paf_cons (pf_tup paf_nil) paf_nil))))
    (pssf_cons (psf_for po rfl (pif_range1 (by rfl) T.b_range (paf_cons pf_int paf_nil)) (pgf_name (i := 3) nd rfl (by first | exact Or.inl rfl | exact Or.inr rfl))
    (pssf_one (psf_set (i := 2) nd rfl (by first | exact Or.inl rfl | exact Or.inr rfl) (pf_ifx (ptf_cmp (op_eqD' (hu64 hr)) (pf_bin op_modD (pf_callTy call_intX (by rfl) T.b_int (by decide +kernel) (paf_cons (pf_var 3) paf_nil)) pf_int) pf_int) (pf_tup (paf_cons pf_str (paf_cons (pf_tup (paf_cons (pf_var 2) paf_nil)) paf_nil))) (pf_tup (paf_cons pf_str (paf_cons (pf_tup (paf_cons (pf_var 2) (paf_cons pf_str paf_nil))) paf_nil)))))))
    (pssf_cons (psf_set (i := 4) nd rfl (by first | exact Or.inl rfl | exact Or.inr rfl) (pf_tup (paf_cons pf_str (paf_cons (pf_bin op_addD (pf_callTy call_tupleX (by rfl) T.b_tuple (by decide +kernel) (paf_cons (pf_lc (own := [("_law_c", 10)]) rfl nd (pif_any pf_str) (blkOk_by (own := [("_law_c", 10)]) (N := N_law) (sc := defScope s_law) (by decide +kernel)) (fun _ _ _ _ _ => (pgf_name (i := 10) nd rfl (by first | exact Or.inl rfl | exact Or.inr rfl))) (fun _ _ _ _ _ => ptsf_nil) (fun _ _ _ _ _ => (pf_tup (paf_cons (pf_var 10) (paf_cons (pf_tup paf_nil) paf_nil))))) paf_nil)) (pf_tup (paf_cons pf_str paf_nil))) paf_nil))))
    (pssf_cons (psf_if (ptf_w (pwf_or (ptf_not (ptf_tru (pf_callR G__law_pattern_right (hr.mono (by decide)) hg (by rfl) tk (paf_cons (pf_var 2) paf_nil)))) (pwf_or1 (ptf_not (ptf_tru (pf_callR G__law_rule_right (hr.mono (by decide)) hg (by rfl) tk (paf_cons pf_str (paf_cons (pf_var 2) (paf_cons (pf_var 2) paf_nil))))))))) (pssf_one (psf_ret pf_bl)) pssf_nil)
    (pssf_cons (psf_if (ptf_w (pwf_or (ptf_not (ptf_tru (pf_callR G__law_pattern_right (hr.mono (by decide)) hg (by rfl) tk (paf_cons (pf_var 4) paf_nil)))) (pwf_or1 (ptf_not (ptf_tru (pf_callR G__law_rule_right (hr.mono (by decide)) hg (by rfl) tk (paf_cons pf_str (paf_cons (pf_var 4) (paf_cons (pf_var 4) paf_nil))))))))) (pssf_one (psf_ret pf_bl)) pssf_nil)
    (pssf_cons (psf_set (i := 5) nd rfl (by first | exact Or.inl rfl | exact Or.inr rfl) pf_str)
    (pssf_cons (psf_for po rfl (pif_range1 (by rfl) T.b_range (paf_cons pf_int paf_nil)) (pgf_name (i := 6) nd rfl (by first | exact Or.inl rfl | exact Or.inr rfl))
    (pssf_cons (psf_set (i := 7) nd rfl (by first | exact Or.inl rfl | exact Or.inr rfl) (pf_callR G__law_free (hr.mono (by decide)) hg (by rfl) tk (paf_cons (pf_var 1) (paf_cons pf_int paf_nil))))
    (pssf_cons (psf_set (i := 8) nd rfl (by first | exact Or.inl rfl | exact Or.inr rfl) (pf_callB (call_reprX hg (hu70 hr)) (by rfl) T.b_repr (by decide +kernel) (paf_cons (pf_var 7) paf_nil)))
    (pssf_cons (psf_if (ptf_w (pwf_or (ptf_not (ptf_tru (pf_callR G__law_pattern_right (hr.mono (by decide)) hg (by rfl) tk (paf_cons (pf_var 7) paf_nil)))) (pwf_or1 (ptf_cmp (op_neD' (hu64 hr)) (pf_callB (call_reprX hg (hu70 hr)) (by rfl) T.b_repr (by decide +kernel) (paf_cons (pf_var 7) paf_nil)) (pf_var 8))))) (pssf_one (psf_ret pf_bl)) pssf_nil)
    (pssf_cons (psf_set (i := 9) nd rfl (by first | exact Or.inl rfl | exact Or.inr rfl) (pf_callR G__law_choice (hr.mono (by decide)) hg (by rfl) tk (paf_cons (pf_var 1) (paf_cons (pf_lst (paf_cons pf_str (paf_cons pf_str (paf_cons pf_str (paf_cons pf_str (paf_cons pf_str paf_nil)))))) paf_nil))))
    (pssf_cons (psf_if (ptf_w (pwf_or (ptf_not (ptf_tru (pf_callR G__law_rule_right (hr.mono (by decide)) hg (by rfl) tk (paf_cons (pf_var 9) (paf_cons (pf_var 7) (paf_cons (pf_var 5) paf_nil)))))) (pwf_or1 (ptf_not (ptf_tru (pf_callR G__law_rule_right (hr.mono (by decide)) hg (by rfl) tk (paf_cons (pf_var 9) (paf_cons (pf_var 5) (paf_cons (pf_var 7) paf_nil))))))))) (pssf_one (psf_ret pf_bl)) pssf_nil)
    (pssf_one (psf_set (i := 5) nd rfl (by first | exact Or.inl rfl | exact Or.inr rfl) (pf_var 7)))))))))
    (pssf_one (psf_ret pf_bl))))))))))
end
end Tk

set_option Elab.async false
set_option linter.all false
set_option maxRecDepth 100000
set_option maxHeartbeats 4000000
namespace Tk
open PySem L2 Td
theorem leave_rt {w' : Ws} {n : Nat} {d : PyData} (h : w'.length = n) : leave n (.rt d w') = .ok d w' := by
  subst h
  simp only [leave]
  split
  · rw [List.take_length]
  · rfl
theorem k_ii : kitB "int" "int" = some true := by decide +kernel
theorem k_ib : kitB "int" "bool" = some false := by decide +kernel
theorem k_is : kitB "int" "str" = some false := by decide +kernel
theorem k_it : kitB "int" "tuple" = some false := by decide +kernel
theorem k_bi : kitB "bool" "int" = some true := by decide +kernel
theorem k_bb : kitB "bool" "bool" = some true := by decide +kernel
theorem k_bs : kitB "bool" "str" = some false := by decide +kernel
theorem k_bt : kitB "bool" "tuple" = some false := by decide +kernel
theorem k_si : kitB "str" "int" = some false := by decide +kernel
theorem k_sb : kitB "str" "bool" = some false := by decide +kernel
theorem k_ss : kitB "str" "str" = some true := by decide +kernel
theorem k_st : kitB "str" "tuple" = some false := by decide +kernel
theorem k_ti : kitB "tuple" "int" = some false := by decide +kernel
theorem k_tb : kitB "tuple" "bool" = some false := by decide +kernel
theorem k_ts : kitB "tuple" "str" = some false := by decide +kernel
theorem k_tt : kitB "tuple" "tuple" = some true := by decide +kernel
theorem k_li : kitB "list" "int" = some false := by decide +kernel
theorem k_lb : kitB "list" "bool" = some false := by decide +kernel
theorem k_ls : kitB "list" "str" = some false := by decide +kernel
theorem k_lt : kitB "list" "tuple" = some false := by decide +kernel
theorem k_ni : kitB "NoneType" "int" = some false := by decide +kernel
theorem k_nb : kitB "NoneType" "bool" = some false := by decide +kernel
theorem k_ns : kitB "NoneType" "str" = some false := by decide +kernel
theorem k_nt : kitB "NoneType" "tuple" = some false := by decide +kernel
/-- data without the store's objects -/
def isD : PyData → Bool
  | .none => true
  | .bool _ => true
  | .int _ => true
  | .str _ => true
  | .list _ => true
  | .tuple _ => true
  | .dict _ => false
/-! comprehensions that change nothing -/
theorem lcL_pure {gt : FG} {tt : FT} {fe : FE} {ρ : Ev} {w : Ws} (p : PyData → Bool) (f : PyData → PyData) : ∀ (ds acc : List PyData), acc.length + ds.length ≤ sizeLine →
    (∀ d ∈ ds, ∃ ρ1, gt d ρ w = .ok ρ1 w ∧ tt ρ1 w = .ok (p d) w ∧ (p d = true → fe ρ1 w = .ok (f d) w)) → lcL gt tt fe ρ ds w acc = .ok (acc ++ (ds.filter p).map f) w
  | [], acc, _, _ => by simp [lcL]
  | d :: ds, acc, hs, h => by
    obtain ⟨ρ1, h1, h2, h3⟩ := h d List.mem_cons_self
    have hs' : acc.length + (ds.length + 1) ≤ sizeLine := hs
    cases hp : p d with
    | false =>
      rw [hp] at h2
      have ih := lcL_pure p f ds acc (by omega) fun x hx => h x (List.mem_cons_of_mem _ hx)
      simp only [lcL, h1, h2, ih, List.filter_cons, hp]
      rfl
    | true =>
      rw [hp] at h2
      have ih := lcL_pure p f ds (acc ++ [f d]) (by rw [List.length_append]; simp; omega) fun x hx => h x (List.mem_cons_of_mem _ hx)
      simp only [lcL, h1, h2, h3 hp, ih, List.filter_cons, hp, if_pos (show acc.length < sizeLine by omega)]
      simp
theorem lcL_map {gt : FG} {fe : FE} {ρ : Ev} {w : Ws} (f : PyData → PyData) (ds : List PyData) (hs : ds.length ≤ sizeLine) (h : ∀ d ∈ ds, ∃ ρ1, gt d ρ w = .ok ρ1 w ∧ fe ρ1 w = .ok (f d) w) : lcL gt tYs fe ρ ds w [] = .ok (ds.map f) w := by
  have := lcL_pure (gt := gt) (tt := tYs) (fe := fe) (ρ := ρ) (w := w) (fun _ => true) f ds [] (by simpa using hs) fun d hd => by
    obtain ⟨ρ1, h1, h2⟩ := h d hd
    exact ⟨ρ1, h1, rfl, fun _ => h2⟩
  rw [this, List.filter_eq_self.mpr (fun _ _ => rfl), List.nil_append]
theorem boolsOf_map {α : Type} (f : α → Bool) : ∀ xs : List α, boolsOf (xs.map fun x => PyData.bool (f x)) = some (xs.map f)
  | [] => rfl
  | x :: xs => by simp [boolsOf, boolsOf_map f xs]
theorem all_map_id {α : Type} (f : α → Bool) (xs : List α) : (xs.map f).all id = xs.all f := by simp [List.all_map]
def letters : Str := "abcdefghijklmnopqrstuvwxyz"
def letB (c : Nat) : Bool := decide (c ∈ letters.cps.toList)
def nameS (z : Str) : Bool := decide (1 ≤ z.length) && decide (z.length ≤ 8) && z.cps.toList.all letB
def nameB : PyData → Bool
  | .str z => nameS z
  | _ => false
theorem chD_len (z : Str) : (chD z).length = z.length := by simp [chD, Str.length]
/-- the size of a text -/
def szD : PyData → Bool
  | .none => true
  | .bool _ => true
  | .int _ => true
  | .str z => szOk z.length && PyData.strOk z
  | .list _ => true
  | .tuple _ => true
  | .dict _ => true
theorem is_name_ok (d : PyData) (w : Ws) (h : isD d = true) (hs : szD d = true) : F_is_name [d] w = .ok (.bool (nameB d)) w := by
  cases d with
  | str z =>
    have hz' : szOk z.length = true := ((Bool.and_eq_true _ _).mp hs).1
    have hz : z.length ≤ sizeLine := of_decide_eq_true hz'
    have key : ∀ ρ : Ev, 2 ≤ ρ.length → lcL (gN 1) tYs (eB inD (eV 1) (eC (.str "abcdefghijklmnopqrstuvwxyz"))) ρ (chD z) w [] = .ok ((chD z).map fun d => .bool (match d with | .str y => strIn y letters | _ => false)) w := by
      intro ρ hρ
      refine lcL_map _ _ (by rw [chD_len]; exact hz) fun d hd => ?_
      obtain ⟨c, _, rfl⟩ := List.mem_map.mp hd
      refine ⟨_, rfl, ?_⟩
      simp [eB, eV, eC, Oc.bind, Oc.of, inD, isIn, letters, show 1 < ρ.length by omega]
    have kk := key [some (.str z), none] (by simp)
    by_cases h1 : 1 ≤ z.length
    · have h1' : decide ((1 : Int) ≤ (z.length : Int)) = true := decide_eq_true (by omega)
      by_cases h2 : z.length ≤ 8
      · have h2' : decide ((z.length : Int) ≤ 8) = true := decide_eq_true (by omega)
        simp [F_is_name, b_is_name, defF, startE, sRet, sExp, sIf, sSeq, sAsg, sFor, gN, gT, gC, gZ, eAn, eOr, eNo, eIf, eIsi, eV, eC, eB, eU, eCb, eCall, eSl, oN, oS, eTup, eLst, aN, aC, eLc, eCh, tAn, tOr', tNo, tB', tTr, tYs, iE, iZ, iR1, iR2, sNil, Oc.bind, Oc.thenS, Oc.of, Oc.on, tyD, leave_rt, truD, List.replicate, List.set, List.append_nil, List.nil_append, List.cons_append, wipeE, cond_true, cond_false, k_ii, k_ib, k_is, k_it, k_bi, k_bb, k_bs, k_bt, k_si, k_sb, k_ss, k_st, k_ti, k_tb, k_ts, k_tt, k_li, k_lb, k_ls, k_lt, k_ni, k_nb, k_ns, k_nt, nameB, nameS, lenD, leD, cmpD, hz', h1, h2, h1', h2', itD, allD, qD, lstOf, kk, boolsOf_map, all_map_id]
        have eL : letB = fun c => decide (c ∈ letters.cps) := by funext c; simp [letB]
        simp [chD, List.all_map, strIn, eL, Function.comp_def]
      · have h2' : decide ((z.length : Int) ≤ 8) = false := decide_eq_false (by omega)
        simp [F_is_name, b_is_name, defF, startE, sRet, sExp, sIf, sSeq, sAsg, sFor, gN, gT, gC, gZ, eAn, eOr, eNo, eIf, eIsi, eV, eC, eB, eU, eCb, eCall, eSl, oN, oS, eTup, eLst, aN, aC, eLc, eCh, tAn, tOr', tNo, tB', tTr, tYs, iE, iZ, iR1, iR2, sNil, Oc.bind, Oc.thenS, Oc.of, Oc.on, tyD, leave_rt, truD, List.replicate, List.set, List.append_nil, List.nil_append, List.cons_append, wipeE, cond_true, cond_false, k_ii, k_ib, k_is, k_it, k_bi, k_bb, k_bs, k_bt, k_si, k_sb, k_ss, k_st, k_ti, k_tb, k_ts, k_tt, k_li, k_lb, k_ls, k_lt, k_ni, k_nb, k_ns, k_nt, nameB, nameS, lenD, leD, cmpD, hz', h1, h2, h1', h2', itD]
    · have h1' : decide ((1 : Int) ≤ (z.length : Int)) = false := decide_eq_false (by omega)
      simp [F_is_name, b_is_name, defF, startE, sRet, sExp, sIf, sSeq, sAsg, sFor, gN, gT, gC, gZ, eAn, eOr, eNo, eIf, eIsi, eV, eC, eB, eU, eCb, eCall, eSl, oN, oS, eTup, eLst, aN, aC, eLc, eCh, tAn, tOr', tNo, tB', tTr, tYs, iE, iZ, iR1, iR2, sNil, Oc.bind, Oc.thenS, Oc.of, Oc.on, tyD, leave_rt, truD, List.replicate, List.set, List.append_nil, List.nil_append, List.cons_append, wipeE, cond_true, cond_false, k_ii, k_ib, k_is, k_it, k_bi, k_bb, k_bs, k_bt, k_si, k_sb, k_ss, k_st, k_ti, k_tb, k_ts, k_tt, k_li, k_lb, k_ls, k_lt, k_ni, k_nb, k_ns, k_nt, nameB, nameS, lenD, leD, cmpD, hz', h1, h1', itD]
  | dict _ => cases h
  | _ => simp [F_is_name, b_is_name, defF, startE, sRet, sExp, sIf, sSeq, sAsg, sFor, gN, gT, gC, gZ, eAn, eOr, eNo, eIf, eIsi, eV, eC, eB, eU, eCb, eCall, eSl, oN, oS, eTup, eLst, aN, aC, eLc, eCh, tAn, tOr', tNo, tB', tTr, tYs, iE, iZ, iR1, iR2, sNil, Oc.bind, Oc.thenS, Oc.of, Oc.on, tyD, leave_rt, truD, List.replicate, List.set, List.append_nil, List.nil_append, List.cons_append, wipeE, cond_true, cond_false, k_ii, k_ib, k_is, k_it, k_bi, k_bb, k_bs, k_bt, k_si, k_sb, k_ss, k_st, k_ti, k_tb, k_ts, k_tt, k_li, k_lb, k_ls, k_lt, k_ni, k_nb, k_ns, k_nt, nameB]

theorem strs_eq (a b : Str) : (a.cps.toList == b.cps.toList) = decide (a = b) := by
  by_cases h : a = b
  · subst h; simp
  · have : a.cps.toList ≠ b.cps.toList := fun e => h (by cases a; cases b; simp at e; simp [e])
    rw [decide_eq_false h]
    exact beq_eq_false_iff_ne.mpr this
theorem eqv_str (a b : Str) : PyData.eqv (.str a) (.str b) = decide (a = b) := by
  by_cases h : a = b
  · subst h
    simp [PyData.eqv]
  · simp only [PyData.eqv]
    first | exact (strs_eq a b).trans (by simp [h]) | simp [h] | (simp [h]; intro e; exact h (by cases a; cases b; simp_all))
theorem eqD_str (w : Ws) (a b : Str) : eqD w (.str a) (.str b) = some (.bool (decide (a = b))) := by
  unfold eqD
  split
  · rw [eqv_str]
  · simp only [strsE, strs_eq, id]
theorem neD_str (w : Ws) (a b : Str) : neD w (.str a) (.str b) = some (.bool (!decide (a = b))) := by
  unfold neD
  split
  · rw [eqv_str]
  · simp only [strsE, strs_eq]
/-- a text of these signs -/
def S (l : List Nat) : Str := ⟨l.toArray⟩
theorem S_cps (l : List Nat) : (S l).cps.toList = l := by simp [S]
theorem S_len (l : List Nat) : (S l).length = l.length := by simp [S, Str.length]
theorem S_app (a b : List Nat) : S a ++ S b = S (a ++ b) := by
  show (⟨a.toArray ++ b.toArray⟩ : Str) = ⟨(a ++ b).toArray⟩
  simp
theorem S_inj {a b : List Nat} : S a = S b ↔ a = b := ⟨fun h => by have := congrArg (fun z : Str => z.cps.toList) h; simpa [S_cps] using this, fun h => by rw [h]⟩
def letL (n : List Nat) : Bool := n.all fun c => decide (97 ≤ c ∧ c ≤ 122)
def nmL (n : List Nat) : Bool := decide (1 ≤ n.length) && decide (n.length ≤ 8) && letL n
theorem letB_eq (c : Nat) : letB c = decide (97 ≤ c ∧ c ≤ 122) := by
  have e : letters.cps.toList = [97, 98, 99, 100, 101, 102, 103, 104, 105, 106, 107, 108, 109, 110, 111, 112, 113, 114, 115, 116, 117, 118, 119, 120, 121, 122] := by decide +kernel
  unfold letB
  rw [e]
  by_cases h : 97 ≤ c ∧ c ≤ 122
  · rw [decide_eq_true h]
    refine decide_eq_true ?_
    simp only [List.mem_cons, List.not_mem_nil, or_false]
    omega
  · rw [decide_eq_false h]
    refine decide_eq_false fun q => h ?_
    simp only [List.mem_cons, List.not_mem_nil, or_false] at q
    omega
theorem nameS_S (n : List Nat) : nameS (S n) = nmL n := by
  unfold nameS nmL letL
  rw [S_len, S_cps]
  congr 1
  exact congrArg (fun f => n.all f) (funext letB_eq)
theorem strOk_S {n : List Nat} (h : ∀ c ∈ n, c < 128) : PyData.strOk (S n) = true := by
  unfold PyData.strOk
  rw [← Array.all_toList, S_cps, List.all_eq_true]
  intro c hc
  have := h c hc
  simp
  try omega
end Tk

set_option Elab.async false
set_option linter.all false
set_option maxRecDepth 100000
set_option maxHeartbeats 4000000
namespace Tk
open PySem L2 Td
theorem cut_hd (c : Nat) (l : List Nat) : cutS (S (c :: l)) none (some 1) = S [c] := by
  unfold cutS
  simp [S, HT.sIx, Str.length]
theorem cut_tl (c : Nat) (l : List Nat) : cutS (S (c :: l)) (some 1) none = S l := by
  unfold cutS
  simp [S, HT.sIx, Str.length]
theorem lit_q : ("?" : Str) = S [63] := by decide +kernel
theorem lit_o : ("(" : Str) = S [40] := by decide +kernel
theorem lit_c : (")" : Str) = S [41] := by decide +kernel
theorem lit_m : ("," : Str) = S [44] := by decide +kernel
theorem lit_s : (" " : Str) = S [32] := by decide +kernel
theorem lit_ms : (", " : Str) = S [44, 32] := by decide +kernel
theorem lit_e : ("" : Str) = S [] := by decide +kernel
theorem lit_ar : (" -> " : Str) = S [32, 45, 62, 32] := by decide +kernel
theorem szOk_of {n : Nat} (h : n ≤ 1000000) : szOk n = true := decide_eq_true (by rw [sizeLine_eq]; omega)
theorem nm_len {n : List Nat} (h : nmL n = true) : 1 ≤ n.length ∧ n.length ≤ 8 ∧ ∀ c ∈ n, 97 ≤ c ∧ c ≤ 122 := by
  unfold nmL letL at h
  simp only [Bool.and_eq_true, decide_eq_true_eq, List.all_eq_true] at h
  exact ⟨h.1.1, h.1.2, h.2⟩
theorem name_ok {n : List Nat} (w : Ws) (h : nmL n = true) : F_is_name [.str (S n)] w = .ok (.bool true) w := by
  obtain ⟨h1, h2, h3⟩ := nm_len h
  have := is_name_ok (.str (S n)) w rfl (by
    simp only [szD, S_len, szOk_of (show n.length ≤ 1000000 by omega), Bool.true_and]
    exact strOk_S fun c hc => by have := h3 c hc; omega)
  rw [this]
  simp only [nameB, nameS_S, h]
theorem var_yes {n : List Nat} (w : Ws) (h : nmL n = true) : F_is_variable [.str (S (63 :: n))] w = .ok (.bool true) w := by
  have hn := nm_len h
  have e := name_ok w h
  have z : szOk (S (63 :: n)).length = true := by rw [S_len]; exact szOk_of (by simp; omega)
  simp [F_is_variable, b_is_variable, defF, startE, sRet, sExp, sIf, sSeq, sAsg, sFor, gN, gT, gC, gZ, eAn, eOr, eNo, eIf, eIsi, eV, eC, eB, eU, eCb, eCall, eSl, oN, oS, eTup, eLst, aN, aC, eLc, eCh, tAn, tOr', tNo, tB', tTr, tYs, iE, iZ, iR1, iR2, sNil, Oc.bind, Oc.thenS, Oc.of, Oc.on, tyD, leave_rt, truD, List.replicate, List.set, List.append_nil, List.nil_append, List.cons_append, wipeE, cond_true, cond_false, k_ii, k_ib, k_is, k_it, k_bi, k_bb, k_bs, k_bt, k_si, k_sb, k_ss, k_st, k_ti, k_tb, k_ts, k_tt, k_li, k_lb, k_ls, k_lt, k_ni, k_nb, k_ns, k_nt, cutD, z, cut_hd, cut_tl, eqD_str, lit_q, e]
theorem var_no {n : List Nat} (w : Ws) (h : nmL n = true) : F_is_variable [.str (S n)] w = .ok (.bool false) w := by
  obtain ⟨h1, h2, h3⟩ := nm_len h
  have z : szOk (S n).length = true := by rw [S_len]; exact szOk_of (by omega)
  cases n with
  | nil => simp at h1
  | cons c l =>
    have hc := h3 c List.mem_cons_self
    have ne : ¬ (S [c] = S [63]) := fun e => by have := S_inj.mp e; simp at this; omega
    simp [F_is_variable, b_is_variable, defF, startE, sRet, sExp, sIf, sSeq, sAsg, sFor, gN, gT, gC, gZ, eAn, eOr, eNo, eIf, eIsi, eV, eC, eB, eU, eCb, eCall, eSl, oN, oS, eTup, eLst, aN, aC, eLc, eCh, tAn, tOr', tNo, tB', tTr, tYs, iE, iZ, iR1, iR2, sNil, Oc.bind, Oc.thenS, Oc.of, Oc.on, tyD, leave_rt, truD, List.replicate, List.set, List.append_nil, List.nil_append, List.cons_append, wipeE, cond_true, cond_false, k_ii, k_ib, k_is, k_it, k_bi, k_bb, k_bs, k_bt, k_si, k_sb, k_ss, k_st, k_ti, k_tb, k_ts, k_tt, k_li, k_lb, k_ls, k_lt, k_ni, k_nb, k_ns, k_nt, cutD, z, cut_hd, cut_tl, eqD_str, lit_q, ne]
theorem var_tup (ds : List PyData) (w : Ws) : F_is_variable [.tuple ds] w = .ok (.bool false) w := by
  simp [F_is_variable, b_is_variable, defF, startE, sRet, sExp, sIf, sSeq, sAsg, sFor, gN, gT, gC, gZ, eAn, eOr, eNo, eIf, eIsi, eV, eC, eB, eU, eCb, eCall, eSl, oN, oS, eTup, eLst, aN, aC, eLc, eCh, tAn, tOr', tNo, tB', tTr, tYs, iE, iZ, iR1, iR2, sNil, Oc.bind, Oc.thenS, Oc.of, Oc.on, tyD, leave_rt, truD, List.replicate, List.set, List.append_nil, List.nil_append, List.cons_append, wipeE, cond_true, cond_false, k_ii, k_ib, k_is, k_it, k_bi, k_bb, k_bs, k_bt, k_si, k_sb, k_ss, k_st, k_ti, k_tb, k_ts, k_tt, k_li, k_lb, k_ls, k_lt, k_ni, k_nb, k_ns, k_nt]
/-! ### patterns -/
inductive Pat where
  | var (n : List Nat)
  | node (h : List Nat) (ps : List Pat)
mutual
def toD : Pat → PyData
  | .var n => .str (S (63 :: n))
  | .node h ps => .tuple [.str (S h), .tuple (toDs ps)]
def toDs : List Pat → List PyData
  | [] => []
  | p :: ps => toD p :: toDs ps
end
mutual
def tok : Pat → List (List Nat)
  | .var n => [[63], n]
  | .node h [] => [h]
  | .node h (p :: ps) => h :: [40] :: (tok p ++ (tokR ps ++ [[41]]))
/-- the further parts -/
def tokR : List Pat → List (List Nat)
  | [] => []
  | q :: r => [44] :: [32] :: (tok q ++ tokR r)
end
def txt (p : Pat) : List Nat := (tok p).flatten
def txtR (ps : List Pat) : List Nat := (tokR ps).flatten
mutual
def ok : Pat → Bool
  | .var n => nmL n
  | .node h ps => nmL h && oks ps
def oks : List Pat → Bool
  | [] => true
  | p :: ps => ok p && oks ps
end
mutual
/-- how many parentheses are open at once -/
def hgt : Pat → Nat
  | .var _ => 0
  | .node _ [] => 0
  | .node _ (p :: ps) => max (hgt p) (hgts ps) + 1
def hgts : List Pat → Nat
  | [] => 0
  | p :: ps => max (hgt p) (hgts ps)
end
theorem toDs_len : ∀ ps : List Pat, (toDs ps).length = ps.length
  | [] => rfl
  | _ :: ps => by simp [toDs, toDs_len ps]
theorem txt_node (h : List Nat) (p : Pat) (ps : List Pat) : txt (.node h (p :: ps)) = h ++ 40 :: (txt p ++ txtR ps ++ [41]) := by
  simp [txt, txtR, tok]
theorem txtR_cons (q : Pat) (r : List Pat) : txtR (q :: r) = 44 :: 32 :: (txt q ++ txtR r) := by
  simp [txt, txtR, tokR]
def joinN (a : List Nat) : List (List Nat) → List Nat
  | [] => []
  | [x] => x
  | x :: z :: r => x ++ (a ++ joinN a (z :: r))
theorem joinN_txts : ∀ (p : Pat) (ps : List Pat), joinN [44, 32] ((p :: ps).map txt) = txt p ++ txtR ps
  | p, [] => by simp [joinN, txtR, tokR]
  | p, q :: r => by
    have ih := joinN_txts q r
    simp only [List.map_cons] at ih ⊢
    rw [joinN, ih, txtR_cons]
    simp
theorem join_S0 (a : List Nat) : ∀ ys : List (List Nat), Str.join (S a) (ys.map S) = S (joinN a ys)
  | [] => rfl
  | [_] => rfl
  | x :: z :: r => by
    have ih := join_S0 a (z :: r)
    show (S x ++ S a) ++ Str.join (S a) ((z :: r).map S) = _
    rw [ih, S_app, S_app, joinN, List.append_assoc]
theorem join_S (a : List Nat) (ys : List (List Nat)) : Txt.join (S a) (ys.map S) = S (joinN a ys) := (PySem.StrLaws.glued_eq_join _ _).trans (join_S0 a ys)
theorem strsOf_S : ∀ ys : List (List Nat), strsOf (ys.map fun y => .str (S y)) = some (ys.map S)
  | [] => rfl
  | y :: ys => by simp [strsOf, strsOf_S ys]
end Tk

set_option Elab.async false
set_option linter.all false
set_option maxRecDepth 100000
set_option maxHeartbeats 4000000
namespace Tk
open PySem L2 Td
theorem lcL_pats {g : FF} {k : Nat} {w : Ws} {ρ : Ev} (hk : k < ρ.length) : ∀ (ps : List Pat) (acc : List PyData), acc.length + ps.length ≤ 1000000 → (∀ p ∈ ps, g [toD p] w = .ok (.str (S (txt p))) w) →
    lcL (gN k) tYs (eCall g [] (aC (eV k) aN)) ρ (toDs ps) w acc = .ok (acc ++ ps.map fun p => .str (S (txt p))) w
  | [], acc, _, _ => by simp [toDs, lcL]
  | p :: ps, acc, hl, h => by
    have e := h p List.mem_cons_self
    have hl' : acc.length + (ps.length + 1) ≤ 1000000 := hl
    have ih := lcL_pats hk ps (acc ++ [.str (S (txt p))]) (by rw [List.length_append]; simp; omega) fun q hq => h q (List.mem_cons_of_mem _ hq)
    have ev : (eCall g [] (aC (eV k) aN)) (ρ.set k (some (toD p))) w = .ok (.str (S (txt p))) w := by
      simp [eCall, aC, eV, aN, Oc.bind, hk, e]
    simp only [toDs, lcL, gN, tYs, ev, ih, if_pos (show acc.length < sizeLine by rw [sizeLine_eq]; omega)]
    simp
theorem joinN_len (a : List Nat) : ∀ (x : List Nat) (ys : List (List Nat)), (joinN a (x :: ys)).length + a.length = (((x :: ys).map List.length).sum + (x :: ys).length * a.length)
  | x, [] => by simp [joinN]
  | x, z :: r => by
    have ih := joinN_len a z r
    simp only [joinN, List.length_append, List.map_cons, List.sum_cons, List.length_cons] at ih ⊢
    simp only [Nat.add_mul, Nat.one_mul] at ih ⊢
    omega
theorem join_pats (w : Ws) (p : Pat) (ps : List Pat) (hl : (txt p ++ txtR ps).length ≤ 100000) : joinD w (.str (S [44, 32])) (.list ((p :: ps).map fun p => .str (S (txt p)))) = some (.str (S (txt p ++ txtR ps))) := by
  have e1 : (p :: ps).map (fun p => PyData.str (S (txt p))) = ((p :: ps).map txt).map fun y => .str (S y) := by simp
  have e2 : strsOf (((p :: ps).map txt).map fun y => .str (S y)) = some (((p :: ps).map txt).map S) := strsOf_S _
  have e3 : (((p :: ps).map txt).map S).map (·.length) = ((p :: ps).map txt).map List.length := by simp [S_len]
  have jl := joinN_len [44, 32] (txt p) (ps.map txt)
  have je := joinN_txts p ps
  rw [List.map_cons] at je
  rw [je] at jl
  have hb : ((((p :: ps).map txt).map S).map (·.length)).sum + (((p :: ps).map txt).map S).length * (S [44, 32]).length ≤ 16777216 := by
    rw [e3, S_len, List.length_map, List.map_cons]
    have : ([44, 32] : List Nat).length = 2 := rfl
    omega
  have e4 : Txt.join (S [44, 32]) (((p :: ps).map txt).map S) = S (txt p ++ txtR ps) := by rw [join_S, joinN_txts]
  rw [e1]
  simp only [joinD, seqOf, lstOf, Option.bind_some, e2, e4, decide_eq_true hb, if_true]
theorem join_none (w : Ws) : joinD w (.str (S [44, 32])) (.list []) = some (.str (S [])) := rfl
theorem oks_mem : ∀ {ps : List Pat}, oks ps = true → ∀ p ∈ ps, ok p = true
  | [], _, _, h => by cases h
  | q :: ps, h, p, hp => by
    have h' : ok q = true ∧ oks ps = true := by simpa [oks] using h
    rcases List.mem_cons.mp hp with rfl | hp
    · exact h'.1
    · exact oks_mem h'.2 p hp
theorem hgts_mem : ∀ {ps : List Pat} {p : Pat}, p ∈ ps → hgt p ≤ hgts ps
  | q :: ps, p, hp => by
    unfold hgts
    rcases List.mem_cons.mp hp with rfl | hp
    · omega
    · have := hgts_mem hp; omega
theorem txtR_mem : ∀ {ps : List Pat} {p : Pat}, p ∈ ps → (txt p).length ≤ (txtR ps).length
  | q :: ps, p, hp => by
    rw [txtR_cons]
    simp only [List.length_cons, List.length_append]
    rcases List.mem_cons.mp hp with rfl | hp
    · omega
    · have := txtR_mem hp; omega
theorem txtR_len : ∀ ps : List Pat, ps.length ≤ (txtR ps).length
  | [] => Nat.zero_le _
  | q :: r => by rw [txtR_cons]; have := txtR_len r; simp; omega
theorem pattern_text_ok (w : Ws) : ∀ (l : Nat) (p : Pat), ok p = true → hgt p < l → (txt p).length ≤ 100000 → F_pattern_text l [toD p] w = .ok (.str (S (txt p))) w
  | 0, p, _, h, _ => by omega
  | l + 1, .var n, ho, _, hl => by
    have e := var_yes w (show nmL n = true from ho)
    have et : txt (.var n) = 63 :: n := by simp [txt, tok]
    simp [F_pattern_text, b_pattern_text, toD, defF, startE, sRet, sExp, sIf, sSeq, sAsg, sFor, gN, gT, gC, gZ, eAn, eOr, eNo, eIf, eIsi, eV, eC, eB, eU, eCb, eCall, eSl, oN, oS, eTup, eLst, aN, aC, eLc, eCh, tAn, tOr', tNo, tB', tTr, tYs, iE, iZ, iR1, iR2, sNil, Oc.bind, Oc.thenS, Oc.of, Oc.on, tyD, leave_rt, truD, List.replicate, List.set, List.append_nil, List.nil_append, List.cons_append, wipeE, cond_true, cond_false, e, toStrT, et]
  | l + 1, .node h [], ho, _, hl => by
    have hn : nmL h = true := by have := (Bool.and_eq_true _ _).mp (show (nmL h && oks []) = true from ho); exact this.1
    have e := var_tup [.str (S h), .tuple []] w
    have et : txt (.node h []) = h := by simp [txt, tok]
    simp [F_pattern_text, b_pattern_text, toD, toDs, defF, startE, sRet, sExp, sIf, sSeq, sAsg, sFor, gN, gT, gC, gZ, eAn, eOr, eNo, eIf, eIsi, eV, eC, eB, eU, eCb, eCall, eSl, oN, oS, eTup, eLst, aN, aC, eLc, eCh, tAn, tOr', tNo, tB', tTr, tYs, iE, iZ, iR1, iR2, sNil, Oc.bind, Oc.thenS, Oc.of, Oc.on, tyD, leave_rt, truD, List.replicate, List.set, List.append_nil, List.nil_append, List.cons_append, wipeE, cond_true, cond_false, e, itD, lcL, eJn, lit_ms, join_none, lenD, gtD, cmpD, toStrT, et]
  | l + 1, .node h (p :: ps), ho, hh, hl => by
    have hn := (Bool.and_eq_true _ _).mp (show (nmL h && oks (p :: ps)) = true from ho)
    have hm := oks_mem hn.2
    have hb := nm_len hn.1
    have hh' : max (hgt p) (hgts ps) + 1 < l + 1 := by simpa [hgt] using hh
    rw [txt_node] at hl
    simp only [List.length_append, List.length_cons, List.length_nil] at hl
    have hps := txtR_len ps
    have ih : ∀ q ∈ p :: ps, F_pattern_text l [toD q] w = .ok (.str (S (txt q))) w := fun q hq => by
      refine pattern_text_ok w l q (hm q hq) ?_ ?_
      · rcases List.mem_cons.mp hq with rfl | hq
        · omega
        · have := hgts_mem hq; omega
      · rcases List.mem_cons.mp hq with rfl | hq
        · omega
        · have := txtR_mem hq; omega
    have e := var_tup [.str (S h), .tuple (toDs (p :: ps))] w
    have lc := fun ρ hρ => lcL_pats (g := F_pattern_text l) (k := 4) (w := w) (ρ := ρ) hρ (p :: ps) [] (by simp; omega) ih
    have lc1 := lc [some (.tuple [.str (S h), .tuple (toDs (p :: ps))]), none, some (.str (S h)), some (.tuple (toDs (p :: ps))), none] (by simp)
    have jn := join_pats w p ps (by simp; omega)
    have z1 : szOk (S h).length = true := by rw [S_len]; exact szOk_of (by omega)
    have z2 : szOk (S (txt p ++ txtR ps)).length = true := by rw [S_len]; exact szOk_of (by simp; omega)
    have d3 : decide ((0 : Int) < ((toDs (p :: ps)).length : Int)) = true := decide_eq_true (by rw [toDs_len]; simp)
    have es : Str.empty = S [] := rfl
    simp only [List.nil_append, List.map_cons] at lc1 jn
    simp [F_pattern_text, b_pattern_text, toD, defF, startE, sRet, sExp, sIf, sSeq, sAsg, sFor, gN, gT, gC, gZ, eAn, eOr, eNo, eIf, eIsi, eV, eC, eB, eU, eCb, eCall, eSl, oN, oS, eTup, eLst, aN, aC, eLc, eCh, tAn, tOr', tNo, tB', tTr, tYs, iE, iZ, iR1, iR2, sNil, Oc.bind, Oc.thenS, Oc.of, Oc.on, tyD, leave_rt, truD, List.replicate, List.set, List.append_nil, List.nil_append, List.cons_append, wipeE, cond_true, cond_false, e, itD, eJn, lit_ms, lc1, jn, lenD, gtD, cmpD, d3, z2, eJs, jsF, fmtD, z1, es, S_app, lit_o, lit_c]
    have d4 : decide (0 < (toDs (p :: ps)).length) = true := decide_eq_true (by rw [toDs_len]; simp)
    have z3 : szOk (S (h ++ [40])).length = true := by rw [S_len]; exact szOk_of (by simp; omega)
    have z4 : szOk (S (h ++ 40 :: (txt p ++ txtR ps))).length = true := by rw [S_len]; exact szOk_of (by simp; omega)
    have z5 : szOk (S (h ++ 40 :: (txt p ++ (txtR ps ++ [41])))).length = true := by rw [S_len]; exact szOk_of (by simp; omega)
    rw [d4, z3, z4, z5]
    simp [leave_rt, txt_node]
mutual
theorem depth_toD : ∀ p : Pat, (toD p).depth ≤ 2 * hgt p + 2
  | .var n => by simp [toD, PyData.depth]
  | .node h [] => by simp [toD, toDs, PyData.depth, PyData.depthAll]
  | .node h (p :: ps) => by
    have h1 := depth_toD p
    have h2 := depth_toDs ps
    simp only [toD, toDs, PyData.depth, PyData.depthAll, hgt]
    omega
theorem depth_toDs : ∀ ps : List Pat, PyData.depthAll (toDs ps) ≤ 2 * hgts ps + 2
  | [] => by simp [toDs, PyData.depthAll]
  | p :: ps => by
    have h1 := depth_toD p
    have h2 := depth_toDs ps
    simp only [toDs, PyData.depthAll, hgts]
    omega
end
theorem strOk_nm {n : List Nat} (h : nmL n = true) : PyData.strOk (S n) = true := strOk_S fun c hc => by have := (nm_len h).2.2 c hc; omega
theorem strOk_var {n : List Nat} (h : nmL n = true) : PyData.strOk (S (63 :: n)) = true := strOk_S fun c hc => by
  rcases List.mem_cons.mp hc with rfl | hc
  · omega
  · have := (nm_len h).2.2 c hc; omega
mutual
theorem lay_toD : ∀ p : Pat, ok p = true → (toD p).canLay0 = true
  | .var n, h => by simpa [toD, PyData.canLay0] using strOk_var h
  | .node h ps, ho => by
    have hn := (Bool.and_eq_true _ _).mp (show (nmL h && oks ps) = true from ho)
    have h2 := lay_toDs ps hn.2
    simp [toD, PyData.canLay0, PyData.canLayAll0, strOk_nm hn.1, h2]
theorem lay_toDs : ∀ ps : List Pat, oks ps = true → PyData.canLayAll0 (toDs ps) = true
  | [], _ => by simp [toDs, PyData.canLayAll0]
  | p :: ps, h => by
    have h' : ok p = true ∧ oks ps = true := by simpa [oks] using h
    simp [toDs, PyData.canLayAll0, lay_toD p h'.1, lay_toDs ps h'.2]
end
theorem ne_parts (w : Ws) (p : Pat) (ps : List Pat) (h : oks (p :: ps) = true) (hh : hgts (p :: ps) ≤ 29) : neD w (.tuple (toDs (p :: ps))) (.tuple []) = some (.bool true) := by
  have s1 : SeqAt.shaped (.tuple (toDs (p :: ps))) = true := by
    unfold SeqAt.shaped
    rw [Bool.and_eq_true]
    refine ⟨by simpa [PyData.canLay0] using lay_toDs (p :: ps) h, decide_eq_true ?_⟩
    have := depth_toDs (p :: ps)
    simp only [PyData.depth]
    omega
  have s2 : SeqAt.shaped (.tuple []) = true := by decide +kernel
  unfold neD
  rw [s1, s2]
  simp [PyData.eqv, PyData.eqvAll, toDs]
theorem law_text_ok (w : Ws) : ∀ (l : Nat) (p : Pat), ok p = true → hgt p < l → hgt p ≤ 30 → (txt p).length ≤ 100000 → F__law_text l [toD p] w = .ok (.str (S (txt p))) w
  | 0, p, _, h, _, _ => by omega
  | l + 1, .var n, ho, _, _, hl => by
    have et : txt (.var n) = 63 :: n := by simp [txt, tok]
    simp [F__law_text, b__law_text, toD, defF, startE, sRet, sExp, sIf, sSeq, sAsg, sFor, gN, gT, gC, gZ, eAn, eOr, eNo, eIf, eIsi, eV, eC, eB, eU, eCb, eCall, eSl, oN, oS, eTup, eLst, aN, aC, eLc, eCh, tAn, tOr', tNo, tB', tTr, tYs, iE, iZ, iR1, iR2, sNil, Oc.bind, Oc.thenS, Oc.of, Oc.on, tyD, leave_rt, truD, List.replicate, List.set, List.append_nil, List.nil_append, List.cons_append, wipeE, cond_true, cond_false, k_ii, k_ib, k_is, k_it, k_bi, k_bb, k_bs, k_bt, k_si, k_sb, k_ss, k_st, k_ti, k_tb, k_ts, k_tt, k_li, k_lb, k_ls, k_lt, k_ni, k_nb, k_ns, k_nt, et]
  | l + 1, .node h [], ho, _, _, hl => by
    have et : txt (.node h []) = h := by simp [txt, tok]
    have hb := nm_len ((Bool.and_eq_true _ _).mp (show (nmL h && oks []) = true from ho)).1
    have ne : neD w (.tuple []) (.tuple []) = some (.bool false) := by
      unfold neD
      rw [if_pos (by decide +kernel)]
      rfl
    have z1 : szOk ((S h).length + (S []).length) = true := by rw [S_len, S_len]; exact szOk_of (by simp; omega)
    simp [F__law_text, b__law_text, toD, toDs, defF, startE, sRet, sExp, sIf, sSeq, sAsg, sFor, gN, gT, gC, gZ, eAn, eOr, eNo, eIf, eIsi, eV, eC, eB, eU, eCb, eCall, eSl, oN, oS, eTup, eLst, aN, aC, eLc, eCh, tAn, tOr', tNo, tB', tTr, tYs, iE, iZ, iR1, iR2, sNil, Oc.bind, Oc.thenS, Oc.of, Oc.on, tyD, leave_rt, truD, List.replicate, List.set, List.append_nil, List.nil_append, List.cons_append, wipeE, cond_true, cond_false, k_ii, k_ib, k_is, k_it, k_bi, k_bb, k_bs, k_bt, k_si, k_sb, k_ss, k_st, k_ti, k_tb, k_ts, k_tt, k_li, k_lb, k_ls, k_lt, k_ni, k_nb, k_ns, k_nt, ixD, atI, ixN, itD, lcL, eJn, lit_ms, join_none, ne, addD, lit_e, z1, S_app, et, szOk_of]
  | l + 1, .node h (p :: ps), ho, hh, h30, hl => by
    have hn := (Bool.and_eq_true _ _).mp (show (nmL h && oks (p :: ps)) = true from ho)
    have hm := oks_mem hn.2
    have hb := nm_len hn.1
    have hh' : max (hgt p) (hgts ps) + 1 < l + 1 := by simpa [hgt] using hh
    have h30' : max (hgt p) (hgts ps) + 1 ≤ 30 := by simpa [hgt] using h30
    rw [txt_node] at hl
    simp only [List.length_append, List.length_cons, List.length_nil] at hl
    have hps := txtR_len ps
    have ih : ∀ q ∈ p :: ps, F__law_text l [toD q] w = .ok (.str (S (txt q))) w := fun q hq => by
      refine law_text_ok w l q (hm q hq) ?_ ?_ ?_
      · rcases List.mem_cons.mp hq with rfl | hq
        · omega
        · have := hgts_mem hq; omega
      · rcases List.mem_cons.mp hq with rfl | hq
        · omega
        · have := hgts_mem hq; omega
      · rcases List.mem_cons.mp hq with rfl | hq
        · omega
        · have := txtR_mem hq; omega
    have lc1 := lcL_pats (g := F__law_text l) (k := 2) (w := w) (ρ := [some (.tuple [.str (S h), .tuple (toDs (p :: ps))]), none, none]) (by simp) (p :: ps) [] (by simp; omega) ih
    have jn := join_pats w p ps (by simp; omega)
    simp only [List.nil_append, List.map_cons] at lc1 jn
    have ne : neD w (.tuple (toDs (p :: ps))) (.tuple []) = some (.bool true) := ne_parts w p ps hn.2 (by simp only [hgts]; omega)
    have z1 : szOk ((S [40]).length + (S (txt p ++ txtR ps)).length) = true := by rw [S_len, S_len]; exact szOk_of (by simp; omega)
    have z2 : szOk ((S ([40] ++ (txt p ++ txtR ps))).length + (S [41]).length) = true := by rw [S_len, S_len]; exact szOk_of (by simp; omega)
    have z3 : szOk ((S h).length + (S ([40] ++ (txt p ++ txtR ps) ++ [41])).length) = true := by rw [S_len, S_len]; exact szOk_of (by simp; omega)
    have a1 : addD w (.str (S [40])) (.str (S (txt p ++ txtR ps))) = some (.str (S ([40] ++ (txt p ++ txtR ps)))) := by simp only [addD, z1, S_app, if_true]
    have a2 : addD w (.str (S ([40] ++ (txt p ++ txtR ps)))) (.str (S [41])) = some (.str (S ([40] ++ (txt p ++ txtR ps) ++ [41]))) := by simp only [addD, z2, S_app, if_true]
    have a3 : addD w (.str (S h)) (.str (S ([40] ++ (txt p ++ txtR ps) ++ [41]))) = some (.str (S (txt (.node h (p :: ps))))) := by
      simp only [addD, z3, S_app, if_true, txt_node]
      simp
    simp [F__law_text, b__law_text, toD, defF, startE, sRet, sExp, sIf, sSeq, sAsg, sFor, gN, gT, gC, gZ, eAn, eOr, eNo, eIf, eIsi, eV, eC, eB, eU, eCb, eCall, eSl, oN, oS, eTup, eLst, aN, aC, eLc, eCh, tAn, tOr', tNo, tB', tTr, tYs, iE, iZ, iR1, iR2, sNil, Oc.bind, Oc.thenS, Oc.of, Oc.on, tyD, leave_rt, truD, List.replicate, List.set, List.append_nil, List.nil_append, List.cons_append, wipeE, cond_true, cond_false, k_ii, k_ib, k_is, k_it, k_bi, k_bb, k_bs, k_bt, k_si, k_sb, k_ss, k_st, k_ti, k_tb, k_ts, k_tt, k_li, k_lb, k_ls, k_lt, k_ni, k_nb, k_ns, k_nt, ixD, atI, ixN, itD, eJn, lit_ms, lit_o, lit_c, lc1, jn, ne]
    have s0 : szOk 0 = true := szOk_of (by omega)
    simp only [s0, cond_true, ne, a1, a2, a3, leave_rt]
end Tk

set_option Elab.async false
set_option linter.all false
set_option maxRecDepth 100000
set_option maxHeartbeats 4000000
namespace Tk
open PySem L2 Td
/-! ### words of a text -/
def isL (c : Nat) : Bool := decide (97 ≤ c ∧ c ≤ 122)
def prD (p : Nat × List Nat) : PyData := .tuple [.int (p.1 : Int), .str (S p.2)]
def bump (c : Nat) (acc : List (Nat × List Nat)) : List (Nat × List Nat) := match acc.getLast? with
  | some (j, t) => acc.dropLast ++ [(j, t ++ [c])]
  | none => acc
def wrun : Bool → Nat → List (Nat × List Nat) → List Nat → List (Nat × List Nat)
  | _, _, acc, [] => acc
  | pv, i, acc, c :: cs => wrun (isL c) (i + 1) (cond (isL c && pv) (bump c acc) (acc ++ [(i, [c])])) cs
theorem bump_snoc (c j : Nat) (t : List Nat) (a : List (Nat × List Nat)) : bump c (a ++ [(j, t)]) = a ++ [(j, t ++ [c])] := by simp [bump]
def idx : Nat → List (List Nat) → List (Nat × List Nat)
  | _, [] => []
  | i, t :: ts => (i, t) :: idx (i + t.length) ts
/-- words that a text falls into -/
def gd : Bool → List (List Nat) → Bool
  | _, [] => true
  | pv, t :: ts => (!pv && decide (1 ≤ t.length) && t.all isL && gd true ts) || (decide (t.length = 1) && t.all (fun c => !isL c) && gd false ts)
theorem wrun_let : ∀ (u : List Nat) (i j : Nat) (t cs : List Nat) (a : List (Nat × List Nat)), u.all isL = true → wrun true i (a ++ [(j, t)]) (u ++ cs) = wrun true (i + u.length) (a ++ [(j, t ++ u)]) cs
  | [], i, j, t, cs, a, _ => by simp
  | c :: u, i, j, t, cs, a, h => by
    have h' : isL c = true ∧ u.all isL = true := by simpa using h
    have ih := wrun_let u (i + 1) j (t ++ [c]) cs a h'.2
    simp only [List.cons_append, wrun, h'.1, Bool.and_self, cond_true, bump_snoc, ih, List.length_cons, List.append_assoc, List.nil_append]
    rw [show i + 1 + u.length = i + (u.length + 1) by omega]
theorem wrun_gd : ∀ (T : List (List Nat)) (pv : Bool) (i : Nat) (a : List (Nat × List Nat)), gd pv T = true → wrun pv i a T.flatten = a ++ idx i T
  | [], pv, i, a, _ => by simp [wrun, idx]
  | t :: ts, pv, i, a, h => by
    unfold gd at h
    rw [Bool.or_eq_true] at h
    rcases h with h | h
    · simp only [Bool.and_eq_true, Bool.not_eq_true'] at h
      obtain ⟨⟨⟨h1, h2⟩, h3⟩, h4⟩ := h
      subst h1
      cases t with
      | nil => simp at h2
      | cons c u =>
        have h3' : isL c = true ∧ u.all isL = true := by simpa using h3
        have e := wrun_let u (i + 1) i [c] ts.flatten a h3'.2
        have ih := wrun_gd ts true (i + 1 + u.length) (a ++ [(i, [c] ++ u)]) h4
        simp only [List.cons_append, List.nil_append] at e ih
        simp only [List.flatten_cons, List.cons_append, wrun, Bool.and_false, cond_false, h3'.1, e, ih, idx, List.length_cons]
        simp [show i + 1 + u.length = i + (u.length + 1) by omega]
    · simp only [Bool.and_eq_true, decide_eq_true_eq] at h
      obtain ⟨⟨h1, h2⟩, h3⟩ := h
      obtain ⟨c, rfl⟩ := List.length_eq_one_iff.mp h1
      have hc : isL c = false := by simpa using h2
      have ih := wrun_gd ts false (i + 1) (a ++ [(i, [c])]) h3
      simp only [List.flatten_cons, List.cons_append, List.nil_append, wrun, hc, Bool.false_and, cond_false, ih, idx, List.length_cons, List.length_nil]
      simp
theorem in_letters (w : Ws) (c : Nat) : inD w (.str ⟨#[c]⟩) (.str "abcdefghijklmnopqrstuvwxyz") = some (.bool (isL c)) := by
  have : isIn w (.str ⟨#[c]⟩) (.str "abcdefghijklmnopqrstuvwxyz") = some (letB c) := by simp [isIn, strIn, letB, letters]
  unfold inD
  rw [this, letB_eq]
  rfl
def pvOf (pre : List Nat) : Bool := match pre.getLast? with
  | some c => isL c
  | none => false
abbrev wordsBody : FS := (sIf (tAn (tB' (eB inD (eV 3) (eC (.str "abcdefghijklmnopqrstuvwxyz")))) (tAn (tB' (eB gtD (eV 2) (eC (.int 0)))) (tB' (eB inD (eB ixD (eV 0) (eB subD (eV 2) (eC (.int 1)))) (eC (.str "abcdefghijklmnopqrstuvwxyz")))))) (sAsg (eTup (aC (eB ixD (eB ixD (eV 1) (eU negD (eC (.int 1)))) (eC (.int 0))) (aC (eB addD (eB ixD (eB ixD (eV 1) (eU negD (eC (.int 1)))) (eC (.int 1))) (eV 3)) aN))) (gIx (eV 1) (eU negD (eC (.int 1))))) (sExp (eLm apL (eV 1) (aC (eTup (aC (eV 2) (aC (eV 3) aN))) aN))))
theorem atI_nat {α : Type} {xs : List α} {k : Nat} {x : α} (h : xs[k]? = some x) : atI xs (k : Int) = some x := by
  have hk : k < xs.length := (List.getElem?_eq_some_iff.mp h).1
  unfold atI ixN
  simp [hk]
  exact (List.getElem?_eq_some_iff.mp h).2
theorem ixD_tup {w : Ws} {ds : List PyData} {i : Int} : ixD w (.tuple ds) (.int i) = atI ds i := rfl
theorem ixD_list {w : Ws} {ds : List PyData} {i : Int} : ixD w (.list ds) (.int i) = atI ds i := rfl
theorem ixD_rf {w : Ws} {q : Nat} {ds : List PyData} {i : Int} (h : w[q]? = some (.lst ds)) : ixD w (rf q) (.int i) = atI ds i := by
  simp [ixD, lstOf, h]
theorem ix_last (n : Nat) : ixN (n + 1) (-1) = some n := by
  simp [ixN]
  omega
theorem atI_last {α : Type} (a : List α) (x : α) : atI (a ++ [x]) (-1) = some x := by
  simp [atI, ix_last]
theorem lst_at {w : Ws} {q : Nat} {ds : List PyData} (h : w[q]? = some (.lst ds)) : lstOf w (rf q) = some ds := by
  simp [lstOf, h]
theorem upd_at {w : Ws} {q : Nat} {ds ys : List PyData} {d : PyData} {k : List PyData → Option (PyData × List PyData)} (h : w[q]? = some (.lst ds)) (hk : k ds = some (d, ys)) : updL w (rf q) k = some (d, w.set q (.lst ys)) := by
  simp [updL, locOf, h, hk]
theorem pv_idx {pre : List Nat} {cs : List Nat} (hz : (pre ++ cs).length ≤ 100000) (h : pre ≠ []) (w : Ws) : ∃ c, ixD w (.str (S (pre ++ cs))) (.int ((pre.length : Int) - 1)) = some (.str ⟨#[c]⟩) ∧ pvOf pre = isL c := by
  obtain ⟨b, c, rfl⟩ : ∃ b c, pre = b ++ [c] := ⟨pre.dropLast, pre.getLast h, (List.dropLast_concat_getLast h).symm⟩
  refine ⟨c, ?_, by simp [pvOf]⟩
  have z : szOk (S (b ++ [c] ++ cs)).length = true := by rw [S_len]; exact szOk_of (by omega)
  have e : (((b ++ [c]).length : Nat) : Int) - 1 = (b.length : Int) := by simp
  have g : (b ++ [c] ++ cs)[b.length]? = some c := by simp
  have a : atI (b ++ [c] ++ cs) (b.length : Int) = some c := atI_nat g
  rw [e]
  simp only [ixD, z, S_cps, a, if_true, Option.map_some]
theorem words_loop {q : Nat} : ∀ (cs pre : List Nat) (acc : List (Nat × List Nat)) (x2 x3 : Option PyData) (w : Ws), (pre ++ cs).length ≤ 100000 → w[q]? = some (.lst (acc.map prD)) → acc.length ≤ pre.length → (pvOf pre = true → acc ≠ []) →
    (∀ p ∈ acc, p.2.length ≤ 100000) → (acc.map fun p => p.2.length).sum ≤ pre.length →
    ∃ x2' x3', forL (gT 2 (gC (gN 2) (gC (gN 3) gZ))) wordsBody (enD pre.length (cs.map fun c => .str ⟨#[c]⟩)) [some (.str (S (pre ++ cs))), some (rf q), x2, x3] w = .nx [some (.str (S (pre ++ cs))), some (rf q), x2', x3'] (w.set q (.lst ((wrun (pvOf pre) pre.length acc cs).map prD)))
  | [], pre, acc, x2, x3, w, _, hw, _, _, _, _ => ⟨x2, x3, by
    have : w.set q (.lst (acc.map prD)) = w := by
      obtain ⟨hl, e⟩ := List.getElem?_eq_some_iff.mp hw
      rw [← e]; exact List.set_getElem_self ..
    simp [enD, forL, wrun, this]⟩
  | c :: cs, pre, acc, x2, x3, w, hz, hw, hac, hpv, hle, hsum => by
    have hl : q < w.length := (List.getElem?_eq_some_iff.mp hw).1
    have e1 : pre ++ c :: cs = (pre ++ [c]) ++ cs := by simp
    have pv1 : pvOf (pre ++ [c]) = isL c := by simp [pvOf]
    have pl : (pre ++ [c]).length = pre.length + 1 := by simp
    have hz1 : pre.length + (cs.length + 1) ≤ 100000 := by simpa using hz
    have e0 : (S [c] : Str) = ⟨#[c]⟩ := rfl
    -- the body
    have body : wordsBody [some (.str (S (pre ++ c :: cs))), some (rf q), some (.int (pre.length : Int)), some (.str ⟨#[c]⟩)] w = .nx [some (.str (S (pre ++ c :: cs))), some (rf q), some (.int (pre.length : Int)), some (.str ⟨#[c]⟩)] (w.set q (.lst ((cond (isL c && pvOf pre) (bump c acc) (acc ++ [(pre.length, [c])])).map prD))) := by
      have app : (sExp (eLm apL (eV 1) (aC (eTup (aC (eV 2) (aC (eV 3) aN))) aN))) [some (.str (S (pre ++ c :: cs))), some (rf q), some (.int (pre.length : Int)), some (.str ⟨#[c]⟩)] w = .nx [some (.str (S (pre ++ c :: cs))), some (rf q), some (.int (pre.length : Int)), some (.str ⟨#[c]⟩)] (w.set q (.lst ((acc ++ [(pre.length, [c])]).map prD))) := by
        have z2 : szOk 2 = true := szOk_of (by omega)
        have hk : apL (acc.map prD) [.tuple [.int (pre.length : Int), .str ⟨#[c]⟩]] = some (.none, (acc ++ [(pre.length, [c])]).map prD) := by
          simp only [apL, List.length_map]
          rw [if_pos (by rw [sizeLine_eq]; omega)]
          simp [prD, e0]
        have u := upd_at (k := fun xs => apL xs [.tuple [.int (pre.length : Int), .str ⟨#[c]⟩]]) hw hk
        simp [sExp, eLm, eV, Oc.bind, lst_at hw, Oc.on, aC, aN, eTup, z2, u, Oc.thenS]
      have ci := in_letters w c
      cases hc : isL c with
      | false =>
        rw [hc] at ci
        simp only [Bool.false_and, cond_false]
        rw [← app]
        simp [wordsBody, sIf, tAn, tB', eB, eV, eC, Oc.bind, Oc.of, ci, Oc.thenS]
      | true =>
        rw [hc] at ci
        by_cases hp0 : pre = []
        · subst hp0
          simp only [pvOf, List.getLast?_nil, Bool.and_false, cond_false]
          rw [← app]
          simp [wordsBody, sIf, tAn, tB', eB, eV, eC, Oc.bind, Oc.of, ci, Oc.thenS, gtD, cmpD]
        · have g0 : decide ((0 : Int) < (pre.length : Int)) = true := decide_eq_true (by have := List.length_pos_iff.mpr hp0; omega)
          obtain ⟨d, hd, hpd⟩ := pv_idx (cs := c :: cs) hz hp0 w
          have di := in_letters w d
          rw [← hpd] at di
          cases hpvb : pvOf pre with
          | false =>
            rw [hpvb] at di
            simp only [Bool.and_false, cond_false]
            rw [← app]
            simp only [wordsBody, sIf, tAn, tB', eB, eV, eC, Oc.bind, Oc.of, ci, Oc.thenS, gtD, cmpD, g0, subD, hd, di, List.getElem?_cons_zero, List.getElem?_cons_succ, cond_true, cond_false]
          | true =>
            rw [hpvb] at di
            obtain ⟨b, ⟨j, t⟩, rfl⟩ : ∃ b x, acc = b ++ [x] := ⟨acc.dropLast, acc.getLast (hpv hpvb), (List.dropLast_concat_getLast (hpv hpvb)).symm⟩
            have lt := hle (j, t) (by simp)
            have z1 : szOk ((S t).length + (⟨#[c]⟩ : Str).length) = true := by rw [← e0, S_len, S_len]; exact szOk_of (by simp at lt ⊢; omega)
            have z2 : szOk 2 = true := szOk_of (by omega)
            have a1 : atI ((b ++ [(j, t)]).map prD) (-1) = some (prD (j, t)) := by rw [List.map_append]; exact atI_last _ _
            have l1 := lst_at hw
            have t0 : atI [PyData.int (j : Int), .str (S t)] 0 = some (.int (j : Int)) := rfl
            have t1 : atI [PyData.int (j : Int), .str (S t)] 1 = some (.str (S t)) := rfl
            have ap : S t ++ (⟨#[c]⟩ : Str) = S (t ++ [c]) := by rw [← e0, S_app]
            have hk : (ixN ((b ++ [(j, t)]).map prD).length (-1)).map (fun i => (PyData.none, ((b ++ [(j, t)]).map prD).set i (.tuple [.int (j : Int), .str (S (t ++ [c]))]))) = some (.none, (b ++ [(j, t ++ [c])]).map prD) := by
              rw [List.length_map, List.length_append, List.length_singleton, ix_last]
              simp [prD]
            have u := upd_at (k := fun xs => (ixN xs.length (-1)).map (fun i => (PyData.none, xs.set i (.tuple [.int (j : Int), .str (S (t ++ [c]))])))) hw hk
            simp only [Bool.and_self, cond_true, bump_snoc]
            simp only [wordsBody, sIf, tAn, tB', eB, eV, eC, eU, Oc.bind, Oc.of, ci, Oc.thenS, gtD, cmpD, g0, subD, hd, di, List.getElem?_cons_zero, List.getElem?_cons_succ, cond_true, sAsg, eTup, aC, aN, negD, ixD_rf hw, ixD_tup, a1, prD, t0, t1, addD, z1, if_true, ap, gIx, Oc.on, List.length_cons, List.length_nil, Nat.zero_add, z2, u]
    have hw1 : (w.set q (.lst ((cond (isL c && pvOf pre) (bump c acc) (acc ++ [(pre.length, [c])])).map prD)))[q]? = some (.lst ((cond (isL c && pvOf pre) (bump c acc) (acc ++ [(pre.length, [c])])).map prD)) := List.getElem?_set_self hl
    have facts : (cond (isL c && pvOf pre) (bump c acc) (acc ++ [(pre.length, [c])])).length ≤ pre.length + 1 ∧ (pvOf (pre ++ [c]) = true → cond (isL c && pvOf pre) (bump c acc) (acc ++ [(pre.length, [c])]) ≠ []) ∧ ((cond (isL c && pvOf pre) (bump c acc) (acc ++ [(pre.length, [c])])).map fun p => p.2.length).sum ≤ pre.length + 1 := by
      cases hb : isL c && pvOf pre with
      | false =>
        simp only [cond_false]
        refine ⟨by simp; omega, fun _ => by simp, by simp; omega⟩
      | true =>
        rw [Bool.and_eq_true] at hb
        obtain ⟨b, ⟨j, t⟩, rfl⟩ : ∃ b x, acc = b ++ [x] := ⟨acc.dropLast, acc.getLast (hpv hb.2), (List.dropLast_concat_getLast (hpv hb.2)).symm⟩
        simp only [cond_true, bump_snoc]
        simp only [List.length_append, List.length_singleton, List.map_append, List.map_cons, List.map_nil, List.sum_append, List.sum_cons, List.sum_nil] at hac hsum ⊢
        refine ⟨by omega, fun _ => by simp, by omega⟩
    have msum : ∀ (a : List (Nat × List Nat)) (p : Nat × List Nat), p ∈ a → p.2.length ≤ (a.map fun p => p.2.length).sum := by
      intro a p
      induction a with
      | nil => intro h; cases h
      | cons x a ih =>
        intro h
        simp only [List.map_cons, List.sum_cons]
        rcases List.mem_cons.mp h with rfl | h
        · omega
        · have := ih h; omega
    obtain ⟨x2', x3', ih⟩ := words_loop cs (pre ++ [c]) _ (some (.int (pre.length : Int))) (some (.str ⟨#[c]⟩)) _ (by rw [← e1]; exact hz) hw1 (by rw [pl]; exact facts.1) facts.2.1 (fun p hp => by have := msum _ p hp; have := facts.2.2; omega) (by rw [pl]; exact facts.2.2)
    refine ⟨x2', x3', ?_⟩
    rw [← e1, pl, pv1, List.set_set] at ih
    rw [wrun, ← ih]
    simp only [List.map_cons, enD, forL, gT, gC, gN, gZ, Oc.bind, List.length_cons, List.length_nil, Nat.zero_add, if_true, List.set_cons_zero, List.set_cons_succ, body]
end Tk

set_option Elab.async false
set_option linter.all false
set_option maxRecDepth 100000
set_option maxHeartbeats 4000000
namespace Tk
open PySem L2 Td
/-! ### stores whose cells speak of no later ones -/
mutual
theorem bnd_mono {n m : Nat} (h : n ≤ m) : ∀ d : PyData, bnd n d = true → bnd m d = true
  | .none, _ => rfl
  | .bool _, _ => rfl
  | .int _, _ => rfl
  | .str _, _ => rfl
  | .list xs, b => by simpa [bnd] using bndA_mono h xs (by simpa [bnd] using b)
  | .tuple xs, b => by simpa [bnd] using bndA_mono h xs (by simpa [bnd] using b)
  | .dict kvs, b => by
    simp only [bnd] at b ⊢
    unfold bndK at b ⊢
    split at b
    · have := of_decide_eq_true b
      exact decide_eq_true (by omega)
    · cases b
theorem bndA_mono {n m : Nat} (h : n ≤ m) : ∀ xs : List PyData, bndA n xs = true → bndA m xs = true
  | [], _ => rfl
  | x :: xs, b => by
    have b' : bnd n x = true ∧ bndA n xs = true := by simpa [bndA] using b
    simp [bndA, bnd_mono h x b'.1, bndA_mono h xs b'.2]
end
theorem bndO_mono {n m : Nat} (h : n ≤ m) (ob : Ob) (b : bndO n ob = true) : bndO m ob = true := by
  cases ob with
  | lst xs => exact bndA_mono h _ b
  | dK kvs => exact bndA_mono h _ b
  | ins c fs => exact bndA_mono h _ b
  | dead => rfl
def Cl (w : Ws) : Prop := w.all (bndO w.length) = true
theorem Cl.snoc {w : Ws} {ob : Ob} (h : Cl w) (b : bndO (w.length + 1) ob = true) : Cl (w ++ [ob]) := by
  unfold Cl at *
  rw [List.length_append, List.length_singleton, List.all_append, Bool.and_eq_true]
  refine ⟨?_, by simp [b]⟩
  rw [List.all_eq_true] at h ⊢
  exact fun x hx => bndO_mono (by omega) x (h x hx)
theorem leave_trim {w v : Ws} {d : PyData} (h : Cl w) (b : bnd w.length d = true) : leave w.length (.rt d (w ++ v)) = .ok d w := by
  have t : trimW w.length (w ++ v) = true := by
    unfold trimW
    rw [List.take_left, h]
    simp
  simp only [leave, t, b, Bool.and_self, if_true, List.take_left]
theorem leave_trimN {w v : Ws} {ρ : Ev} (h : Cl w) : leave w.length (.nx ρ (w ++ v)) = .ok .none w := by
  have t : trimW w.length (w ++ v) = true := by
    unfold trimW
    rw [List.take_left, h]
    simp
  simp only [leave, t, if_true, List.take_left]
theorem bndA_prs (n : Nat) : ∀ l : List (Nat × List Nat), bndA n (l.map prD) = true
  | [] => rfl
  | p :: l => by simp [bndA, prD, bnd, bndA_prs n l]
theorem chD_S (t : List Nat) : chD (S t) = t.map fun c => .str ⟨#[c]⟩ := by simp [chD, S_cps]
theorem words_ok {w : Ws} (t : List Nat) (hl : t.length ≤ 100000) (hc : Cl w) : F_words_in [.str (S t)] w = .ok (.list ((wrun false 0 [] t).map prD)) w := by
  have z0 : szOk 0 = true := szOk_of (by omega)
  obtain ⟨x2, x3, e⟩ := words_loop (q := w.length) t [] [] none none (w ++ [.lst []]) (by simpa using hl) (by simp) (by simp) (fun _ => by simp_all [pvOf]) (fun p hp => by cases hp) (by simp)
  simp only [List.nil_append, List.length_nil, pvOf, List.getLast?_nil] at e
  have fz : fzD ((w ++ [Ob.lst []]).set w.length (.lst ((wrun false 0 [] t).map prD))) (rf w.length) = some (.list ((wrun false 0 [] t).map prD), w ++ [.dead]) := by
    simp [fzD, locOf]
  have lv := leave_trim (v := [.dead]) (d := .list ((wrun false 0 [] t).map prD)) hc (by simpa [bnd] using bndA_prs _ _)
  rw [← lv]
  show leave w.length (b_words_in _ w) = _
  congr 1
  unfold b_words_in
  simp only [startE, List.map_cons, List.map_nil, List.length_cons, List.length_nil, List.replicate, List.cons_append, List.nil_append, sSeq, sAsg, eLstS, aN, Oc.bind, Oc.on, z0, cond_true, Oc.thenS, gN, List.set_cons_zero, List.set_cons_succ, sFor, iEn, aC, eV, List.getElem?_cons_zero, List.getElem?_cons_succ, chD_S, e, sRet, eFz, fz]
/-! ### the reader -/
def rdF (T : List (List Nat)) (n : Nat) (a b : PyData) (k : Int) : List (Str × PyData) := [("words", .list ((idx 0 T).map prD)), ("length", .int (n : Int)), ("line_held", a), ("first_field", b), ("spot", .int k)]
abbrev rdO (T : List (List Nat)) (n : Nat) (a b : PyData) (k : Nat) : Ob := .ins "PatternReader" (rdF T n a b (k : Int))
theorem lk_words {T : List (List Nat)} {n : Nat} {a b : PyData} {k : Int} : (rdF T n a b k).lookup ("words" : Str) = some (.list ((idx 0 T).map prD)) := by rfl
theorem lk_spot {T : List (List Nat)} {n : Nat} {a b : PyData} {k : Int} : (rdF T n a b k).lookup ("spot" : Str) = some (.int k) := by rfl
theorem lk_len {T : List (List Nat)} {n : Nat} {a b : PyData} {k : Int} : (rdF T n a b k).lookup ("length" : Str) = some (.int (n : Int)) := by rfl
theorem pt_spot {T : List (List Nat)} {n : Nat} {a b : PyData} {k j : Int} : putFD "spot" (.int j) (rdF T n a b k) = rdF T n a b j := by rfl
theorem rd_len {T : List (List Nat)} {n : Nat} {a b : PyData} {k : Int} : (rdF T n a b k).length < 1000 := by show 5 < 1000; omega
variable {T : List (List Nat)} {n k l : Nat} {a b : PyData} {w : Ws}
theorem ins_at (hw : w[l]? = some (rdO T n a b k)) : insOf w (rf l) "PatternReader" = some (rdF T n a b (k : Int)) := by
  simp [insOf, locOf, hw]
theorem ok_at (hw : w[l]? = some (rdO T n a b k)) (m : Str) (hm : ∀ k : Int, (rdF T n a b k).lookup m = none) : okM w (rf l) "PatternReader" m = true := by
  simp [okM, ins_at hw, hm]
theorem ok_present (hw : w[l]? = some (rdO T n a b k)) : okM w (rf l) "PatternReader" "present" = true := ok_at hw _ fun _ => by rfl
theorem ok_require (hw : w[l]? = some (rdO T n a b k)) : okM w (rf l) "PatternReader" "require" = true := ok_at hw _ fun _ => by rfl
theorem ok_take (hw : w[l]? = some (rdO T n a b k)) : okM w (rf l) "PatternReader" "take" = true := ok_at hw _ fun _ => by rfl
theorem ok_name (hw : w[l]? = some (rdO T n a b k)) : okM w (rf l) "PatternReader" "name" = true := ok_at hw _ fun _ => by rfl
theorem ok_opening (hw : w[l]? = some (rdO T n a b k)) : okM w (rf l) "PatternReader" "opening" = true := ok_at hw _ fun _ => by rfl
theorem ok_can (hw : w[l]? = some (rdO T n a b k)) : okM w (rf l) "PatternReader" "can_hold" = true := ok_at hw _ fun _ => by rfl
theorem ok_closed (hw : w[l]? = some (rdO T n a b k)) : okM w (rf l) "PatternReader" "closed" = true := ok_at hw _ fun _ => by rfl
theorem ok_whole (hw : w[l]? = some (rdO T n a b k)) : okM w (rf l) "PatternReader" "whole" = true := ok_at hw _ fun _ => by rfl
theorem ok_finish (hw : w[l]? = some (rdO T n a b k)) : okM w (rf l) "PatternReader" "finish" = true := ok_at hw _ fun _ => by rfl
theorem idx_len : ∀ (T : List (List Nat)) (i : Nat), (idx i T).length = T.length
  | [], _ => rfl
  | t :: ts, i => by simp [idx, idx_len ts]
theorem idx_get : ∀ (T : List (List Nat)) (i k : Nat) (t : List Nat), T[k]? = some t → ∃ j, (idx i T)[k]? = some (j, t)
  | [], _, _, _, h => by simp at h
  | t :: ts, i, 0, u, h => by simp at h; subst h; exact ⟨i, rfl⟩
  | t :: ts, i, k + 1, u, h => by
    obtain ⟨j, hj⟩ := idx_get ts (i + t.length) k u (by simpa using h)
    exact ⟨j, by simpa [idx] using hj⟩
theorem present_ok (hw : w[l]? = some (rdO T n a b k)) : F_PatternReader_present [rf l] w = .ok (.str (S (T.getD k []))) w := by
  have i := ins_at hw
  have e : b_PatternReader_present [some (rf l)] w = .rt (.str (S (T.getD k []))) w := by
    unfold b_PatternReader_present
    by_cases hk : k < T.length
    · have h1 : T[k]? = some T[k] := List.getElem?_eq_getElem hk
      obtain ⟨j, hj⟩ := idx_get T 0 k T[k] h1
      have c1 : decide ((k : Int) < ((idx 0 T).length : Int)) = true := decide_eq_true (by rw [idx_len]; omega)
      have at1 : atI ((idx 0 T).map prD) (k : Int) = some (prD (j, T[k])) := atI_nat (by rw [List.getElem?_map, hj]; rfl)
      have t1 : atI [PyData.int (j : Int), .str (S T[k])] 1 = some (.str (S T[k])) := rfl
      have gd : T.getD k [] = T[k] := by simp [List.getD, h1]
      simp only [sRet, eIf, tB', eB, eFd, eV, eC, eCb, aC, aN, Oc.bind, Oc.of, Oc.thenS, List.getElem?_cons_zero, i, Option.bind_some, lk_spot, lk_words, lenD, lstOf, Option.map_some, List.length_map, ltD, cmpD, c1, cond_true, ixD_list, ixD_tup, at1, prD, t1, gd]
    · have c1 : decide ((k : Int) < ((idx 0 T).length : Int)) = false := decide_eq_false (by rw [idx_len]; omega)
      have gd : T.getD k [] = [] := by simp [List.getD, List.getElem?_eq_none (by omega : T.length ≤ k)]
      simp only [sRet, eIf, tB', eB, eFd, eV, eC, eCb, aC, aN, Oc.bind, Oc.of, Oc.thenS, List.getElem?_cons_zero, i, Option.bind_some, lk_spot, lk_words, lenD, lstOf, Option.map_some, List.length_map, ltD, cmpD, c1, cond_false, gd, lit_e]
  show leave w.length (b_PatternReader_present [some (rf l)] w) = _
  rw [e]
  exact leave_ret rfl
theorem require_ok (d : PyData) (w : Ws) : F_PatternReader_require [d, .bool true] w = .ok .none w := by
  have e : b_PatternReader_require [some d, some (.bool true)] w = .nx [some d, some (.bool true)] w := by
    simp [b_PatternReader_require, sIf, tNo, tTr, eV, Oc.bind, Oc.of, truD, Oc.thenS, sNil]
  show leave w.length (b_PatternReader_require [some d, some (.bool true)] w) = _
  rw [e]
  exact leave_end rfl
theorem getD_of {t : List Nat} (h : T[k]? = some t) : T.getD k [] = t := by simp [List.getD, h]
theorem bump_spot {ρ : Ev} (hw : w[l]? = some (rdO T n a b k)) (h0 : ρ[0]? = some (some (rf l))) : sFdA "PatternReader" "spot" (eV 0) (eC (.int 1)) ρ w = .nx ρ (w.set l (rdO T n a b (k + 1))) := by
  have i := ins_at hw
  simp [sFdA, eV, eC, h0, Oc.thenS, i, lk_spot, updI, locOf, rd_len, pt_spot]
  rfl
theorem take_ok {t : List Nat} (hw : w[l]? = some (rdO T n a b k)) (ht : T[k]? = some t) : F_PatternReader_take [rf l, .str (S t)] w = .ok .none (w.set l (rdO T n a b (k + 1))) := by
  have e : b_PatternReader_take [some (rf l), some (.str (S t))] w = .nx [some (rf l), some (.str (S t))] (w.set l (rdO T n a b (k + 1))) := by
    have p := present_ok hw
    rw [getD_of ht] at p
    unfold b_PatternReader_take sSeq
    rw [show (sExp (eMt "PatternReader" "require" F_PatternReader_require (eV 0) (aC (eB eqD (eMt "PatternReader" "present" F_PatternReader_present (eV 0) aN) (eV 1)) aN))) [some (rf l), some (.str (S t))] w = .nx [some (rf l), some (.str (S t))] w by
      simp only [sExp, eMt, eV, Oc.bind, List.getElem?_cons_zero, List.getElem?_cons_succ, ok_require hw, ok_present hw, Oc.on, cond_true, aC, aN, eB, p, eqD_str, Oc.of, decide_true, require_ok, Oc.thenS]]
    exact bump_spot hw rfl
  show leave w.length (b_PatternReader_take [some (rf l), some (.str (S t))] w) = _
  rw [e]
  exact leave_end (by rw [List.length_set])
theorem name_at {t : List Nat} (hw : w[l]? = some (rdO T n a b k)) (ht : T[k]? = some t) (hn : nmL t = true) : F_PatternReader_name [rf l] w = .ok (.str (S t)) (w.set l (rdO T n a b (k + 1))) := by
  have e : b_PatternReader_name [some (rf l), none] w = .rt (.str (S t)) (w.set l (rdO T n a b (k + 1))) := by
    have p := present_ok hw
    rw [getD_of ht] at p
    have nm := name_ok w hn
    unfold b_PatternReader_name
    rw [sSeq, show (sAsg (eMt "PatternReader" "present" F_PatternReader_present (eV 0) aN) (gN 1)) [some (rf l), none] w = .nx [some (rf l), some (.str (S t))] w by
      simp only [sAsg, eMt, eV, Oc.bind, List.getElem?_cons_zero, ok_present hw, Oc.on, cond_true, aN, p, Oc.thenS, gN, List.set_cons_zero, List.set_cons_succ]]
    simp only
    rw [sSeq, show (sExp (eMt "PatternReader" "require" F_PatternReader_require (eV 0) (aC (eCall F_is_name [] (aC (eV 1) aN)) aN))) [some (rf l), some (.str (S t))] w = .nx [some (rf l), some (.str (S t))] w by
      simp only [sExp, eMt, eV, Oc.bind, List.getElem?_cons_zero, List.getElem?_cons_succ, ok_require hw, Oc.on, cond_true, aC, aN, eCall, List.append_nil, nm, require_ok, Oc.thenS]]
    simp only
    rw [sSeq, bump_spot hw rfl]
    rfl
  show leave w.length (b_PatternReader_name [some (rf l), none] w) = _
  rw [e]
  exact leave_ret (by rw [List.length_set])
theorem set_get {x : Ob} (hw : w[l]? = some x) (y : Ob) : (w.set l y)[l]? = some y := List.getElem?_set_self (List.getElem?_eq_some_iff.mp hw).1
theorem open_var {t : List Nat} (hw : w[l]? = some (rdO T n a b k)) (h0 : T[k]? = some [63]) (h1 : T[k + 1]? = some t) (hn : nmL t = true) : F_PatternReader_opening [rf l] w = .ok (.str (S (63 :: t))) (w.set l (rdO T n a b (k + 2))) := by
  have e : b_PatternReader_opening [some (rf l)] w = .rt (.str (S (63 :: t))) (w.set l (rdO T n a b (k + 2))) := by
    have p := present_ok hw
    rw [getD_of h0] at p
    have tk := take_ok hw h0
    have hw1 := set_get hw (rdO T n a b (k + 1))
    have nm := name_at hw1 h1 hn
    rw [List.set_set] at nm
    have b1 := nm_len hn
    have z : szOk ((S [63]).length + (S t).length) = true := by rw [S_len, S_len]; exact szOk_of (by simp; omega)
    unfold b_PatternReader_opening
    rw [sSeq, show (sIf (tB' (eB neD (eMt "PatternReader" "present" F_PatternReader_present (eV 0) aN) (eC (.str "?")))) (sRet (eMt "PatternReader" "name" F_PatternReader_name (eV 0) aN)) sNil) [some (rf l)] w = .nx [some (rf l)] w by
      simp only [sIf, tB', eB, eMt, eV, eC, Oc.bind, List.getElem?_cons_zero, ok_present hw, Oc.on, cond_true, cond_false, aN, p, lit_q, neD_str, decide_true, Bool.not_true, Oc.of, Oc.thenS, sNil]]
    simp only
    rw [sSeq, show (sExp (eMt "PatternReader" "take" F_PatternReader_take (eV 0) (aC (eC (.str "?")) aN))) [some (rf l)] w = .nx [some (rf l)] (w.set l (rdO T n a b (k + 1))) by
      simp only [sExp, eMt, eV, eC, Oc.bind, List.getElem?_cons_zero, ok_take hw, Oc.on, cond_true, aC, aN, lit_q, tk, Oc.thenS]]
    simp only [sRet, eB, eMt, eV, eC, Oc.bind, List.getElem?_cons_zero, ok_name hw1, Oc.on, cond_true, aN, nm, lit_q, addD, z, if_true, Oc.of, Oc.thenS, S_app, List.singleton_append]
  show leave w.length (b_PatternReader_opening [some (rf l)] w) = _
  rw [e]
  exact leave_ret (by rw [List.length_set])
theorem nm_ne {t : List Nat} (hn : nmL t = true) (c : Nat) (hc : c < 97) : ¬ (S t = S [c]) := by
  obtain ⟨_, _, h3⟩ := nm_len hn
  rw [S_inj]
  intro e
  have := h3 c (by rw [e]; simp)
  omega
theorem open_node {t : List Nat} (hw : w[l]? = some (rdO T n a b k)) (h0 : T[k]? = some t) (hn : nmL t = true) : F_PatternReader_opening [rf l] w = .ok (.str (S t)) (w.set l (rdO T n a b (k + 1))) := by
  have e : b_PatternReader_opening [some (rf l)] w = .rt (.str (S t)) (w.set l (rdO T n a b (k + 1))) := by
    have p := present_ok hw
    rw [getD_of h0] at p
    have nm := name_at hw h0 hn
    have ne := nm_ne hn 63 (by omega)
    unfold b_PatternReader_opening
    rw [sSeq, show (sIf (tB' (eB neD (eMt "PatternReader" "present" F_PatternReader_present (eV 0) aN) (eC (.str "?")))) (sRet (eMt "PatternReader" "name" F_PatternReader_name (eV 0) aN)) sNil) [some (rf l)] w = .rt (.str (S t)) (w.set l (rdO T n a b (k + 1))) by
      simp only [sIf, tB', eB, eMt, eV, eC, Oc.bind, List.getElem?_cons_zero, ok_present hw, ok_name hw, Oc.on, cond_true, cond_false, aN, p, lit_q, neD_str, decide_eq_false ne, Bool.not_false, Oc.of, Oc.thenS, sRet, nm]]
  show leave w.length (b_PatternReader_opening [some (rf l)] w) = _
  rw [e]
  exact leave_ret (by rw [List.length_set])
theorem can_ok (o d : PyData) (v : Bool) (h : F_is_variable [d] w = .ok (.bool v) w) : F_PatternReader_can_hold [o, d] w = .ok (.bool (!v)) w := by
  have e : b_PatternReader_can_hold [some o, some d] w = .rt (.bool (!v)) w := by
    simp [b_PatternReader_can_hold, sRet, eNo, eCall, aC, aN, eV, Oc.bind, h, Oc.thenS]
  show leave w.length (b_PatternReader_can_hold [some o, some d] w) = _
  rw [e]
  exact leave_ret rfl
theorem closed_ok (o d e : PyData) (v : Bool) (h : F_is_variable [d] w = .ok (.bool v) w) : F_PatternReader_closed [o, d, e] w = .ok (cond v d (.tuple [d, e])) w := by
  have z2 : szOk 2 = true := szOk_of (by omega)
  have e : b_PatternReader_closed [some o, some d, some e] w = .rt (cond v d (.tuple [d, e])) w := by
    cases v <;> simp [b_PatternReader_closed, sRet, eIf, tTr, truD, Oc.of, eCall, aC, aN, eV, Oc.bind, h, Oc.thenS, eTup, Oc.on, z2]
  show leave w.length (b_PatternReader_closed _ w) = _
  rw [show startE 3 [o, d, _] = [some o, some d, some _] from rfl, e]
  exact leave_ret rfl
theorem finish_ok (hw : w[l]? = some (rdO T n a b k)) (hk : k = T.length) : F_PatternReader_finish [rf l] w = .ok .none w := by
  have i := ins_at hw
  have eq : ∀ x : Int, eqD w (.int x) (.int x) = some (.bool true) := fun x => by
    unfold eqD
    rw [if_pos (by simp [SeqAt.shaped, PyData.canLay0, PyData.depth])]
    simp [PyData.eqv]
  have e : b_PatternReader_finish [some (rf l)] w = .nx [some (rf l)] w := by
    subst hk
    unfold b_PatternReader_finish
    simp only [sExp, eMt, eV, Oc.bind, List.getElem?_cons_zero, ok_require hw, Oc.on, cond_true, aC, aN, eB, eFd, eCb, i, Option.bind_some, lk_spot, lk_words, Oc.of, lenD, lstOf, Option.map_some, List.length_map, idx_len, eq, require_ok, Oc.thenS]
  show leave w.length (b_PatternReader_finish [some (rf l)] w) = _
  rw [e]
  exact leave_end rfl
end Tk

set_option Elab.async false
set_option linter.all false
set_option maxRecDepth 100000
set_option maxHeartbeats 4000000
namespace Tk
open PySem L2 Td
/-! ### whole: a pile of frames -/
abbrev inT : FT := tB' (eB neL (eV 1) (eLst aN))
abbrev inB : FS := (sSeq (sExp (eLm apL (eB ixD (eB ixD (eV 1) (eU negD (eC (.int 1)))) (eC (.int 1))) (aC (eV 3) aN)))
    (sSeq (sIf (tB' (eB eqD (eMt "PatternReader" "present" F_PatternReader_present (eV 0) aN) (eC (.str ",")))) sBrk sNil)
    (sSeq (sExp (eMt "PatternReader" "take" F_PatternReader_take (eV 0) (aC (eC (.str ")")) aN)))
    (sSeq (sAsg (eLm0 ppL (eV 1)) (gT 2 (gC (gN 2) (gC (gN 4) gZ))))
    (sAsg (eMt "PatternReader" "closed" F_PatternReader_closed (eV 0) (aC (eV 2) (aC (eCb tupleD (aC (eV 4) aN)) aN))) (gN 3))))))
abbrev tailS : FS := (sSeq (sIf (tB' (eB eqL (eV 1) (eLst aN))) (sRet (eV 3)) sNil)
    (sSeq (sExp (eMt "PatternReader" "take" F_PatternReader_take (eV 0) (aC (eC (.str ",")) aN)))
    (sExp (eMt "PatternReader" "take" F_PatternReader_take (eV 0) (aC (eC (.str " ")) aN)))))
abbrev pushS : FS := (sIf (tAn (tB' (eB eqD (eMt "PatternReader" "present" F_PatternReader_present (eV 0) aN) (eC (.str "(")))) (tTr (eMt "PatternReader" "can_hold" F_PatternReader_can_hold (eV 0) (aC (eV 2) aN)))) (sSeq (sExp (eMt "PatternReader" "require" F_PatternReader_require (eV 0) (aC (eB ltD (eCb lenD (aC (eV 1) aN)) (eC (.int 30))) aN)))
    (sSeq (sExp (eMt "PatternReader" "take" F_PatternReader_take (eV 0) (aC (eC (.str "(")) aN)))
    (sSeq (sExp (eLm apL (eV 1) (aC (eTup (aC (eV 2) (aC (eLstS aN) aN))) aN)))
    sCnt))) sNil)
abbrev outB : FS := (sSeq (sAsg (eMt "PatternReader" "opening" F_PatternReader_opening (eV 0) aN) (gN 2))
    (sSeq pushS
    (sSeq (sAsg (eMt "PatternReader" "closed" F_PatternReader_closed (eV 0) (aC (eV 2) (aC (eTup aN) aN))) (gN 3))
    (sSeq (sWh inT inB) tailS))))
abbrev ouT : FT := tTr (eC (.bool true))
theorem whole_eq : b_PatternReader_whole = sSeq (sAsg (eLstS aN) (gN 1)) (sWh ouT outB) := rfl
abbrev Fr := Nat × List Nat × List Pat
def frD (f : Fr) : PyData := .tuple [.str (S f.2.1), rf f.1]
def pl (fs : List Fr) : List PyData := (fs.map frD).reverse
theorem pl_cons (f : Fr) (fs : List Fr) : pl (f :: fs) = pl fs ++ [frD f] := by simp [pl]
theorem pl_len (fs : List Fr) : (pl fs).length = fs.length := by simp [pl]
def frOk (w : Ws) (q : Nat) : List Fr → Prop
  | [] => True
  | (j, h, ds) :: fs => q < j ∧ w[j]? = some (.lst (toDs ds)) ∧ (∀ f ∈ fs, f.1 < j) ∧ frOk w q fs
theorem frOk.low {q : Nat} {w w' : Ws} : ∀ {fs : List Fr}, frOk w q fs → (∀ f ∈ fs, w'[f.1]? = w[f.1]?) → frOk w' q fs
  | [], _, _ => trivial
  | (j, h, ds) :: fs, ⟨h1, h2, h3, h4⟩, e => ⟨h1, (e _ List.mem_cons_self).trans h2, h3, frOk.low h4 fun f hf => e f (List.mem_cons_of_mem _ hf)⟩
theorem frOk.gt {q : Nat} {w : Ws} : ∀ {fs : List Fr}, frOk w q fs → ∀ f ∈ fs, q < f.1 ∧ f.1 < w.length
  | (j, h, ds) :: fs, ⟨h1, h2, h3, h4⟩, f, hf => by
    rcases List.mem_cons.mp hf with rfl | hf
    · exact ⟨h1, (List.getElem?_eq_some_iff.mp h2).1⟩
    · exact frOk.gt h4 f hf
structure Stt (w0 : Ws) (l q : Nat) (T : List (List Nat)) (n : Nat) (a b : PyData) (fs : List Fr) (k : Nat) (w : Ws) : Prop where
  rd : w[l]? = some (rdO T n a b k)
  pile : w[q]? = some (.lst (pl fs))
  fr : frOk w q fs
  base : w.take w0.length = w0.set l (rdO T n a b k)
  hl : l < w0.length
  hq : w0.length ≤ q
variable {w0 w : Ws} {l q : Nat} {T : List (List Nat)} {n : Nat} {a b : PyData} {fs : List Fr} {k : Nat}
theorem take_set_lt {α : Type} (w : List α) (n i : Nat) (x : α) (h : n ≤ i) : (w.set i x).take n = w.take n := by
  rw [List.take_set, List.set_eq_of_length_le (by rw [List.length_take]; omega)]
theorem Stt.spot (s : Stt w0 l q T n a b fs k w) (k' : Nat) : Stt w0 l q T n a b fs k' (w.set l (rdO T n a b k')) where
  rd := set_get s.rd _
  pile := by rw [List.getElem?_set_ne (by have := s.hl; have := s.hq; omega)]; exact s.pile
  fr := s.fr.low fun f hf => List.getElem?_set_ne (by have := (s.fr.gt f hf).1; have := s.hl; have := s.hq; omega)
  base := by rw [List.take_set, s.base, List.set_set]
  hl := s.hl
  hq := s.hq
theorem Stt.push (s : Stt w0 l q T n a b fs k w) (h : List Nat) : Stt w0 l q T n a b ((w.length, h, []) :: fs) k ((w ++ [Ob.lst []]).set q (Ob.lst (pl fs ++ [frD (w.length, h, [])]))) := by
  have hq : q < w.length := (List.getElem?_eq_some_iff.mp s.pile).1
  have hl := s.hl
  have hq0 := s.hq
  refine ⟨?_, ?_, ⟨hq, ?_, fun f hf => (s.fr.gt f hf).2, s.fr.low fun f hf => ?_⟩, ?_, hl, hq0⟩
  · rw [List.getElem?_set_ne (by omega), List.getElem?_append_left (by omega)]; exact s.rd
  · rw [List.getElem?_set_self (by simp; omega), pl_cons]
  · rw [List.getElem?_set_ne (by omega)]; simp [toDs]
  · have := s.fr.gt f hf
    rw [List.getElem?_set_ne (by omega), List.getElem?_append_left (by omega)]
  · rw [take_set_lt _ _ _ _ hq0, List.take_append_of_le_length (by omega)]; exact s.base
theorem Stt.add {j : Nat} {h : List Nat} {ds : List Pat} (s : Stt w0 l q T n a b ((j, h, ds) :: fs) k w) (p : Pat) : Stt w0 l q T n a b ((j, h, ds ++ [p]) :: fs) k (w.set j (.lst (toDs (ds ++ [p])))) := by
  obtain ⟨f1, f2, f3, f4⟩ := s.fr
  have hl := s.hl
  have hq0 := s.hq
  refine ⟨?_, ?_, ⟨f1, set_get f2 _, f3, f4.low fun f hf => ?_⟩, ?_, hl, hq0⟩
  · rw [List.getElem?_set_ne (by omega)]; exact s.rd
  · rw [List.getElem?_set_ne (by omega), s.pile, pl_cons, pl_cons]; rfl
  · have := f3 f hf
    rw [List.getElem?_set_ne (by omega)]
  · rw [take_set_lt _ _ _ _ (by omega)]; exact s.base
theorem Stt.pop {f : Fr} (s : Stt w0 l q T n a b (f :: fs) k w) : Stt w0 l q T n a b fs k (w.set q (.lst (pl fs))) := by
  obtain ⟨f1, f2, f3, f4⟩ := s.fr
  have hl := s.hl
  have hq0 := s.hq
  refine ⟨?_, set_get s.pile _, f4.low fun g hg => ?_, ?_, hl, hq0⟩
  · rw [List.getElem?_set_ne (by omega)]; exact s.rd
  · have := (f4.gt g hg).1
    rw [List.getElem?_set_ne (by omega)]
  · rw [take_set_lt _ _ _ _ hq0]; exact s.base
theorem toDs_app : ∀ (a b : List Pat), toDs (a ++ b) = toDs a ++ toDs b
  | [], b => rfl
  | p :: a, b => by simp [toDs, toDs_app a b]
theorem s_take {ρ : Ev} {s : Str} {t : List Nat} (hw : w[l]? = some (rdO T n a b k)) (h0 : ρ[0]? = some (some (rf l))) (hs : s = S t) (ht : T[k]? = some t) :
    (sExp (eMt "PatternReader" "take" F_PatternReader_take (eV 0) (aC (eC (.str s)) aN))) ρ w = .nx ρ (w.set l (rdO T n a b (k + 1))) := by
  have tk := take_ok hw ht
  subst hs
  simp only [sExp, eMt, eV, eC, Oc.bind, h0, ok_take hw, Oc.on, cond_true, aC, aN, tk, Oc.thenS]
theorem seq_nx {f k : FS} {ρ ρ1 : Ev} {w w1 : Ws} (h : f ρ w = .nx ρ1 w1) : sSeq f k ρ w = k ρ1 w1 := by simp [sSeq, h]
theorem seq_rt {f k : FS} {ρ : Ev} {w w1 : Ws} {d : PyData} (h : f ρ w = .rt d w1) : sSeq f k ρ w = .rt d w1 := by simp [sSeq, h]
theorem seq_bk {f k : FS} {ρ ρ1 : Ev} {w w1 : Ws} (h : f ρ w = .bk ρ1 w1) : sSeq f k ρ w = .bk ρ1 w1 := by simp [sSeq, h]
theorem seq_ct {f k : FS} {ρ ρ1 : Ev} {w w1 : Ws} (h : f ρ w = .ct ρ1 w1) : sSeq f k ρ w = .ct ρ1 w1 := by simp [sSeq, h]
theorem lstOf_list {w : Ws} {ds : List PyData} : lstOf w (.list ds) = some ds := rfl
theorem wh_succ {t : FT} {body : FS} {n : Nat} {ρ : Ev} {w : Ws} : whL t body (n + 1) ρ w = (t ρ w).thenS ρ fun b w1 => cond b (match body ρ w1 with
    | .nx ρ2 w2 => whL t body n ρ2 w2
    | .ct ρ2 w2 => whL t body n ρ2 w2
    | .bk ρ2 w2 => .nx ρ2 w2
    | o => o) (.nx ρ w1) := rfl
theorem sz0 : szOk 0 = true := szOk_of (by omega)
theorem sz2 : szOk 2 = true := szOk_of (by omega)
theorem pl_emp (fs : List Fr) : (pl fs).isEmpty = fs.isEmpty := by cases fs <;> simp [pl]
theorem ne_pile {ρ : Ev} (hp : w[q]? = some (.lst (pl fs))) (h1 : ρ[1]? = some (some (rf q))) : inT ρ w = .ok (!fs.isEmpty) w := by
  simp only [inT, tB', eB, eV, h1, Oc.bind, eLst, aN, Oc.on, List.length_nil, sz0, cond_true, neL, lst_at hp, lstOf_list, Oc.of, pl_emp]
theorem eq_pile {ρ : Ev} (hp : w[q]? = some (.lst (pl fs))) (h1 : ρ[1]? = some (some (rf q))) : (tB' (eB eqL (eV 1) (eLst aN))) ρ w = .ok fs.isEmpty w := by
  simp only [tB', eB, eV, h1, Oc.bind, eLst, aN, Oc.on, List.length_nil, sz0, cond_true, eqL, lst_at hp, lstOf_list, Oc.of, pl_emp]
theorem tail_more {x2 x3 x4 : Option PyData} {f : Fr} (s : Stt w0 l q T n a b (f :: fs) k w) (h1 : T[k]? = some [44]) (h2 : T[k + 1]? = some [32]) :
    tailS [some (rf l), some (rf q), x2, x3, x4] w = .nx [some (rf l), some (rf q), x2, x3, x4] (w.set l (rdO T n a b (k + 2))) := by
  have e := eq_pile (ρ := [some (rf l), some (rf q), x2, x3, x4]) s.pile rfl
  have s1 := s.spot (k + 1)
  have t2 := s_take (ρ := [some (rf l), some (rf q), x2, x3, x4]) s1.rd rfl lit_s h2
  rw [List.set_set] at t2
  unfold tailS
  rw [seq_nx (by rw [sIf, e]; rfl), seq_nx (s_take s.rd rfl lit_m h1)]
  exact t2
theorem tail_end {x2 x4 : Option PyData} {d : PyData} (s : Stt w0 l q T n a b [] k w) :
    tailS [some (rf l), some (rf q), x2, some d, x4] w = .rt d w := by
  have e := eq_pile (ρ := [some (rf l), some (rf q), x2, some d, x4]) s.pile rfl
  unfold tailS
  rw [seq_rt (by rw [sIf, e]; rfl)]
theorem in_end {x2 x3 x4 : Option PyData} {j : Nat} (s : Stt w0 l q T n a b [] k w) :
    whL inT inB (j + 1) [some (rf l), some (rf q), x2, x3, x4] w = .nx [some (rf l), some (rf q), x2, x3, x4] w := by
  have e := ne_pile (ρ := [some (rf l), some (rf q), x2, x3, x4]) s.pile rfl
  rw [wh_succ, e]
  rfl
theorem add_ok {x2 x4 : Option PyData} {j : Nat} {h : List Nat} {ds : List Pat} {p : Pat} (s : Stt w0 l q T n a b ((j, h, ds) :: fs) k w) (hd : ds.length ≤ 100000) :
    (sExp (eLm apL (eB ixD (eB ixD (eV 1) (eU negD (eC (.int 1)))) (eC (.int 1))) (aC (eV 3) aN))) [some (rf l), some (rf q), x2, some (toD p), x4] w = .nx [some (rf l), some (rf q), x2, some (toD p), x4] (w.set j (.lst (toDs (ds ++ [p])))) := by
  have hj := s.fr.2.1
  have hk : apL (toDs ds) [toD p] = some (.none, toDs (ds ++ [p])) := by
    simp only [apL]
    rw [if_pos (by rw [toDs_len, sizeLine_eq]; omega), toDs_app]
    rfl
  have u := upd_at (k := fun xs => apL xs [toD p]) hj hk
  have a1 : atI (pl ((j, h, ds) :: fs)) (-1) = some (frD (j, h, ds)) := by rw [pl_cons]; exact atI_last _ _
  have t1 : atI [PyData.str (S h), rf j] 1 = some (rf j) := rfl
  simp only [sExp, eLm, eB, eU, eV, eC, Oc.bind, negD, Oc.of, List.getElem?_cons_zero, List.getElem?_cons_succ, ixD_rf s.pile, a1, frD, ixD_tup, t1, lst_at hj, Option.isSome_some, Oc.on, cond_true, aC, aN, u, Oc.thenS]
theorem in_comma {x2 x4 : Option PyData} {j m : Nat} {h : List Nat} {ds : List Pat} {p : Pat} (s : Stt w0 l q T n a b ((j, h, ds) :: fs) k w) (hd : ds.length ≤ 100000) (h1 : T[k]? = some [44]) :
    whL inT inB (m + 1) [some (rf l), some (rf q), x2, some (toD p), x4] w = .nx [some (rf l), some (rf q), x2, some (toD p), x4] (w.set j (.lst (toDs (ds ++ [p])))) := by
  have e := ne_pile (ρ := [some (rf l), some (rf q), x2, some (toD p), x4]) s.pile rfl
  have s1 := s.add p
  have pr := present_ok s1.rd
  rw [getD_of h1] at pr
  have bd : inB [some (rf l), some (rf q), x2, some (toD p), x4] w = .bk [some (rf l), some (rf q), x2, some (toD p), x4] (w.set j (.lst (toDs (ds ++ [p])))) := by
    unfold inB
    rw [seq_nx (add_ok s hd), seq_bk]
    simp only [sIf, tB', eB, eMt, eV, eC, Oc.bind, List.getElem?_cons_zero, ok_present s1.rd, Oc.on, cond_true, aN, pr, lit_m, eqD_str, decide_true, Oc.of, Oc.thenS, sBrk]
  rw [wh_succ, e]
  simp only [List.isEmpty_cons, Bool.not_false, Oc.thenS, cond_true, bd]
theorem in_end_part {x2 x4 : Option PyData} {j m : Nat} {h : List Nat} {ds : List Pat} {p : Pat} (s : Stt w0 l q T n a b ((j, h, ds) :: fs) k w) (hd : ds.length ≤ 100000) (hn : nmL h = true) (h1 : T[k]? = some [41]) :
    ∃ w', Stt w0 l q T n a b fs (k + 1) w' ∧ whL inT inB (m + 1) [some (rf l), some (rf q), x2, some (toD p), x4] w = whL inT inB m [some (rf l), some (rf q), some (.str (S h)), some (.tuple [.str (S h), .tuple (toDs (ds ++ [p]))]), some (rf j)] w' := by
  have e := ne_pile (ρ := [some (rf l), some (rf q), x2, some (toD p), x4]) s.pile rfl
  have s1 := s.add p
  have pr := present_ok s1.rd
  rw [getD_of h1] at pr
  have s2 := s1.spot (k + 1)
  have s3 := s2.pop
  refine ⟨_, s3, ?_⟩
  have ne : ¬ (S [41] = S [44]) := by rw [S_inj]; simp
  have tk := s_take (ρ := [some (rf l), some (rf q), x2, some (toD p), x4]) s1.rd rfl lit_c h1
  have hk : ppL (pl ((j, h, ds ++ [p]) :: fs)) [] = some (frD (j, h, ds ++ [p]), pl fs) := by
    rw [pl_cons]
    simp [ppL]
  have u := upd_at (k := fun xs => ppL xs []) s2.pile hk
  have hj : (List.set (List.set (List.set w j (Ob.lst (toDs (ds ++ [p])))) l (rdO T n a b (k + 1))) q (Ob.lst (pl fs)))[j]? = some (.lst (toDs (ds ++ [p]))) := by
    rw [List.getElem?_set_ne (by have := s.fr.1; omega)]
    exact s2.fr.2.1
  have cl := closed_ok (rf l) (.str (S h)) (.tuple (toDs (ds ++ [p]))) false (var_no (List.set (List.set (List.set w j (Ob.lst (toDs (ds ++ [p])))) l (rdO T n a b (k + 1))) q (Ob.lst (pl fs))) hn)
  have bd : inB [some (rf l), some (rf q), x2, some (toD p), x4] w = .nx [some (rf l), some (rf q), some (.str (S h)), some (.tuple [.str (S h), .tuple (toDs (ds ++ [p]))]), some (rf j)] (List.set (List.set (List.set w j (Ob.lst (toDs (ds ++ [p])))) l (rdO T n a b (k + 1))) q (Ob.lst (pl fs))) := by
    unfold inB
    rw [seq_nx (add_ok s hd), seq_nx (ρ1 := [some (rf l), some (rf q), x2, some (toD p), x4]) (w1 := w.set j (.lst (toDs (ds ++ [p])))) (by
      simp only [sIf, tB', eB, eMt, eV, eC, Oc.bind, List.getElem?_cons_zero, ok_present s1.rd, Oc.on, cond_true, cond_false, aN, pr, lit_m, eqD_str, decide_eq_false ne, Oc.of, Oc.thenS, sNil])]
    rw [seq_nx tk]
    rw [seq_nx (ρ1 := [some (rf l), some (rf q), some (.str (S h)), some (toD p), some (rf j)]) (w1 := List.set (List.set (List.set w j (Ob.lst (toDs (ds ++ [p])))) l (rdO T n a b (k + 1))) q (Ob.lst (pl fs))) (by
      simp only [sAsg, eLm0, eV, Oc.bind, List.getElem?_cons_zero, List.getElem?_cons_succ, u, Oc.thenS, frD, gT, gC, gN, gZ, List.length_cons, List.length_nil, Nat.zero_add, Nat.reduceAdd, if_true, List.set_cons_zero, List.set_cons_succ])]
    simp only [sAsg, eMt, eV, Oc.bind, List.getElem?_cons_zero, List.getElem?_cons_succ, ok_closed s3.rd, Oc.on, cond_true, cond_false, aC, aN, eCb, tupleD, lst_at hj, Option.map_some, Oc.of, cl, Oc.thenS, gN, List.set_cons_zero, List.set_cons_succ]
  rw [wh_succ, e]
  simp only [List.isEmpty_cons, Bool.not_false, Oc.thenS, cond_true, bd]
end Tk

set_option Elab.async false
set_option linter.all false
set_option maxRecDepth 100000
set_option maxHeartbeats 4000000
namespace Tk
open PySem L2 Td
variable {w0 w : Ws} {l q : Nat} {T : List (List Nat)} {n : Nat} {a b : PyData} {fs : List Fr} {k : Nat}
theorem S_ne {t u : List Nat} (h : t ≠ u) : ¬ (S t = S u) := fun e => h (S_inj.mp e)
theorem push_no {x2 x3 x4 : Option PyData} (hw : w[l]? = some (rdO T n a b k)) (h2 : T[k]? ≠ some [40]) :
    pushS [some (rf l), some (rf q), x2, x3, x4] w = .nx [some (rf l), some (rf q), x2, x3, x4] w := by
  have pr := present_ok hw
  have ne : T.getD k [] ≠ [40] := by
    intro e
    apply h2
    rw [List.getD] at e
    cases h : T[k]? with
    | none => rw [h] at e; simp at e
    | some t => rw [h] at e; simp at e; rw [e]
  simp only [pushS, sIf, tAn, tB', eB, eMt, eV, eC, Oc.bind, List.getElem?_cons_zero, ok_present hw, Oc.on, cond_true, cond_false, aN, pr, lit_o, eqD_str, decide_eq_false (S_ne ne), Oc.of, Oc.thenS, sNil]
theorem out_var {x2 x3 x4 : Option PyData} {t : List Nat} (s : Stt w0 l q T n a b fs k w) (h0 : T[k]? = some [63]) (h1 : T[k + 1]? = some t) (hn : nmL t = true) (h2 : T[k + 2]? ≠ some [40]) :
    outB [some (rf l), some (rf q), x2, x3, x4] w = sSeq (whL inT inB 1000000) tailS [some (rf l), some (rf q), some (.str (S (63 :: t))), some (toD (.var t)), x4] (w.set l (rdO T n a b (k + 2))) := by
  have op := open_var s.rd h0 h1 hn
  have s1 := s.spot (k + 2)
  have cl := closed_ok (rf l) (.str (S (63 :: t))) (.tuple []) true (var_yes (List.set w l (rdO T n a b (k + 2))) hn)
  unfold outB
  rw [seq_nx (ρ1 := [some (rf l), some (rf q), some (.str (S (63 :: t))), x3, x4]) (w1 := w.set l (rdO T n a b (k + 2))) (by
    simp only [sAsg, eMt, eV, Oc.bind, List.getElem?_cons_zero, ok_opening s.rd, Oc.on, cond_true, aN, op, Oc.thenS, gN, List.set_cons_zero, List.set_cons_succ])]
  rw [seq_nx (push_no s1.rd h2)]
  rw [seq_nx (ρ1 := [some (rf l), some (rf q), some (.str (S (63 :: t))), some (toD (.var t)), x4]) (w1 := w.set l (rdO T n a b (k + 2))) (by
    simp only [sAsg, eMt, eV, Oc.bind, List.getElem?_cons_zero, List.getElem?_cons_succ, ok_closed s1.rd, Oc.on, cond_true, aC, aN, eTup, List.length_nil, sz0, cl, Oc.thenS, gN, List.set_cons_zero, List.set_cons_succ, toD])]
  rfl
theorem out_leaf {x2 x3 x4 : Option PyData} {t : List Nat} (s : Stt w0 l q T n a b fs k w) (h0 : T[k]? = some t) (hn : nmL t = true) (h2 : T[k + 1]? ≠ some [40]) :
    outB [some (rf l), some (rf q), x2, x3, x4] w = sSeq (whL inT inB 1000000) tailS [some (rf l), some (rf q), some (.str (S t)), some (toD (.node t [])), x4] (w.set l (rdO T n a b (k + 1))) := by
  have op := open_node s.rd h0 hn
  have s1 := s.spot (k + 1)
  have cl := closed_ok (rf l) (.str (S t)) (.tuple []) false (var_no (List.set w l (rdO T n a b (k + 1))) hn)
  unfold outB
  rw [seq_nx (ρ1 := [some (rf l), some (rf q), some (.str (S t)), x3, x4]) (w1 := w.set l (rdO T n a b (k + 1))) (by
    simp only [sAsg, eMt, eV, Oc.bind, List.getElem?_cons_zero, ok_opening s.rd, Oc.on, cond_true, aN, op, Oc.thenS, gN, List.set_cons_zero, List.set_cons_succ])]
  rw [seq_nx (push_no s1.rd h2)]
  rw [seq_nx (ρ1 := [some (rf l), some (rf q), some (.str (S t)), some (toD (.node t [])), x4]) (w1 := w.set l (rdO T n a b (k + 1))) (by
    simp only [sAsg, eMt, eV, Oc.bind, List.getElem?_cons_zero, List.getElem?_cons_succ, ok_closed s1.rd, Oc.on, cond_true, cond_false, aC, aN, eTup, List.length_nil, sz0, cl, Oc.thenS, gN, List.set_cons_zero, List.set_cons_succ, toD, toDs])]
  rfl
theorem out_push {x2 x3 x4 : Option PyData} {t : List Nat} (s : Stt w0 l q T n a b fs k w) (h0 : T[k]? = some t) (hn : nmL t = true) (h2 : T[k + 1]? = some [40]) (hf : fs.length < 30) :
    ∃ j w', Stt w0 l q T n a b ((j, t, []) :: fs) (k + 2) w' ∧ outB [some (rf l), some (rf q), x2, x3, x4] w = .ct [some (rf l), some (rf q), some (.str (S t)), x3, x4] w' := by
  have op := open_node s.rd h0 hn
  have s1 := s.spot (k + 1)
  have pr := present_ok s1.rd
  rw [getD_of h2] at pr
  have ch := can_ok (rf l) (.str (S t)) false (var_no (List.set w l (rdO T n a b (k + 1))) hn)
  have s2 := s1.spot (k + 2)
  have s3 := s2.push t
  refine ⟨_, _, s3, ?_⟩
  have tk := s_take (ρ := [some (rf l), some (rf q), some (.str (S t)), x3, x4]) s1.rd rfl lit_o h2
  have ln : decide ((((pl fs).length : Nat) : Int) < 30) = true := decide_eq_true (by rw [pl_len]; omega)
  have hk : apL (pl fs) [frD ((List.set (List.set w l (rdO T n a b (k + 1))) l (rdO T n a b (k + 2))).length, t, [])] = some (.none, pl fs ++ [frD ((List.set (List.set w l (rdO T n a b (k + 1))) l (rdO T n a b (k + 2))).length, t, [])]) := by
    simp only [apL]
    rw [if_pos (by rw [pl_len, sizeLine_eq]; omega)]
  have hq : q < (List.set (List.set w l (rdO T n a b (k + 1))) l (rdO T n a b (k + 2))).length := (List.getElem?_eq_some_iff.mp s2.pile).1
  have hp : (List.set (List.set w l (rdO T n a b (k + 1))) l (rdO T n a b (k + 2)) ++ [Ob.lst []])[q]? = some (.lst (pl fs)) := by
    rw [List.getElem?_append_left hq]; exact s2.pile
  have u := upd_at (k := fun xs => apL xs [frD ((List.set (List.set w l (rdO T n a b (k + 1))) l (rdO T n a b (k + 2))).length, t, [])]) hp hk
  simp only [frD] at u
  unfold outB
  rw [seq_nx (ρ1 := [some (rf l), some (rf q), some (.str (S t)), x3, x4]) (w1 := w.set l (rdO T n a b (k + 1))) (by
    simp only [sAsg, eMt, eV, Oc.bind, List.getElem?_cons_zero, ok_opening s.rd, Oc.on, cond_true, aN, op, Oc.thenS, gN, List.set_cons_zero, List.set_cons_succ])]
  rw [seq_ct]
  simp only [pushS, sIf, tAn, tB', tTr, eB, eMt, eV, eC, Oc.bind, List.getElem?_cons_zero, List.getElem?_cons_succ, ok_present s1.rd, ok_can s1.rd, Oc.on, cond_true, aC, aN, pr, lit_o, eqD_str, decide_true, Oc.of, ch, Bool.not_false, truD, Oc.thenS]
  rw [seq_nx (ρ1 := [some (rf l), some (rf q), some (.str (S t)), x3, x4]) (w1 := w.set l (rdO T n a b (k + 1))) (by
    simp only [sExp, eMt, eV, eB, eC, Oc.bind, List.getElem?_cons_zero, List.getElem?_cons_succ, ok_require s1.rd, Oc.on, cond_true, aC, aN, eCb, lenD, lst_at s1.pile, Option.map_some, Oc.of, ltD, cmpD, ln, require_ok, Oc.thenS])]
  rw [lit_o, show k + 1 + 1 = k + 2 from rfl] at tk
  rw [seq_nx tk]
  rw [seq_nx (ρ1 := [some (rf l), some (rf q), some (.str (S t)), x3, x4]) (by
    simp only [sExp, eLm, eV, Oc.bind, List.getElem?_cons_zero, List.getElem?_cons_succ, lst_at s2.pile, Option.isSome_some, Oc.on, cond_true, aC, aN, eTup, eLstS, List.length_nil, List.length_cons, Nat.zero_add, Nat.reduceAdd, sz0, sz2, u, Oc.thenS]
    rfl)]
  rfl
def fin (m : Nat) (o : Os) : Os := match o with
  | .nx ρ2 w2 => whL ouT outB m ρ2 w2
  | .ct ρ2 w2 => whL ouT outB m ρ2 w2
  | .bk ρ2 w2 => .nx ρ2 w2
  | o => o
def PO (R : PyData → Ws → Prop) (m : Nat) (ρ : Ev) (w : Ws) : Prop := wS (fun _ _ => False) R (whL ouT outB m ρ w)
def PI (R : PyData → Ws → Prop) (m j : Nat) (ρ : Ev) (w : Ws) : Prop := wS (fun _ _ => False) R (fin m (sSeq (whL inT inB j) tailS ρ w))
theorem out_step (m : Nat) (ρ : Ev) (w : Ws) : whL ouT outB (m + 1) ρ w = fin m (outB ρ w) := by
  rw [wh_succ]
  rfl
mutual
def sz : Pat → Nat
  | .var _ => 1
  | .node _ ps => szs ps + 1
def szs : List Pat → Nat
  | [] => 0
  | p :: ps => sz p + szs ps
end
theorem drop_hd {t : List Nat} {r : List (List Nat)} (h : T.drop k = t :: r) : T[k]? = some t ∧ T.drop (k + 1) = r := by
  constructor
  · have : (T.drop k)[0]? = some t := by rw [h]; rfl
    simpa using this
  · have : (T.drop k).drop 1 = r := by rw [h]; rfl
    simpa [List.drop_drop] using this
theorem drop_ne {r : List (List Nat)} (h : T.drop k = r) (hr : r.head? ≠ some [40]) : T[k]? ≠ some [40] := by
  intro e
  apply hr
  rw [← h]
  simpa using e
theorem seq_congr {f f' kk : FS} {ρ ρ' : Ev} {w w' : Ws} (h : f ρ w = f' ρ' w') : sSeq f kk ρ w = sSeq f' kk ρ' w' := by simp only [sSeq, h]
theorem drop_app {A B : List (List Nat)} (h : T.drop k = A ++ B) : T.drop (k + A.length) = B := by
  have : (T.drop k).drop A.length = B := by rw [h]; simp
  rw [← this, List.drop_drop]
mutual
theorem goA (R : PyData → Ws → Prop) : ∀ (p : Pat) (fs : List Fr) (k : Nat) (w : Ws) (m : Nat) (rest : List (List Nat)) (x2 x3 x4 : Option PyData), ok p = true → (tok p).length ≤ 100000 → fs.length + hgt p ≤ 30 → T.drop k = tok p ++ rest → rest.head? ≠ some [40] → Stt w0 l q T n a b fs k w →
    (∀ w' y2 y4 j, 1000000 ≤ j + hgt p → Stt w0 l q T n a b fs (k + (tok p).length) w' → PI R m j [some (rf l), some (rf q), y2, some (toD p), y4] w') → PO R (m + sz p) [some (rf l), some (rf q), x2, x3, x4] w
  | .var t, fs, k, w, m, rest, x2, x3, x4, ho, _, _, hT, hr, s, H => by
    have hn : nmL t = true := ho
    simp only [tok, List.cons_append, List.nil_append] at hT
    obtain ⟨h0, hT⟩ := drop_hd hT
    obtain ⟨h1, hT⟩ := drop_hd hT
    have e := out_var (x2 := x2) (x3 := x3) (x4 := x4) s h0 h1 hn (drop_ne hT hr)
    unfold PO
    rw [show m + sz (.var t) = m + 1 by simp [sz], out_step, e]
    exact H _ _ _ 1000000 (by omega) (s.spot (k + 2))
  | .node t [], fs, k, w, m, rest, x2, x3, x4, ho, _, _, hT, hr, s, H => by
    have hn : nmL t = true := ((Bool.and_eq_true _ _).mp (show (nmL t && oks []) = true from ho)).1
    simp only [tok, List.cons_append, List.nil_append] at hT
    obtain ⟨h0, hT⟩ := drop_hd hT
    have e := out_leaf (x2 := x2) (x3 := x3) (x4 := x4) s h0 hn (drop_ne hT hr)
    unfold PO
    rw [show m + sz (.node t []) = m + 1 by simp [sz, szs], out_step, e]
    exact H _ _ _ 1000000 (by omega) (s.spot (k + 1))
  | .node t (p :: ps), fs, k, w, m, rest, x2, x3, x4, ho, hl, hh, hT, hr, s, H => by
    have hb := (Bool.and_eq_true _ _).mp (show (nmL t && oks (p :: ps)) = true from ho)
    have hn : nmL t = true := hb.1
    have hh' : fs.length + (hgts (p :: ps) + 1) ≤ 30 := by simpa [hgt, hgts] using hh
    simp only [tok, List.cons_append, List.length_cons, List.length_append, List.length_nil] at hT hl
    obtain ⟨h0, hT⟩ := drop_hd hT
    obtain ⟨h1, hT⟩ := drop_hd hT
    obtain ⟨j, w', s', e⟩ := out_push (x2 := x2) (x3 := x3) (x4 := x4) s h0 hn h1 (by omega)
    unfold PO
    rw [show m + sz (.node t (p :: ps)) = (m + szs (p :: ps)) + 1 by simp [sz]; omega, out_step, e]
    refine goB R (p :: ps) p ps t [] j fs (k + 2) w' m rest _ _ _ rfl hb.2 hn (by simp only [List.length_nil]; omega) (by omega) (by rw [hT]; simp) s' fun w'' y2 y4 i hi s'' => ?_
    have := H w'' y2 y4 i (by simp only [hgt, hgts] at hi ⊢; omega) (by
      have e2 : k + (tok (.node t (p :: ps))).length = k + 2 + (tok p).length + (tokR ps).length + 1 := by simp [tok]; omega
      rw [e2]; exact s'')
    simpa [toD] using this
theorem goB (R : PyData → Ws → Prop) : ∀ (L : List Pat) (p : Pat) (ps : List Pat) (h : List Nat) (done : List Pat) (jj : Nat) (fs : List Fr) (k : Nat) (w : Ws) (m : Nat) (rest : List (List Nat)) (x2 x3 x4 : Option PyData), L = p :: ps → oks L = true → nmL h = true →
    done.length + ((tok p).length + (tokR ps).length) ≤ 100000 → fs.length + 1 + hgts L ≤ 30 → T.drop k = tok p ++ (tokR ps ++ [41] :: rest) → Stt w0 l q T n a b ((jj, h, done) :: fs) k w →
    (∀ w' y2 y4 j, 1000000 ≤ j + (hgts L + 1) → Stt w0 l q T n a b fs (k + (tok p).length + (tokR ps).length + 1) w' → PI R m j [some (rf l), some (rf q), y2, some (.tuple [.str (S h), .tuple (toDs (done ++ L))]), y4] w') → PO R (m + szs L) [some (rf l), some (rf q), x2, x3, x4] w
  | [], _, _, _, _, _, _, _, _, _, _, _, _, _, e, _, _, _, _, _, _, _ => by cases e
  | p :: ps, p', ps', h, done, jj, fs, k, w, m, rest, x2, x3, x4, e, ho, hn, hl, hh, hT, s, H => by
    cases e
    have ho' : ok p = true ∧ oks ps = true := by simpa [oks] using ho
    simp only [hgts] at hh H
    have hd : T.drop (k + (tok p).length) = tokR ps ++ [41] :: rest := drop_app hT
    rw [show m + szs (p :: ps) = (m + szs ps) + sz p by simp [szs]; omega]
    refine goA R p ((jj, h, done) :: fs) k w (m + szs ps) _ x2 x3 x4 ho'.1 (by omega) (by simp only [List.length_cons]; omega) hT ?_ s fun w' y2 y4 j hj s' => ?_
    · cases ps with
      | nil => simp [tokR]
      | cons q r => simp [tokR]
    · obtain ⟨j, rfl⟩ : ∃ i, j = i + 1 := ⟨j - 1, by omega⟩
      match ps, ho', hl, hh, hd, H with
      | [], _, _, hh, hd, H =>
        simp only [tokR, List.nil_append] at hd
        obtain ⟨h1, _⟩ := drop_hd hd
        obtain ⟨w'', s'', e⟩ := in_end_part (x2 := y2) (x4 := y4) (m := j) (p := p) s' (by omega) hn h1
        unfold PI
        rw [seq_congr e]
        refine H w'' _ _ j (by simp only [hgts] at hj ⊢; omega) ?_
        simpa [tokR] using s''
      | q :: r, ho', hl, hh, hd, H =>
        simp only [tokR, List.cons_append, List.length_cons, List.length_append] at hd hl H
        obtain ⟨h1, hd⟩ := drop_hd hd
        obtain ⟨h2, hd⟩ := drop_hd hd
        have e1 := in_comma (x2 := y2) (x4 := y4) (m := j) (p := p) s' (by omega) h1
        have s1 := s'.add p
        have e2 := tail_more (x2 := y2) (x3 := some (toD p)) (x4 := y4) s1 h1 h2
        unfold PI
        rw [seq_nx e1, e2]
        have hmax : hgts (q :: r) = max (hgt q) (hgts r) := rfl
        refine goB R (q :: r) q r h (done ++ [p]) jj fs (k + (tok p).length + 2) _ m rest _ _ _ rfl ho'.2 hn (by simp only [List.length_append, List.length_singleton]; omega) (by simp only [hgts] at hh ⊢; omega) (by rw [hd]; simp) (s1.spot _) fun w'' z2 z4 i hi s'' => ?_
        have := H w'' z2 z4 i (by simp only [hgts] at hi ⊢; omega) (by
          rw [show k + (tok p).length + ((tok q).length + (tokR r).length + 1 + 1) + 1 = k + (tok p).length + 2 + (tok q).length + (tokR r).length + 1 by omega]
          exact s'')
        simpa using this
end
end Tk

set_option Elab.async false
set_option linter.all false
set_option maxRecDepth 100000
set_option maxHeartbeats 4000000
namespace Tk
open PySem L2 Td
variable {w0 w : Ws} {l q : Nat} {T : List (List Nat)} {n : Nat} {a b : PyData} {fs : List Fr} {k : Nat}
theorem gd_weak : ∀ {r : List (List Nat)}, gd true r = true → gd false r = true
  | [], _ => rfl
  | t :: ts, h => by
    unfold gd at h ⊢
    simp only [Bool.not_true, Bool.false_and, Bool.false_or] at h
    rw [h]
    simp
theorem gd_nm {pv : Bool} {t : List Nat} {r : List (List Nat)} (hp : pv = false) (h : nmL t = true) (hr : gd true r = true) : gd pv (t :: r) = true := by
  subst hp
  unfold gd
  obtain ⟨h1, _, h3⟩ := nm_len h
  have : t.all isL = true := List.all_eq_true.mpr fun c hc => decide_eq_true (h3 c hc)
  rw [this, hr, decide_eq_true h1]
  rfl
theorem gd_sg {pv : Bool} {c : Nat} {r : List (List Nat)} (hc : isL c = false) (hr : gd false r = true) : gd pv ([c] :: r) = true := by
  unfold gd
  simp [hc, hr]
mutual
theorem gd_tok : ∀ p : Pat, ok p = true → ∀ r, gd true r = true → gd false (tok p ++ r) = true
  | .var t, ho, r, hr => by
    simp only [tok, List.cons_append, List.nil_append]
    exact gd_sg (by decide) (gd_nm rfl (show nmL t = true from ho) hr)
  | .node t [], ho, r, hr => by
    have hn := ((Bool.and_eq_true _ _).mp (show (nmL t && oks []) = true from ho)).1
    simp only [tok, List.cons_append, List.nil_append]
    exact gd_nm rfl hn hr
  | .node t (p :: ps), ho, r, hr => by
    have hb := (Bool.and_eq_true _ _).mp (show (nmL t && oks (p :: ps)) = true from ho)
    have ho' : ok p = true ∧ oks ps = true := by simpa [oks] using hb.2
    simp only [tok, List.cons_append, List.append_assoc, List.nil_append]
    refine gd_nm rfl hb.1 (gd_sg (by decide) (gd_tok p ho'.1 _ (gd_tokR ps ho'.2 _ (gd_sg (by decide) (gd_weak hr)))))
theorem gd_tokR : ∀ ps : List Pat, oks ps = true → ∀ r, gd true r = true → gd true (tokR ps ++ r) = true
  | [], _, r, hr => by simpa [tokR] using hr
  | p :: ps, ho, r, hr => by
    have ho' : ok p = true ∧ oks ps = true := by simpa [oks] using ho
    simp only [tokR, List.cons_append, List.append_assoc]
    exact gd_sg (by decide) (gd_sg (by decide) (gd_tok p ho'.1 _ (gd_tokR ps ho'.2 _ hr)))
end
theorem gd_len : ∀ {pv : Bool} {T : List (List Nat)}, gd pv T = true → T.length ≤ T.flatten.length
  | _, [], _ => Nat.le_refl _
  | pv, t :: ts, h => by
    unfold gd at h
    rw [Bool.or_eq_true] at h
    simp only [List.flatten_cons, List.length_cons, List.length_append]
    rcases h with h | h
    · simp only [Bool.and_eq_true, decide_eq_true_eq] at h
      have := gd_len h.2
      omega
    · simp only [Bool.and_eq_true, decide_eq_true_eq] at h
      have := gd_len h.2
      omega
theorem tok_len {p : Pat} (h : ok p = true) : (tok p).length ≤ (txt p).length := by
  have := gd_tok p h [] rfl
  rw [List.append_nil] at this
  exact gd_len this
mutual
theorem sz_le : ∀ p : Pat, sz p ≤ (tok p).length
  | .var t => by simp [sz, tok]
  | .node t [] => by simp [sz, szs, tok]
  | .node t (p :: ps) => by
    have h1 := sz_le p
    have h2 := szs_le ps
    simp only [sz, szs, tok, List.length_cons, List.length_append, List.length_nil]
    omega
theorem szs_le : ∀ ps : List Pat, szs ps ≤ (tokR ps).length
  | [] => by simp [szs]
  | p :: ps => by
    have h1 := sz_le p
    have h2 := szs_le ps
    simp only [szs, tokR, List.length_cons, List.length_append]
    omega
end
mutual
theorem bnd_toD (n : Nat) : ∀ p : Pat, bnd n (toD p) = true
  | .var t => rfl
  | .node t ps => by simp [toD, bnd, bndA, bnd_toDs n ps]
theorem bnd_toDs (n : Nat) : ∀ ps : List Pat, bndA n (toDs ps) = true
  | [] => rfl
  | p :: ps => by simp [toDs, bndA, bnd_toD n p, bnd_toDs n ps]
end
theorem whole_ok {p : Pat} {rest : List (List Nat)} (hw : w[l]? = some (rdO T n a b k)) (hT : T.drop k = tok p ++ rest) (hr : rest.head? ≠ some [40]) (ho : ok p = true) (hh : hgt p ≤ 30) (hl : (tok p).length ≤ 100000)
    (hc : Cl (w.set l (rdO T n a b (k + (tok p).length)))) : F_PatternReader_whole [rf l] w = .ok (toD p) (w.set l (rdO T n a b (k + (tok p).length))) := by
  have hlw : l < w.length := (List.getElem?_eq_some_iff.mp hw).1
  have s0 : Stt w l w.length T n a b [] k (w ++ [.lst []]) := by
    refine ⟨by rw [List.getElem?_append_left hlw]; exact hw, by simp [pl], trivial, ?_, hlw, Nat.le_refl _⟩
    rw [List.take_left]
    exact (set_at hw).symm
  obtain ⟨m, hm⟩ : ∃ m, 1000000 = m + sz p := ⟨1000000 - sz p, by have := sz_le p; omega⟩
  have g := goA (fun d w' => d = toD p ∧ ∃ v, w' = w.set l (rdO T n a b (k + (tok p).length)) ++ v) p [] k _ m rest none none none ho hl (by simpa using hh) hT hr s0 fun w' y2 y4 j hj s' => by
    obtain ⟨j, rfl⟩ : ∃ i, j = i + 1 := ⟨j - 1, by omega⟩
    unfold PI
    rw [seq_nx (in_end s'), tail_end s']
    refine wS.rt ⟨rfl, w'.drop w.length, ?_⟩
    rw [← s'.base, List.take_append_drop]
  have e : b_PatternReader_whole [some (rf l), none, none, none, none] w = whL ouT outB 1000000 [some (rf l), some (rf w.length), none, none, none] (w ++ [.lst []]) := by
    rw [whole_eq]
    rw [seq_nx (ρ1 := [some (rf l), some (rf w.length), none, none, none]) (w1 := w ++ [.lst []]) (by
      simp only [sAsg, eLstS, aN, Oc.bind, Oc.on, List.length_nil, sz0, cond_true, Oc.thenS, gN, List.set_cons_zero, List.set_cons_succ])]
    rfl
  show leave w.length (b_PatternReader_whole [some (rf l), none, none, none, none] w) = _
  rw [e, hm]
  unfold PO at g
  generalize whL ouT outB (m + sz p) [some (rf l), some (rf w.length), none, none, none] (w ++ [.lst []]) = o at g
  cases g with
  | nx h => exact h.elim
  | rt h =>
    obtain ⟨rfl, v, rfl⟩ := h
    have := leave_trim (v := v) hc (bnd_toD (w.set l (rdO T n a b (k + (tok p).length))).length p)
    rwa [List.length_set] at this
theorem rd_cl {i j : Int} (h : Cl w) : Cl (w ++ [rdO T n (.int i) (.int j) k]) := h.snoc (by
  show bndA _ ((rdF T n (.int i) (.int j) (k : Int)).map (·.2)) = true
  simp [rdF, bndA, bnd, bndA_prs])
theorem ins_set {l : Nat} {f : Str} {v : PyData} {F : List (Str × PyData)} {ρ : Ev} {w : Ws} {fe : FE} {w1 : Ws} (hl : F.length < 1000) (h0 : ρ[0]? = some (some (rf l))) (hv : fe ρ w = .ok v w1) (hw : w1[l]? = some (.ins "PatternReader" F)) :
    sFd "PatternReader" f (eV 0) fe ρ w = .nx ρ (w1.set l (.ins "PatternReader" (putFD f v F))) := by
  have i : insOf w1 (rf l) "PatternReader" = some F := by simp [insOf, locOf, hw]
  simp [sFd, hv, eV, h0, Oc.thenS, updI, locOf, i, hl]
theorem init_ok {t : List Nat} {x y : PyData} (hw : w[l]? = some (.ins "PatternReader" [])) (hc : Cl w) (hT : gd false T = true) (ht : T.flatten = t) (hl : t.length ≤ 100000) :
    F_PatternReader___init__ [rf l, .str (S t), x, y] w = .ok .none (w.set l (rdO T t.length x y 0)) := by
  have wd := words_ok t hl hc
  have ew : wrun false 0 [] t = idx 0 T := by rw [← ht, wrun_gd T false 0 [] hT, List.nil_append]
  rw [ew] at wd
  have e : b_PatternReader___init__ [some (rf l), some (.str (S t)), some x, some y] w = .nx [some (rf l), some (.str (S t)), some x, some y] (w.set l (rdO T t.length x y 0)) := by
    have z : szOk t.length = true := szOk_of (by omega)
    unfold b_PatternReader___init__
    let F1 : List (Str × PyData) := [("words", .list ((idx 0 T).map prD))]
    let F2 : List (Str × PyData) := F1 ++ [(("length" : Str), PyData.int (t.length : Int))]
    let F3 : List (Str × PyData) := F2 ++ [(("line_held" : Str), x)]
    let F4 : List (Str × PyData) := F3 ++ [(("first_field" : Str), y)]
    rw [seq_nx (ins_set (F := []) (v := .list ((idx 0 T).map prD)) (w1 := w) (by simp) rfl (by simp only [eCall, aC, aN, eV, Oc.bind, List.getElem?_cons_zero, List.getElem?_cons_succ, List.append_nil, wd]) hw)]
    rw [seq_nx (ins_set (F := F1) (v := .int (t.length : Int)) (w1 := w.set l (.ins "PatternReader" F1)) (by show 1 < 1000; omega) rfl (by simp only [eCb, aC, aN, eV, Oc.bind, List.getElem?_cons_zero, List.getElem?_cons_succ, lenD, S_len, z, if_true, Oc.of]; rfl) (set_get hw _)), List.set_set]
    rw [seq_nx (ins_set (F := F2) (v := x) (w1 := w.set l (.ins "PatternReader" F2)) (by show 2 < 1000; omega) rfl (by simp only [eV, List.getElem?_cons_zero, List.getElem?_cons_succ]; rfl) (set_get hw _)), List.set_set]
    rw [seq_nx (ins_set (F := F3) (v := y) (w1 := w.set l (.ins "PatternReader" F3)) (by show 3 < 1000; omega) rfl (by simp only [eV, List.getElem?_cons_zero, List.getElem?_cons_succ]; rfl) (set_get hw _)), List.set_set]
    rw [ins_set (F := F4) (v := .int 0) (w1 := w.set l (.ins "PatternReader" F4)) (by show 4 < 1000; omega) rfl (by simp only [eC]; rfl) (set_get hw _), List.set_set]
    rfl
  show leave w.length (b_PatternReader___init__ [some (rf l), some (.str (S t)), some x, some y] w) = _
  rw [e]
  exact leave_end (by rw [List.length_set])
theorem mk_ok {t : List Nat} {x y : PyData} {ρ : Ev} (hc : Cl w) (hT : gd false T = true) (ht : T.flatten = t) (hl : t.length ≤ 100000) (h0 : ρ[0]? = some (some (.str (S t)))) (h1 : ρ[1]? = some (some x)) (h2 : ρ[2]? = some (some y)) :
    (eMk "PatternReader" F_PatternReader___init__ (aC (eV 0) (aC (eV 1) (aC (eV 2) aN)))) ρ w = .ok (rf w.length) (w ++ [rdO T t.length x y 0]) := by
  have i := init_ok (w := w ++ [.ins "PatternReader" []]) (l := w.length) (t := t) (x := x) (y := y) (by simp) (hc.snoc rfl) hT ht hl
  have e : (w ++ [Ob.ins "PatternReader" []]).set w.length (rdO T t.length x y 0) = w ++ [rdO T t.length x y 0] := by simp
  rw [e] at i
  simp only [eMk, aC, aN, eV, h0, h1, h2, Oc.bind, i]
theorem snoc_set {x y : Ob} : (w ++ [x]).set w.length y = w ++ [y] := by simp
theorem snoc_get {x : Ob} : (w ++ [x])[w.length]? = some x := by simp
theorem read_ok {p : Pat} {i j : Int} (hc : Cl w) (ho : ok p = true) (hh : hgt p ≤ 30) (hl : (txt p).length ≤ 100000) : F_pattern_read [.str (S (txt p)), .int i, .int j] w = .ok (toD p) w := by
  have tl := tok_len ho
  have gdT : gd false (tok p) = true := by have := gd_tok p ho [] rfl; rwa [List.append_nil] at this
  have mk := mk_ok (x := .int i) (y := .int j) (ρ := [some (.str (S (txt p))), some (.int i), some (.int j), none, none]) hc gdT rfl hl rfl rfl rfl
  have wh := whole_ok (w := w ++ [rdO (tok p) (tok p).flatten.length (.int i) (.int j) 0]) (l := w.length) (p := p) (rest := []) snoc_get (by simp) (by simp) ho hh (by omega) (by rw [snoc_set]; exact rd_cl hc)
  rw [snoc_set, Nat.zero_add] at wh
  have fi := finish_ok (w := w ++ [rdO (tok p) (tok p).flatten.length (.int i) (.int j) (tok p).length]) (l := w.length) snoc_get rfl
  have okw := ok_whole (w := w ++ [rdO (tok p) (tok p).flatten.length (.int i) (.int j) 0]) (l := w.length) snoc_get
  have okf := ok_finish (w := w ++ [rdO (tok p) (tok p).flatten.length (.int i) (.int j) (tok p).length]) (l := w.length) snoc_get
  have e : b_pattern_read [some (.str (S (txt p))), some (.int i), some (.int j), none, none] w = .rt (toD p) (w ++ [rdO (tok p) (tok p).flatten.length (.int i) (.int j) (tok p).length]) := by
    unfold b_pattern_read
    rw [seq_nx (ρ1 := [some (.str (S (txt p))), some (.int i), some (.int j), some (rf w.length), none]) (by simp only [sAsg, mk, Oc.thenS, gN, List.set_cons_zero, List.set_cons_succ]; rfl)]
    rw [seq_nx (ρ1 := [some (.str (S (txt p))), some (.int i), some (.int j), some (rf w.length), some (toD p)]) (by simp only [sAsg, eMt, eV, Oc.bind, List.getElem?_cons_zero, List.getElem?_cons_succ, okw, Oc.on, cond_true, aN, wh, Oc.thenS, gN, List.set_cons_zero, List.set_cons_succ]; rfl)]
    rw [seq_nx (ρ1 := [some (.str (S (txt p))), some (.int i), some (.int j), some (rf w.length), some (toD p)]) (by simp only [sExp, eMt, eV, Oc.bind, List.getElem?_cons_zero, List.getElem?_cons_succ, okf, Oc.on, cond_true, aN, fi, Oc.thenS]; rfl)]
    rfl
  show leave w.length (b_pattern_read [some (.str (S (txt p))), some (.int i), some (.int j), none, none] w) = _
  rw [e]
  exact leave_trim hc (bnd_toD _ p)
end Tk

set_option Elab.async false
set_option linter.all false
set_option maxRecDepth 100000
set_option maxHeartbeats 4000000
namespace Tk
open PySem L2 Td
variable {w : Ws}
theorem mt_eq {c m : Str} {gf : FF} {fo : FE} {fa : FA} {ρ : Ev} {o : PyData} {as : List PyData} (h1 : fo ρ w = .ok o w) (h2 : okM w o c m = true) (h3 : fa ρ w = .ok as w) : eMt c m gf fo fa ρ w = gf (o :: as) w := by
  simp only [eMt, h1, Oc.bind, h2, Oc.on, cond_true, h3]
def rTok (b : List Nat) (p r : Pat) : List (List Nat) := b :: [32] :: (tok p ++ ([32] :: [45] :: [62] :: [32] :: tok r))
def rTxt (b : List Nat) (p r : Pat) : List Nat := b ++ (32 :: (txt p ++ (32 :: 45 :: 62 :: 32 :: txt r)))
theorem rTok_flat (b : List Nat) (p r : Pat) : (rTok b p r).flatten = rTxt b p r := by simp [rTok, rTxt, txt]
theorem rTok_gd {b : List Nat} {p r : Pat} (hb : nmL b = true) (hp : ok p = true) (hr : ok r = true) : gd false (rTok b p r) = true := by
  have g := gd_tok r hr [] rfl
  rw [List.append_nil] at g
  exact gd_nm rfl hb (gd_sg (by decide) (gd_tok p hp _ (gd_sg (by decide) (gd_sg (by decide) (gd_sg (by decide) (gd_sg (by decide) g))))))
theorem arrow_ch : chD (" -> " : Str) = [.str (S [32]), .str (S [45]), .str (S [62]), .str (S [32])] := by rw [lit_ar, chD_S]; rfl
theorem for_one {gt : FG} {body : FS} {d : PyData} {ds : List PyData} {ρ ρ1 ρ2 : Ev} {w w1 w2 : Ws} (h1 : gt d ρ w = .ok ρ1 w1) (h2 : body ρ1 w1 = .nx ρ2 w2) : forL gt body (d :: ds) ρ w = forL gt body ds ρ2 w2 := by
  simp only [forL, h1, h2]
theorem rule_ok {b : List Nat} {p r : Pat} {i j : Int} (hc : Cl w) (hb : nmL b = true) (hp : ok p = true) (hr : ok r = true) (h1 : hgt p ≤ 30) (h2 : hgt r ≤ 30) (hl : (rTxt b p r).length ≤ 100000) :
    F_rule_read [.str (S (rTxt b p r)), .int i, .int j] w = .ok (.tuple [.str (S b), toD p, toD r]) w := by
  have gdT := rTok_gd hb hp hr
  have tp := tok_len hp
  have tr := tok_len hr
  have bl : (rTxt b p r).length = b.length + (txt p).length + (txt r).length + 5 := by simp [rTxt]; omega
  have nb := nm_len hb
  obtain ⟨T, hT⟩ : ∃ T, T = rTok b p r := ⟨_, rfl⟩
  obtain ⟨t, ht⟩ : ∃ t, t = rTxt b p r := ⟨_, rfl⟩
  obtain ⟨n, hn⟩ : ∃ n, n = t.length := ⟨_, rfl⟩
  rw [← ht] at bl hl ⊢
  have fl : T.flatten = t := by rw [hT, ht]; exact rTok_flat b p r
  rw [← hT] at gdT
  have d0 : T.drop 0 = b :: [32] :: (tok p ++ ([32] :: [45] :: [62] :: [32] :: tok r)) := by rw [hT]; rfl
  obtain ⟨g0, d1⟩ := drop_hd d0
  obtain ⟨g1, d2⟩ := drop_hd d1
  have d3 := drop_app d2
  obtain ⟨g3, d4⟩ := drop_hd d3
  obtain ⟨g4, d5⟩ := drop_hd d4
  obtain ⟨g5, d6⟩ := drop_hd d5
  obtain ⟨g6, d7⟩ := drop_hd d6
  have TL : T.length = 2 + (tok p).length + 4 + (tok r).length := by rw [hT]; simp [rTok]; omega
  have cl : ∀ k, Cl (w ++ [rdO T n (.int i) (.int j) k]) := fun k => rd_cl hc
  have gt : ∀ k, (w ++ [rdO T n (.int i) (.int j) k])[w.length]? = some (rdO T n (.int i) (.int j) k) := fun k => snoc_get
  have st : ∀ k k', (w ++ [rdO T n (.int i) (.int j) k]).set w.length (rdO T n (.int i) (.int j) k') = w ++ [rdO T n (.int i) (.int j) k'] := fun _ _ => snoc_set
  have mk := fun ρ => mk_ok (x := .int i) (y := .int j) (ρ := ρ) hc gdT fl hl
  rw [← hn] at mk
  have e1 := name_at (gt 0) g0 hb
  have e2 := take_ok (gt 1) g1
  have e3 := whole_ok (gt 2) d2 (by simp) hp h1 (by omega) (by rw [st]; exact cl _)
  have e4 := take_ok (gt (2 + (tok p).length)) g3
  have e5 := take_ok (gt (2 + (tok p).length + 1)) g4
  have e6 := take_ok (gt (2 + (tok p).length + 1 + 1)) g5
  have e7 := take_ok (gt (2 + (tok p).length + 1 + 1 + 1)) g6
  have e8 := whole_ok (rest := []) (gt (2 + (tok p).length + 1 + 1 + 1 + 1)) (by rw [d7, List.append_nil]) (by simp) hr h2 (by omega) (by rw [st]; exact cl _)
  have e9 := finish_ok (gt (2 + (tok p).length + 1 + 1 + 1 + 1 + (tok r).length)) (by omega)
  simp only [st] at e1 e2 e3 e4 e5 e6 e7 e8
  have e : b_rule_read [some (.str (S t)), some (.int i), some (.int j), none, none, none, none, none] w = .rt (.tuple [.str (S b), toD p, toD r]) (w ++ [rdO T n (.int i) (.int j) (2 + (tok p).length + 1 + 1 + 1 + 1 + (tok r).length)]) := by
    unfold b_rule_read
    rw [seq_nx (ρ1 := [some (.str (S t)), some (.int i), some (.int j), some (rf w.length), none, none, none, none]) (w1 := w ++ [rdO T n (.int i) (.int j) 0]) (by rw [sAsg, mk _ rfl rfl rfl]; rfl)]
    rw [seq_nx (ρ1 := [some (.str (S t)), some (.int i), some (.int j), some (rf w.length), some (.str (S b)), none, none, none]) (w1 := w ++ [rdO T n (.int i) (.int j) 1]) (by rw [sAsg, mt_eq rfl (ok_name (gt 0)) rfl, e1]; rfl)]
    rw [seq_nx (ρ1 := [some (.str (S t)), some (.int i), some (.int j), some (rf w.length), some (.str (S b)), none, none, none]) (w1 := w ++ [rdO T n (.int i) (.int j) 2]) (by rw [sExp, mt_eq (as := [.str (S [32])]) rfl (ok_take (gt 1)) (by rw [lit_s]; rfl), e2]; rfl)]
    rw [seq_nx (ρ1 := [some (.str (S t)), some (.int i), some (.int j), some (rf w.length), some (.str (S b)), some (toD p), none, none]) (w1 := w ++ [rdO T n (.int i) (.int j) (2 + (tok p).length)]) (by rw [sAsg, mt_eq rfl (ok_whole (gt 2)) rfl, e3]; rfl)]
    rw [seq_nx (ρ1 := [some (.str (S t)), some (.int i), some (.int j), some (rf w.length), some (.str (S b)), some (toD p), some (.str (S [32])), none]) (w1 := w ++ [rdO T n (.int i) (.int j) (2 + (tok p).length + 1 + 1 + 1 + 1)]) (by
      simp only [sFor, iE, eC, Oc.bind, itD, Oc.of, Oc.thenS, arrow_ch]
      rw [for_one (ρ1 := [some (.str (S t)), some (.int i), some (.int j), some (rf w.length), some (.str (S b)), some (toD p), some (.str (S [32])), none]) rfl (by rw [sExp, mt_eq (as := [.str (S [32])]) rfl (ok_take (gt _)) rfl, e4]; rfl)]
      rw [for_one (ρ1 := [some (.str (S t)), some (.int i), some (.int j), some (rf w.length), some (.str (S b)), some (toD p), some (.str (S [45])), none]) rfl (by rw [sExp, mt_eq (as := [.str (S [45])]) rfl (ok_take (gt _)) rfl, e5]; rfl)]
      rw [for_one (ρ1 := [some (.str (S t)), some (.int i), some (.int j), some (rf w.length), some (.str (S b)), some (toD p), some (.str (S [62])), none]) rfl (by rw [sExp, mt_eq (as := [.str (S [62])]) rfl (ok_take (gt _)) rfl, e6]; rfl)]
      rw [for_one (ρ1 := [some (.str (S t)), some (.int i), some (.int j), some (rf w.length), some (.str (S b)), some (toD p), some (.str (S [32])), none]) rfl (by rw [sExp, mt_eq (as := [.str (S [32])]) rfl (ok_take (gt _)) rfl, e7]; rfl)]
      rfl)]
    rw [seq_nx (ρ1 := [some (.str (S t)), some (.int i), some (.int j), some (rf w.length), some (.str (S b)), some (toD p), some (.str (S [32])), some (toD r)]) (w1 := w ++ [rdO T n (.int i) (.int j) (2 + (tok p).length + 1 + 1 + 1 + 1 + (tok r).length)]) (by rw [sAsg, mt_eq rfl (ok_whole (gt _)) rfl, e8]; rfl)]
    rw [seq_nx (ρ1 := [some (.str (S t)), some (.int i), some (.int j), some (rf w.length), some (.str (S b)), some (toD p), some (.str (S [32])), some (toD r)]) (w1 := w ++ [rdO T n (.int i) (.int j) (2 + (tok p).length + 1 + 1 + 1 + 1 + (tok r).length)]) (by rw [sExp, mt_eq rfl (ok_finish (gt _)) rfl, e9]; rfl)]
    have z3 : szOk 3 = true := szOk_of (by omega)
    simp only [sRet, eTup, aC, aN, eV, Oc.bind, List.getElem?_cons_zero, List.getElem?_cons_succ, Oc.on, List.length_cons, List.length_nil, Nat.zero_add, Nat.reduceAdd, z3, cond_true, Oc.thenS]
  show leave w.length (b_rule_read [some (.str (S t)), some (.int i), some (.int j), none, none, none, none, none] w) = _
  rw [e]
  exact leave_trim hc (by simp [bnd, bndA, bnd_toD])
end Tk

set_option Elab.async false
set_option linter.all false
set_option maxRecDepth 100000
set_option maxHeartbeats 4000000
namespace Tk
open PySem L2 Td
/-! ### draws -/
def fdL (cells : List Int) (spot rest calls : Int) : List PyData := [.list (cells.map .int), .int spot, .int rest, .int calls]
structure FdOk (ob : Ob) (n : Nat) : Prop where
  ex : ∃ cells spot rest calls, ob = .lst (fdL cells spot rest calls) ∧ cells.length ≤ 63 ∧ 0 ≤ spot ∧ 0 ≤ rest ∧ 0 ≤ calls ∧ calls ≤ n
theorem FdOk.mono {ob : Ob} {m n : Nat} (h : FdOk ob m) (hn : m ≤ n) : FdOk ob n := by
  obtain ⟨cells, spot, rest, calls, h1, h2, h3, h4, h5, h6⟩ := h.ex
  exact ⟨⟨cells, spot, rest, calls, h1, h2, h3, h4, h5, by omega⟩⟩
theorem fmod_rng {a m : Int} (h : 0 < m) : 0 ≤ a.fmod m ∧ a.fmod m < m := ⟨Int.fmod_nonneg_of_pos a h, Int.fmod_lt_of_pos a h⟩
theorem fdiv_nn {a m : Int} (ha : 0 ≤ a) (h : 0 < m) : 0 ≤ a.fdiv m := Int.fdiv_nonneg ha (Int.le_of_lt h)
section
variable {w : Ws} {l : Nat} {cells : List Int} {spot rest calls : Int} {ρ : Ev}
theorem fd0 (hw : w[l]? = some (.lst (fdL cells spot rest calls))) (h0 : ρ[0]? = some (some (rf l))) : eB ixD (eV 0) (eC (.int 0)) ρ w = .ok (.list (cells.map .int)) w := by
  simp only [eB, eV, eC, h0, Oc.bind, ixD_rf hw]; rfl
theorem fd1 (hw : w[l]? = some (.lst (fdL cells spot rest calls))) (h0 : ρ[0]? = some (some (rf l))) : eB ixD (eV 0) (eC (.int 1)) ρ w = .ok (.int spot) w := by
  simp only [eB, eV, eC, h0, Oc.bind, ixD_rf hw]; rfl
theorem fd2 (hw : w[l]? = some (.lst (fdL cells spot rest calls))) (h0 : ρ[0]? = some (some (rf l))) : eB ixD (eV 0) (eC (.int 2)) ρ w = .ok (.int rest) w := by
  simp only [eB, eV, eC, h0, Oc.bind, ixD_rf hw]; rfl
theorem fd3 (hw : w[l]? = some (.lst (fdL cells spot rest calls))) (h0 : ρ[0]? = some (some (rf l))) : eB ixD (eV 0) (eC (.int 3)) ρ w = .ok (.int calls) w := by
  simp only [eB, eV, eC, h0, Oc.bind, ixD_rf hw]; rfl
theorem fs_set {d : PyData} {i : Int} {k : Nat} {ds : List PyData} {fe : FE} {w1 : Ws} (hv : fe ρ w = .ok d w1) (h0 : ρ[0]? = some (some (rf l))) (hw : w1[l]? = some (.lst ds)) (hk : ixN ds.length i = some k) : sAsg fe (gIx (eV 0) (eC (.int i))) ρ w = .nx ρ (w1.set l (.lst (ds.set k d))) := by
  have u := upd_at (k := fun xs => (ixN xs.length i).map fun j => (PyData.none, xs.set j d)) (d := .none) (ys := ds.set k d) hw (by simp only [hk, Option.map_some])
  simp only [sAsg, hv, Oc.thenS, gIx, eV, eC, h0, Oc.bind, u]
end
theorem draw_ok {w : Ws} {l : Nat} {ob : Ob} {n : Nat} {m : Int} (hw : w[l]? = some ob) (hr : FdOk ob n) (hn : n < 1000000) (hm : 1 ≤ m) (hm2 : m < 1000000) :
    ∃ v ob', F__law_draw [rf l, .int m] w = .ok (.int v) (w.set l ob') ∧ 0 ≤ v ∧ v < m ∧ FdOk ob' (n + 1) := by
  obtain ⟨cells, spot, rest, calls, rfl, hc, hs, hre, hca, hcn⟩ := hr.ex
  have nz : ∀ x, cNz x m = true := fun x => decide_eq_true (by omega)
  have dv : ∀ x, cDv x m = true := fun x => by
    unfold cDv
    rw [decide_eq_true (show m ≠ 0 by omega), decide_eq_true (show m.natAbs < 1073741824 by omega)]; rfl
  have s1 := set_get hw (.lst (fdL cells spot rest (calls + 1)))
  have st1 : ∀ (ρ : Ev), ρ[0]? = some (some (rf l)) → sAsg (eB addD (eB ixD (eV 0) (eC (.int 3))) (eC (.int 1))) (gIx (eV 0) (eC (.int 3))) ρ w = .nx ρ (w.set l (.lst (fdL cells spot rest (calls + 1)))) := fun ρ h0 => by
    have g := fd3 hw h0
    exact fs_set (i := 3) (k := 3) (w1 := w) (d := .int (calls + 1)) (by rw [eB, g]; simp [Oc.bind, eC, addD, Oc.of]) h0 hw (by rfl)
  show ∃ v ob', leave w.length (b__law_draw [some (rf l), some (.int m), none, none, none, none] w) = _ ∧ _
  unfold b__law_draw
  rw [seq_nx (st1 _ rfl)]
  by_cases hrest : 0 < rest
  · refine ⟨rest.fmod m, .lst (fdL cells spot (rest.fdiv m) (calls + 1)), ?_, (fmod_rng (by omega)).1, (fmod_rng (by omega)).2, ⟨⟨cells, spot, _, _, rfl, hc, hs, fdiv_nn hre (by omega), by omega, by omega⟩⟩⟩
    rw [seq_rt (d := .int (rest.fmod m)) (w1 := w.set l (.lst (fdL cells spot (rest.fdiv m) (calls + 1)))) ?_]
    · exact leave_ret (by rw [List.length_set])
    · have g2 : ∀ ρ : Ev, ρ[0]? = some (some (rf l)) → eB ixD (eV 0) (eC (.int 2)) ρ (w.set l (.lst (fdL cells spot rest (calls + 1)))) = .ok (.int rest) (w.set l (.lst (fdL cells spot rest (calls + 1)))) := fun ρ h0 => fd2 s1 h0
      have t : (tB' (eB gtD (eB ixD (eV 0) (eC (.int 2))) (eC (.int 0)))) [some (rf l), some (.int m), none, none, none, none] (w.set l (.lst (fdL cells spot rest (calls + 1)))) = .ok true (w.set l (.lst (fdL cells spot rest (calls + 1)))) := by
        rw [tB', eB, g2 _ rfl]; simp [Oc.bind, eC, Oc.of, gtD, cmpD, hrest]
      rw [sIf, t]
      show sSeq _ _ _ _ = _
      rw [seq_nx (ρ1 := [some (rf l), some (.int m), none, none, none, some (.int (rest.fmod m))]) (w1 := w.set l (.lst (fdL cells spot rest (calls + 1)))) (by
        rw [sAsg, eB, eCb, aC, g2 _ rfl]; simp [Oc.bind, aN, Oc.of, toInt, eV, modD, intD, nz, Oc.thenS, gN])]
      rw [seq_nx (ρ1 := [some (rf l), some (.int m), none, none, none, some (.int (rest.fmod m))]) (w1 := w.set l (.lst (fdL cells spot (rest.fdiv m) (calls + 1)))) (by
        have := fs_set (ρ := [some (rf l), some (.int m), none, none, none, some (.int (rest.fmod m))]) (i := 2) (k := 2) (d := .int (rest.fdiv m)) (fe := eB fdvD (eB ixD (eV 0) (eC (.int 2))) (eV 1)) (by rw [eB, g2 _ rfl]; simp [Oc.bind, eV, Oc.of, fdvD, intD, dv]) rfl s1 (by rfl)
        rw [List.set_set] at this
        exact this)]
      rfl
  · have t : (tB' (eB gtD (eB ixD (eV 0) (eC (.int 2))) (eC (.int 0)))) [some (rf l), some (.int m), none, none, none, none] (w.set l (.lst (fdL cells spot rest (calls + 1)))) = .ok false (w.set l (.lst (fdL cells spot rest (calls + 1)))) := by
      rw [tB', eB, fd2 s1 rfl]; simp [Oc.bind, eC, Oc.of, gtD, cmpD, hrest]
    rw [seq_nx (ρ1 := [some (rf l), some (.int m), none, none, none, none]) (w1 := w.set l (.lst (fdL cells spot rest (calls + 1)))) (by rw [sIf, t]; rfl)]
    obtain ⟨cell, hcell⟩ : ∃ cell : Int, (eIf (tB' (eB neL (eB ixD (eV 0) (eC (.int 0))) (eLst aN))) (eB ixD (eB ixD (eV 0) (eC (.int 0))) (eB modD (eCb toInt (aC (eB ixD (eV 0) (eC (.int 1))) aN)) (eCb lenD (aC (eB ixD (eV 0) (eC (.int 0))) aN)))) (eC (.int 47)))
        [some (rf l), some (.int m), none, none, none, none] (w.set l (.lst (fdL cells spot rest (calls + 1)))) = .ok (.int cell) (w.set l (.lst (fdL cells spot rest (calls + 1)))) := by
      have f0 := fd0 (ρ := [some (rf l), some (.int m), none, none, none, none]) s1 rfl
      have f1 := fd1 (ρ := [some (rf l), some (.int m), none, none, none, none]) s1 rfl
      have tt : (tB' (eB neL (eB ixD (eV 0) (eC (.int 0))) (eLst aN))) [some (rf l), some (.int m), none, none, none, none] (w.set l (.lst (fdL cells spot rest (calls + 1)))) = .ok (!(cells.map PyData.int).isEmpty) (w.set l (.lst (fdL cells spot rest (calls + 1)))) := by
        rw [tB', eB, f0]; simp only [Oc.bind, eLst, aN, Oc.on, List.length_nil, sz0, cond_true, neL, lstOf_list, Oc.of]
      cases hcs : cells with
      | nil =>
        subst hcs
        exact ⟨47, by rw [eIf, tt]; rfl⟩
      | cons c0 cr =>
        rw [hcs] at f0 f1 tt
        have hlen : 0 < ((c0 :: cr).length : Int) := by simp
        obtain ⟨r1, r2⟩ := fmod_rng (a := spot) hlen
        obtain ⟨k, hk⟩ : ∃ k : Nat, (k : Int) = spot.fmod ((c0 :: cr).length : Int) := ⟨(spot.fmod ((c0 :: cr).length : Int)).toNat, by omega⟩
        have hk2 : k < (c0 :: cr).length := by omega
        refine ⟨(c0 :: cr)[k], ?_⟩
        have ha : atI ((c0 :: cr).map PyData.int) (spot.fmod ((c0 :: cr).length : Int)) = some (.int ((c0 :: cr)[k])) := by
          rw [← hk]
          exact atI_nat (by rw [List.getElem?_map, List.getElem?_eq_getElem hk2]; rfl)
        have nzl : ∀ x, cNz x ((c0 :: cr).length : Int) = true := fun x => decide_eq_true (by omega)
        rw [eIf, tt]
        simp only [List.map_cons, List.isEmpty_cons, Bool.not_false, Oc.bind, cond_true]
        simp only [List.map_cons] at f0 ha
        rw [eB, f0]
        simp only [Oc.bind]
        rw [eB, eCb, aC, f1]
        simp only [Oc.bind, aN, Oc.of, toInt]
        rw [eCb, aC, f0]
        simp only [Oc.bind, aN, Oc.of, lenD, lstOf_list, Option.map_some, List.length_cons, List.length_map, modD, intD]
        simp only [List.length_cons] at ha nzl
        rw [if_pos (nzl _)]
        simp only [ixD_list, ha]
    rw [seq_nx (ρ1 := [some (rf l), some (.int m), some (.int cell), none, none, none]) (w1 := w.set l (.lst (fdL cells spot rest (calls + 1)))) (by rw [sAsg, hcell]; rfl)]
    have s2 := set_get hw (.lst (fdL cells (spot + 1) rest (calls + 1)))
    rw [seq_nx (ρ1 := [some (rf l), some (.int m), some (.int cell), none, none, none]) (w1 := w.set l (.lst (fdL cells (spot + 1) rest (calls + 1)))) (by
      have := fs_set (ρ := [some (rf l), some (.int m), some (.int cell), none, none, none]) (i := 1) (k := 1) (d := .int (spot + 1)) (fe := eB addD (eB ixD (eV 0) (eC (.int 1))) (eC (.int 1))) (by rw [eB, fd1 s1 rfl]; simp [Oc.bind, eC, Oc.of, addD]) rfl s1 (by rfl)
      rw [List.set_set] at this
      exact this)]
    have pw : cPw 10 18 = true := by decide +kernel
    have p18 : (10 : Int) ^ (18 : Int).toNat = 1000000000000000000 := by decide +kernel
    have tst : (tAn (tB' (eB geD (eV 2) (eB powD (eC (.int 10)) (eC (.int 18))))) (tB' (eB leD (eB ixD (eV 0) (eC (.int 1))) (eCb lenD (aC (eB ixD (eV 0) (eC (.int 0))) aN))))) [some (rf l), some (.int m), some (.int cell), none, none, none] (w.set l (.lst (fdL cells (spot + 1) rest (calls + 1))))
        = .ok (decide (1000000000000000000 ≤ cell) && decide (spot + 1 ≤ (cells.length : Int))) (w.set l (.lst (fdL cells (spot + 1) rest (calls + 1)))) := by
      have a1 : (tB' (eB geD (eV 2) (eB powD (eC (.int 10)) (eC (.int 18))))) [some (rf l), some (.int m), some (.int cell), none, none, none] (w.set l (.lst (fdL cells (spot + 1) rest (calls + 1)))) = .ok (decide (1000000000000000000 ≤ cell)) (w.set l (.lst (fdL cells (spot + 1) rest (calls + 1)))) := by
        simp only [tB', eB, eV, eC, Oc.bind, Oc.of, List.getElem?_cons_zero, List.getElem?_cons_succ, powD, intD, pw, if_true, p18, geD, cmpD]
      have a2 : (tB' (eB leD (eB ixD (eV 0) (eC (.int 1))) (eCb lenD (aC (eB ixD (eV 0) (eC (.int 0))) aN)))) [some (rf l), some (.int m), some (.int cell), none, none, none] (w.set l (.lst (fdL cells (spot + 1) rest (calls + 1)))) = .ok (decide (spot + 1 ≤ (cells.length : Int))) (w.set l (.lst (fdL cells (spot + 1) rest (calls + 1)))) := by
        rw [tB', eB, fd1 s2 rfl]
        simp only [Oc.bind]
        rw [eCb, aC, fd0 s2 rfl]
        simp only [Oc.bind, aN, Oc.of, lenD, lstOf_list, Option.map_some, List.length_map, leD, cmpD]
      rw [tAn, a1]
      simp only [Oc.bind, a2]
      cases decide (1000000000000000000 ≤ cell) <;> rfl
    cases hb : decide (1000000000000000000 ≤ cell) && decide (spot + 1 ≤ (cells.length : Int)) with
    | true =>
      rw [hb] at tst
      rw [Bool.and_eq_true] at hb
      have hbig := of_decide_eq_true hb.1
      refine ⟨cell.fmod m, .lst (fdL cells (spot + 1) (cell.fdiv m) (calls + 1)), ?_, (fmod_rng (by omega)).1, (fmod_rng (by omega)).2, ⟨⟨cells, _, _, _, rfl, hc, by omega, fdiv_nn (by omega) (by omega), by omega, by omega⟩⟩⟩
      rw [seq_rt (d := .int (cell.fmod m)) (w1 := w.set l (.lst (fdL cells (spot + 1) (cell.fdiv m) (calls + 1)))) ?_]
      · exact leave_ret (by rw [List.length_set])
      · rw [sIf, tst]
        show sSeq _ _ _ _ = _
        rw [seq_nx (ρ1 := [some (rf l), some (.int m), some (.int cell), none, none, none]) (w1 := w.set l (.lst (fdL cells (spot + 1) (cell.fdiv m) (calls + 1)))) (by
          have := fs_set (ρ := [some (rf l), some (.int m), some (.int cell), none, none, none]) (i := 2) (k := 2) (d := .int (cell.fdiv m)) (fe := eB fdvD (eV 2) (eV 1)) (by simp [eB, Oc.bind, eV, Oc.of, fdvD, intD, dv]; rfl) rfl s2 (by rfl)
          rw [List.set_set] at this
          exact this)]
        simp [sRet, eB, eCb, aC, aN, eV, Oc.bind, Oc.of, toInt, modD, intD, nz, Oc.thenS]
    | false =>
      rw [hb] at tst
      rw [seq_nx (ρ1 := [some (rf l), some (.int m), some (.int cell), none, none, none]) (w1 := w.set l (.lst (fdL cells (spot + 1) rest (calls + 1)))) (by rw [sIf, tst]; rfl)]
      obtain ⟨W, hW⟩ : ∃ W, W = w.set l (.lst (fdL cells (spot + 1) rest (calls + 1))) := ⟨_, rfl⟩
      obtain ⟨tn, htn⟩ : ∃ tn : Int, tn = calls + 1 := ⟨_, rfl⟩
      have f3 := fd3 (ρ := [some (rf l), some (.int m), some (.int cell), none, none, none]) s2 rfl
      rw [← htn] at f3
      rw [seq_nx (ρ1 := [some (rf l), some (.int m), some (.int cell), some (.int tn), none, none]) (w1 := w.set l (.lst (fdL cells (spot + 1) rest (calls + 1)))) (by rw [sAsg, ← htn, f3]; rfl)]
      rw [← hW]
      have t0 : 0 ≤ tn := by omega
      have t1 : tn ≤ 1000000 := by omega
      have q1 : 0 ≤ tn * (tn + 8) := Int.mul_nonneg t0 (by omega)
      have q2 : tn * (tn + 8) ≤ 1000000 * 1000008 := Int.mul_le_mul t1 (by omega) (by omega) (by omega)
      obtain ⟨c1, c2⟩ := fmod_rng (a := cell) (m := 1000003171) (by decide)
      have m1 : cNz cell 1000003171 = true := by unfold cNz; decide
      have m2 : ∀ x, cMl 163 x = true := fun x => by unfold cMl; rw [decide_eq_true (show (163 : Int).natAbs < 2 ^ 64 by decide)]; rfl
      have m3 : cMl (163 * tn) (tn + 8) = true := by unfold cMl; rw [decide_eq_true (show (163 * tn).natAbs < 2 ^ 64 by omega)]; rfl
      have e0 : 163 * tn * (tn + 8) = 163 * (tn * (tn + 8)) := Int.mul_assoc _ _ _
      have m4 : cPw (cell.fmod 1000003171 + 163 * tn * (tn + 8) + 37) 5 = true := by
        unfold cPw
        rw [decide_eq_true (show (cell.fmod 1000003171 + 163 * tn * (tn + 8) + 37).natAbs < 2 ^ 64 by rw [e0]; omega)]
        decide
      obtain ⟨x1, hx1⟩ : ∃ x1, x1 = (cell.fmod 1000003171 + 163 * tn * (tn + 8) + 37) ^ (5 : Int).toNat := ⟨_, rfl⟩
      rw [seq_nx (ρ1 := [some (rf l), some (.int m), some (.int cell), some (.int tn), some (.int x1), none]) (w1 := W) (by
        simp only [sAsg, gN, eB, eV, eC, eCb, aC, aN, toInt, Oc.bind, Oc.thenS, Oc.of, modD, intD, m1, m2, m3, m4, mulD, addD, powD, List.getElem?_cons_zero, List.getElem?_cons_succ, if_true, ← hx1, List.set_cons_zero, List.set_cons_succ])]
      obtain ⟨c3, c4⟩ := fmod_rng (a := x1) (m := 2147483249) (by decide)
      obtain ⟨y1, hy1⟩ : ∃ y1, y1 = x1.fmod 2147483249 := ⟨_, rfl⟩
      rw [← hy1] at c3 c4
      have m5 : cNz x1 2147483249 = true := by unfold cNz; decide
      have m6 : ∀ x, cMl 2 x = true := fun x => by unfold cMl; rw [decide_eq_true (show (2 : Int).natAbs < 2 ^ 64 by decide)]; rfl
      have m7 : cMl y1 (2 * tn + 13) = true := by unfold cMl; rw [decide_eq_true (show y1.natAbs < 2 ^ 64 by omega)]; rfl
      have m8 : ∀ x, cMl 50153 x = true := fun x => by unfold cMl; rw [decide_eq_true (show (50153 : Int).natAbs < 2 ^ 64 by decide)]; rfl
      have q3 : 0 ≤ y1 * (2 * tn + 13) := Int.mul_nonneg c3 (by omega)
      have q4 : y1 * (2 * tn + 13) ≤ 2147483249 * 2000013 := Int.mul_le_mul (by omega) (by omega) (by omega) (by omega)
      have m9 : cPw (y1 * (2 * tn + 13) + 50153 * tn) 3 = true := by
        unfold cPw
        rw [decide_eq_true (show (y1 * (2 * tn + 13) + 50153 * tn).natAbs < 2 ^ 64 by omega)]
        decide
      obtain ⟨x2, hx2⟩ : ∃ x2, x2 = (y1 * (2 * tn + 13) + 50153 * tn) ^ (3 : Int).toNat := ⟨_, rfl⟩
      rw [seq_nx (ρ1 := [some (rf l), some (.int m), some (.int cell), some (.int tn), some (.int x2), none]) (w1 := W) (by
        simp only [sAsg, gN, eB, eV, eC, eCb, aC, aN, toInt, Oc.bind, Oc.thenS, Oc.of, modD, intD, m5, ← hy1, m6, m7, m8, m9, mulD, addD, powD, List.getElem?_cons_zero, List.getElem?_cons_succ, if_true, ← hx2, List.set_cons_zero, List.set_cons_succ])]
      have n1 : cNz x2 2147483171 = true := by unfold cNz; decide
      have n2 : ∀ x, cDv x 64 = true := fun x => by unfold cDv; decide
      refine ⟨((x2.fmod 2147483171).fdiv 64).fmod m, .lst (fdL cells (spot + 1) rest (calls + 1)), ?_, (fmod_rng (by omega)).1, (fmod_rng (by omega)).2, ⟨⟨cells, _, _, _, rfl, hc, by omega, hre, by omega, by omega⟩⟩⟩
      rw [← hW]
      have fin : (sRet (eB modD (eCb toInt (aC (eB fdvD (eB modD (eCb toInt (aC (eV 4) aN)) (eC (.int 2147483171))) (eC (.int 64))) aN)) (eV 1))) [some (rf l), some (.int m), some (.int cell), some (.int tn), some (.int x2), none] W = .rt (.int (((x2.fmod 2147483171).fdiv 64).fmod m)) W := by
        simp only [sRet, eB, eV, eC, eCb, aC, aN, toInt, Oc.bind, Oc.of, Oc.thenS, modD, fdvD, intD, n1, n2, nz, List.getElem?_cons_zero, List.getElem?_cons_succ, if_true]
      rw [fin]
      exact leave_ret (by rw [hW, List.length_set])
/-- what is kept by a draw -/
structure Kept (w : Ws) (l : Nat) (n : Nat) (w' : Ws) : Prop where
  ex : ∃ ob, w' = w.set l ob ∧ FdOk ob n
theorem Kept.start {w : Ws} {l n : Nat} {ob : Ob} (hw : w[l]? = some ob) (hr : FdOk ob n) : Kept w l n w := ⟨⟨ob, (set_at hw).symm, hr⟩⟩
theorem Kept.at_ {w w' : Ws} {l n : Nat} (hl : l < w.length) (h : Kept w l n w') : ∃ ob, w'[l]? = some ob ∧ FdOk ob n := by
  obtain ⟨ob, rfl, hr⟩ := h.ex
  exact ⟨ob, List.getElem?_set_self hl, hr⟩
theorem Kept.mono {w w' : Ws} {l n m : Nat} (h : Kept w l n w') (hn : n ≤ m) : Kept w l m w' := by
  obtain ⟨ob, e, hr⟩ := h.ex
  exact ⟨⟨ob, e, hr.mono hn⟩⟩
theorem Kept.len {w w' : Ws} {l n : Nat} (h : Kept w l n w') : w'.length = w.length := by
  obtain ⟨ob, rfl, _⟩ := h.ex
  exact List.length_set
theorem Kept.trans {w w' w'' : Ws} {l n m : Nat} (h : Kept w l n w') (h2 : Kept w' l m w'') : Kept w l m w'' := by
  obtain ⟨ob, rfl, _⟩ := h.ex
  obtain ⟨ob2, rfl, hr⟩ := h2.ex
  exact ⟨⟨ob2, List.set_set .., hr⟩⟩
theorem draw_k {w w' : Ws} {l n : Nat} {m : Int} (hl : l < w.length) (h : Kept w l n w') (hn : n < 1000000) (hm : 1 ≤ m) (hm2 : m < 1000000) :
    ∃ v w'', F__law_draw [rf l, .int m] w' = .ok (.int v) w'' ∧ 0 ≤ v ∧ v < m ∧ Kept w l (n + 1) w'' := by
  obtain ⟨ob, h1, hr⟩ := h.at_ hl
  obtain ⟨v, ob', e, v0, v1, hr'⟩ := draw_ok h1 hr hn hm hm2
  exact ⟨v, _, e, v0, v1, h.trans ⟨⟨ob', rfl, hr'⟩⟩⟩
theorem choice_k {w w' : Ws} {l n : Nat} {xs : List PyData} (hl : l < w.length) (h : Kept w l n w') (hn : n < 1000000) (h1 : xs ≠ []) (h2 : xs.length < 1000000) :
    ∃ x w'', F__law_choice [rf l, .list xs] w' = .ok x w'' ∧ x ∈ xs ∧ Kept w l (n + 1) w'' := by
  have hp := List.length_pos_iff.mpr h1
  obtain ⟨v, w'', e, v0, v1, k⟩ := draw_k (m := (xs.length : Int)) hl h hn (by omega) (by omega)
  obtain ⟨j, rfl⟩ : ∃ j : Nat, v = (j : Int) := ⟨v.toNat, by omega⟩
  have hj : j < xs.length := by omega
  refine ⟨xs[j], w'', ?_, List.getElem_mem hj, k⟩
  have a : atI xs (j : Int) = some xs[j] := atI_nat (List.getElem?_eq_getElem hj)
  have e2 : b__law_choice [some (rf l), some (.list xs)] w' = .rt xs[j] w'' := by
    simp only [b__law_choice, sRet, eB, eV, eCall, aC, aN, eCb, lenD, lstOf_list, Option.map_some, Oc.bind, Oc.of, List.append_nil, List.getElem?_cons_zero, List.getElem?_cons_succ, e, ixD_list, a, Oc.thenS]
  show leave w'.length (b__law_choice [some (rf l), some (.list xs)] w') = _
  rw [e2]
  exact leave_ret (by rw [k.len, h.len])
end Tk

set_option Elab.async false
set_option linter.all false
set_option maxRecDepth 100000
set_option maxHeartbeats 4000000
namespace Tk
open PySem L2 Td
/-! ### random patterns -/
def tb : Nat → Nat
  | 0 => 9
  | d + 1 => 3 * (tb d + 2) + 10
def cst : Nat → Nat
  | 0 => 1
  | d + 1 => 3 * cst d + 3
theorem lits : ("?a" : Str) = S [63, 97] ∧ ("?b" : Str) = S [63, 98] ∧ ("?zzzzzzzz" : Str) = S [63, 122, 122, 122, 122, 122, 122, 122, 122] ∧ ("x" : Str) = S [120] ∧ ("no" : Str) = S [110, 111] ∧ ("and" : Str) = S [97, 110, 100] ∧ ("f" : Str) = S [102] ∧ ("zzzzzzzz" : Str) = S [122, 122, 122, 122, 122, 122, 122, 122] := by decide +kernel
def leafs : List Pat := [.var [97], .var [98], .var [97], .var [122, 122, 122, 122, 122, 122, 122, 122], .node [120] [], .node [110, 111] []]
def heads : List (List Nat) := [[97, 110, 100], [102], [122, 122, 122, 122, 122, 122, 122, 122], [120]]
theorem leafs_ok : leafs.all (fun p => ok p && decide (hgt p = 0) && decide ((txt p).length ≤ 9)) = true := by decide +kernel
theorem heads_ok : heads.all (fun h => nmL h) = true := by decide +kernel
theorem leafs_D : leafs.map toD = [.str "?a", .str "?b", .str "?a", .str "?zzzzzzzz", .tuple [.str "x", .tuple []], .tuple [.str "no", .tuple []]] := by
  obtain ⟨h1, h2, h3, h4, h5, _⟩ := lits
  rw [h1, h2, h3, h4, h5]
  rfl
theorem heads_D : heads.map (fun h => PyData.str (S h)) = [.str "and", .str "f", .str "zzzzzzzz", .str "x"] := by
  obtain ⟨_, _, _, h4, _, h6, h7, h8⟩ := lits
  rw [h4, h6, h7, h8]
  rfl
structure Good (d : Nat) (p : Pat) : Prop where
  ok : ok p = true
  hg : hgt p ≤ d
  tx : (txt p).length ≤ tb d
theorem tb_mono (d : Nat) : tb 0 ≤ tb d := by
  induction d with
  | zero => exact Nat.le_refl _
  | succ d ih => simp only [tb] at *; omega
theorem leaf_good {p : Pat} (h : p ∈ leafs) (d : Nat) : Good d p := by
  have := List.all_eq_true.mp leafs_ok p h
  rw [Bool.and_eq_true, Bool.and_eq_true] at this
  have t := tb_mono d
  exact ⟨this.1.1, by have := of_decide_eq_true this.1.2; omega, Nat.le_trans (of_decide_eq_true this.2) t⟩
theorem node_good {d : Nat} {h : List Nat} {ps : List Pat} (hh : nmL h = true) (hp : ∀ p ∈ ps, Good d p) (hl : ps.length ≤ 3) : Good (d + 1) (.node h ps) := by
  have hb := nm_len hh
  have oksA : ∀ qs : List Pat, (∀ p ∈ qs, Good d p) → oks qs = true ∧ hgts qs ≤ d ∧ (txtR qs).length ≤ qs.length * (tb d + 2) := by
    intro qs
    induction qs with
    | nil => intro _; exact ⟨rfl, Nat.zero_le _, by simp [txtR, tokR]⟩
    | cons q qs ih =>
      intro hq
      obtain ⟨i1, i2, i3⟩ := ih fun p hp => hq p (List.mem_cons_of_mem _ hp)
      have g := hq q List.mem_cons_self
      refine ⟨by simp [oks, g.ok, i1], by simp only [hgts]; have := g.hg; omega, ?_⟩
      rw [txtR_cons]
      have := g.tx
      simp only [List.length_cons, List.length_append, Nat.add_mul, Nat.one_mul]
      omega
  cases ps with
  | nil => exact ⟨by simp [ok, hh, oks], by simp [hgt], by simp only [txt, tok, tb]; simp; omega⟩
  | cons p ps =>
    obtain ⟨i1, i2, i3⟩ := oksA (p :: ps) hp
    have g := hp p List.mem_cons_self
    obtain ⟨_, _, j3⟩ := oksA ps fun q hq => hp q (List.mem_cons_of_mem _ hq)
    refine ⟨by simp [ok, hh, i1], by simp only [hgt]; simp only [hgts] at i2; omega, ?_⟩
    rw [txt_node]
    have := g.tx
    have hl' : ps.length + 1 ≤ 3 := hl
    have : ps.length * (tb d + 2) ≤ 2 * (tb d + 2) := Nat.mul_le_mul_right _ (by omega)
    simp only [List.length_append, List.length_cons, List.length_nil, tb]
    omega
theorem lc_free {g : FF} {w : Ws} {l c d : Nat} {dd : Int} {ρ : Ev} (hl : l < w.length) (h0 : ρ[0]? = some (some (rf l))) (h1 : ρ[1]? = some (some (.int dd))) (h3 : 3 < ρ.length)
    (hg : ∀ w' n, Kept w l n w' → n + c < 1000000 → ∃ p w'', g [rf l, .int (dd - 1)] w' = .ok (toD p) w'' ∧ Good d p ∧ Kept w l (n + c) w'') :
    ∀ (ds : List PyData) (acc : List Pat) (w' : Ws) (n : Nat), acc.length + ds.length ≤ 1000 → Kept w l n w' → n + ds.length * c < 1000000 → (∀ p ∈ acc, Good d p) →
    ∃ ps w'', lcL (gN 3) tYs (eCall g [] (aC (eV 0) (aC (eB subD (eV 1) (eC (.int 1))) aN))) ρ ds w' (toDs acc) = .ok (toDs ps) w'' ∧ ps.length = acc.length + ds.length ∧ (∀ p ∈ ps, Good d p) ∧ Kept w l (n + ds.length * c) w''
  | [], acc, w', n, _, k, _, ha => ⟨acc, w', by simp [lcL], by simp, ha, by simpa using k⟩
  | x :: ds, acc, w', n, hz, k, hn, ha => by
    have hz' : acc.length + (ds.length + 1) ≤ 1000 := hz
    simp only [List.length_cons, Nat.add_mul, Nat.one_mul] at hn
    obtain ⟨p, w2, e, gp, k2⟩ := hg w' n k (by omega)
    have e2 : (eCall g [] (aC (eV 0) (aC (eB subD (eV 1) (eC (.int 1))) aN))) (ρ.set 3 (some x)) w' = .ok (toD p) w2 := by
      have a0 : (ρ.set 3 (some x))[0]? = some (some (rf l)) := by rw [List.getElem?_set_ne (by omega)]; exact h0
      have a1 : (ρ.set 3 (some x))[1]? = some (some (.int dd)) := by rw [List.getElem?_set_ne (by omega)]; exact h1
      simp only [eCall, aC, aN, eV, a0, a1, Oc.bind, eB, eC, subD, Oc.of, List.append_nil, e]
    obtain ⟨ps, w3, e3, l3, g3, k3⟩ := lc_free hl h0 h1 h3 hg ds (acc ++ [p]) w2 (n + c) (by simp; omega) k2 (by omega) fun q hq => by
      rcases List.mem_append.mp hq with hq | hq
      · exact ha q hq
      · rw [List.mem_singleton.mp hq]; exact gp
    refine ⟨ps, w3, ?_, by rw [l3]; simp; omega, g3, ?_⟩
    · rw [toDs_app] at e3
      simp only [lcL, gN, tYs, e2]
      rw [if_pos (by rw [toDs_len, sizeLine_eq]; omega)]
      exact e3
    · simp only [List.length_cons, Nat.add_mul, Nat.one_mul]
      rwa [show n + (ds.length * c + c) = n + c + ds.length * c by omega]
theorem choice_leaf {w w' : Ws} {l n : Nat} {ρ : Ev} (hl : l < w.length) (k : Kept w l n w') (hn : n < 1000000) (h0 : ρ[0]? = some (some (rf l))) :
    ∃ p w'', (eCall F__law_choice [] (aC (eV 0) (aC (eLst (aC (eC (.str "?a")) (aC (eC (.str "?b")) (aC (eC (.str "?a")) (aC (eC (.str "?zzzzzzzz")) (aC (eTup (aC (eC (.str "x")) (aC (eTup aN) aN))) (aC (eTup (aC (eC (.str "no")) (aC (eTup aN) aN))) aN))))))) aN))) ρ w' = .ok (toD p) w'' ∧ p ∈ leafs ∧ Kept w l (n + 1) w'' := by
  obtain ⟨x, w2, e, hx, k2⟩ := choice_k (xs := leafs.map toD) hl k hn (by simp [leafs]) (by simp [leafs])
  obtain ⟨p, hp, rfl⟩ := List.mem_map.mp hx
  refine ⟨p, w2, ?_, hp, k2⟩
  rw [leafs_D] at e
  have z6 : szOk 6 = true := szOk_of (by omega)
  simp only [eCall, aC, aN, eV, eC, h0, Oc.bind, eLst, eTup, Oc.on, List.length_cons, List.length_nil, Nat.zero_add, Nat.reduceAdd, sz0, sz2, z6, cond_true, List.append_nil, e]
theorem choice_head {w w' : Ws} {l n : Nat} {ρ : Ev} (hl : l < w.length) (k : Kept w l n w') (hn : n < 1000000) (h0 : ρ[0]? = some (some (rf l))) :
    ∃ h w'', (eCall F__law_choice [] (aC (eV 0) (aC (eLst (aC (eC (.str "and")) (aC (eC (.str "f")) (aC (eC (.str "zzzzzzzz")) (aC (eC (.str "x")) aN))))) aN))) ρ w' = .ok (.str (S h)) w'' ∧ nmL h = true ∧ Kept w l (n + 1) w'' := by
  obtain ⟨x, w2, e, hx, k2⟩ := choice_k (xs := heads.map fun h => .str (S h)) hl k hn (by simp [heads]) (by simp [heads])
  obtain ⟨h, hh, rfl⟩ := List.mem_map.mp hx
  refine ⟨h, w2, ?_, List.all_eq_true.mp heads_ok h hh, k2⟩
  rw [heads_D] at e
  have z4 : szOk 4 = true := szOk_of (by omega)
  simp only [eCall, aC, aN, eV, eC, h0, Oc.bind, eLst, Oc.on, List.length_cons, List.length_nil, Nat.zero_add, Nat.reduceAdd, z4, cond_true, List.append_nil, e]
theorem rgD_len' (v : Int) (h : 0 ≤ v) : ((rgD 0 v).length : Int) = v := by simp [rgD]; omega
theorem free_ok {w : Ws} {l : Nat} (hl : l < w.length) : ∀ (d fuel : Nat) (w' : Ws) (n : Nat), d < fuel → Kept w l n w' → n + cst d < 1000000 →
    ∃ p w'', F__law_free fuel [rf l, .int (d : Int)] w' = .ok (toD p) w'' ∧ Good d p ∧ Kept w l (n + cst d) w''
  | _, 0, _, _, h, _, _ => by omega
  | 0, fuel + 1, w', n, _, k, hn => by
    obtain ⟨p, w2, e, hp, k2⟩ := choice_leaf (ρ := [some (rf l), some (.int 0), none, none]) hl k (by simp only [cst] at hn; omega) rfl
    refine ⟨p, w2, ?_, leaf_good hp 0, k2⟩
    show leave w'.length (b__law_free (F__law_free fuel) [some (rf l), some (.int 0), none, none] w') = _
    unfold b__law_free
    rw [seq_rt (d := toD p) (w1 := w2) (by
      have t : (tOr' (tB' (eB eqD (eV 1) (eC (.int 0)))) (tB' (eB eqD (eCall F__law_draw [] (aC (eV 0) (aC (eC (.int 3)) aN))) (eC (.int 0))))) [some (rf l), some (.int 0), none, none] w' = .ok true w' := by
        simp [tOr', tB', eB, eV, eC, Oc.bind, Oc.of, eqD_int]
      rw [sIf, t]
      show sRet _ _ _ = _
      rw [sRet, e]
      rfl)]
    exact leave_ret (by rw [k2.len, k.len])
  | d + 1, fuel + 1, w', n, hf, k, hn => by
    simp only [cst] at hn
    obtain ⟨v, w2, e2, v0, v1, k2⟩ := draw_k (m := 3) hl k (by omega) (by decide) (by decide)
    have t : (tOr' (tB' (eB eqD (eV 1) (eC (.int 0)))) (tB' (eB eqD (eCall F__law_draw [] (aC (eV 0) (aC (eC (.int 3)) aN))) (eC (.int 0))))) [some (rf l), some (.int ((d + 1 : Nat) : Int)), none, none] w' = .ok (decide (v = 0)) w2 := by
      have : decide (((d + 1 : Nat) : Int) = 0) = false := decide_eq_false (by omega)
      simp only [tOr', tB', eB, eV, eC, Oc.bind, Oc.of, eqD_int, List.getElem?_cons_zero, List.getElem?_cons_succ, this, cond_false, eCall, aC, aN, List.append_nil, e2]
    show ∃ p w'', leave w'.length (b__law_free (F__law_free fuel) [some (rf l), some (.int ((d + 1 : Nat) : Int)), none, none] w') = _ ∧ _
    unfold b__law_free
    by_cases hv : v = 0
    · rw [decide_eq_true hv] at t
      obtain ⟨p, w3, e, hp, k3⟩ := choice_leaf (ρ := [some (rf l), some (.int ((d + 1 : Nat) : Int)), none, none]) hl k2 (by omega) rfl
      refine ⟨p, w3, ?_, leaf_good hp _, k3.mono (by simp only [cst]; omega)⟩
      rw [seq_rt (d := toD p) (w1 := w3) (by
        rw [sIf, t]
        show sRet _ _ _ = _
        rw [sRet, e]
        rfl)]
      exact leave_ret (by rw [k3.len, k.len])
    · rw [decide_eq_false hv] at t
      rw [seq_nx (ρ1 := [some (rf l), some (.int ((d + 1 : Nat) : Int)), none, none]) (w1 := w2) (by rw [sIf, t]; rfl)]
      obtain ⟨m, w3, e3, m0, m1, k3⟩ := draw_k (m := 4) hl k2 (by omega) (by decide) (by decide)
      rw [seq_nx (ρ1 := [some (rf l), some (.int ((d + 1 : Nat) : Int)), some (.int m), none]) (w1 := w3) (by
        simp only [sAsg, eCall, aC, aN, eV, eC, Oc.bind, List.getElem?_cons_zero, List.append_nil, e3, Oc.thenS, gN, List.set_cons_zero, List.set_cons_succ])]
      obtain ⟨h, w4, e4, hh, k4⟩ := choice_head (ρ := [some (rf l), some (.int ((d + 1 : Nat) : Int)), some (.int m), none]) hl k3 (by omega) rfl
      have rl := rgD_len' m m0
      have rl3 : (rgD 0 m).length * cst d ≤ 3 * cst d := Nat.mul_le_mul_right _ (by omega)
      obtain ⟨ps, w5, e5, l5, g5, k5⟩ := lc_free (g := F__law_free fuel) (c := cst d) (d := d) (dd := ((d + 1 : Nat) : Int)) (ρ := [some (rf l), some (.int ((d + 1 : Nat) : Int)), some (.int m), none]) hl rfl rfl (by simp) (fun w' n k hn => by
        have := free_ok hl d fuel w' n (by omega) k hn
        rwa [show (d : Int) = ((d + 1 : Nat) : Int) - 1 by omega] at this) (rgD 0 m) [] w4 (n + 1 + 1 + 1) (by simp only [List.length_nil]; omega) k4 (by omega) (fun p hp => by cases hp)
      refine ⟨.node h ps, w5, ?_, node_good hh g5 (by rw [l5]; simp only [List.length_nil]; omega), k5.mono (by simp only [cst]; omega)⟩
      have c6 : c62 m = true := c62_of (by omega)
      have fin : (sRet (eTup (aC (eCall F__law_choice [] (aC (eV 0) (aC (eLst (aC (eC (.str "and")) (aC (eC (.str "f")) (aC (eC (.str "zzzzzzzz")) (aC (eC (.str "x")) aN))))) aN))) (aC (eCb tupleD (aC (eLc (iR1 (aC (eV 2) aN)) (gN 3) tYs (eCall (F__law_free fuel) [] (aC (eV 0) (aC (eB subD (eV 1) (eC (.int 1))) aN))) [3]) aN)) aN)))) [some (rf l), some (.int ((d + 1 : Nat) : Int)), some (.int m), none] w3 = .rt (toD (.node h ps)) w5 := by
        rw [sRet, eTup, aC, e4]
        simp only [Oc.bind, aC, aN, eCb, eLc, iR1, eV, List.getElem?_cons_zero, List.getElem?_cons_succ, c6, Oc.on, cond_true, wipeE, List.set_cons_zero, List.set_cons_succ]
        simp only [toDs] at e5
        rw [e5]
        simp only [Oc.bind, tupleD, lstOf_list, Option.map_some, Oc.of, List.length_cons, List.length_nil, Nat.zero_add, Nat.reduceAdd, sz2, cond_true, Oc.thenS, toD]
      rw [fin]
      exact leave_ret (by rw [k5.len, k.len])
end Tk

set_option Elab.async false
set_option linter.all false
set_option maxRecDepth 100000
set_option maxHeartbeats 4000000
namespace Tk
open PySem L2 Td
mutual
theorem asc_tok : ∀ p : Pat, ok p = true → ∀ t ∈ tok p, ∀ c ∈ t, c < 128
  | .var n, ho, t, ht, c, hc => by
    simp only [tok, List.mem_cons, List.not_mem_nil, or_false] at ht
    rcases ht with rfl | rfl
    · simp at hc; omega
    · have := (nm_len (show nmL t = true from ho)).2.2 c hc; omega
  | .node h [], ho, t, ht, c, hc => by
    have hn := ((Bool.and_eq_true _ _).mp (show (nmL h && oks []) = true from ho)).1
    simp only [tok, List.mem_cons, List.not_mem_nil, or_false] at ht
    subst ht
    have := (nm_len hn).2.2 c hc; omega
  | .node h (p :: ps), ho, t, ht, c, hc => by
    have hb := (Bool.and_eq_true _ _).mp (show (nmL h && oks (p :: ps)) = true from ho)
    have ho' : ok p = true ∧ oks ps = true := by simpa [oks] using hb.2
    simp only [tok, List.mem_cons, List.mem_append, List.not_mem_nil, or_false] at ht
    rcases ht with rfl | rfl | ht | ht | rfl
    · have := (nm_len hb.1).2.2 c hc; omega
    · simp at hc; omega
    · exact asc_tok p ho'.1 t ht c hc
    · exact asc_tokR ps ho'.2 t ht c hc
    · simp at hc; omega
theorem asc_tokR : ∀ ps : List Pat, oks ps = true → ∀ t ∈ tokR ps, ∀ c ∈ t, c < 128
  | [], _, t, ht, c, hc => by simp [tokR] at ht
  | p :: ps, ho, t, ht, c, hc => by
    have ho' : ok p = true ∧ oks ps = true := by simpa [oks] using ho
    simp only [tokR, List.mem_cons, List.mem_append] at ht
    rcases ht with rfl | rfl | ht | ht
    · simp at hc; omega
    · simp at hc; omega
    · exact asc_tok p ho'.1 t ht c hc
    · exact asc_tokR ps ho'.2 t ht c hc
end
theorem asc_of {l : List Nat} (h : ∀ c ∈ l, c < 128) : ascS (S l) = true := by
  unfold ascS
  rw [S_cps, List.all_eq_true]
  exact fun c hc => decide_eq_true (h c hc)
theorem asc_txt {p : Pat} (h : ok p = true) : ∀ c ∈ txt p, c < 128 := by
  intro c hc
  obtain ⟨t, ht, hc⟩ := List.mem_flatten.mp hc
  exact asc_tok p h t ht c hc
theorem asc_nm {n : List Nat} (h : nmL n = true) : ∀ c ∈ n, c < 128 := fun c hc => by have := (nm_len h).2.2 c hc; omega
mutual
theorem okD_toD : ∀ p : Pat, ok p = true → okD (toD p) = true
  | .var n, h => by
    simp only [toD, okD]
    exact asc_of fun c hc => by
      rcases List.mem_cons.mp hc with rfl | hc
      · omega
      · exact asc_nm (show nmL n = true from h) c hc
  | .node h ps, ho => by
    have hn := (Bool.and_eq_true _ _).mp (show (nmL h && oks ps) = true from ho)
    simp only [toD, okD, okDA, okD_toDs ps hn.2, asc_of (asc_nm hn.1), Bool.and_self]
theorem okD_toDs : ∀ ps : List Pat, oks ps = true → okDA (toDs ps) = true
  | [], _ => rfl
  | p :: ps, h => by
    have h' : ok p = true ∧ oks ps = true := by simpa [oks] using h
    simp [toDs, okDA, okD_toD p h'.1, okD_toDs ps h'.2]
end
mutual
theorem wt_toD : ∀ p : Pat, ok p = true → wt (toD p) ≤ 4 * (txt p).length
  | .var n, h => by
    have et : txt (.var n) = 63 :: n := by simp [txt, tok]
    rw [et]
    simp only [toD, wt, S_len, List.length_cons]
    omega
  | .node h [], ho => by
    have hn := nm_len ((Bool.and_eq_true _ _).mp (show (nmL h && oks []) = true from ho)).1
    have et : txt (.node h []) = h := by simp [txt, tok]
    rw [et]
    simp only [toD, toDs, wt, wtA, S_len]
    omega
  | .node h (p :: ps), ho => by
    have hb := (Bool.and_eq_true _ _).mp (show (nmL h && oks (p :: ps)) = true from ho)
    have ho' : ok p = true ∧ oks ps = true := by simpa [oks] using hb.2
    have hn := nm_len hb.1
    have h1 := wt_toD p ho'.1
    have h2 := wt_toDs ps ho'.2
    rw [txt_node]
    simp only [toD, toDs, wt, wtA, S_len, List.length_append, List.length_cons, List.length_nil]
    omega
theorem wt_toDs : ∀ ps : List Pat, oks ps = true → wtA (toDs ps) ≤ 4 * (txtR ps).length
  | [], _ => by simp [toDs, wtA]
  | p :: ps, h => by
    have h' : ok p = true ∧ oks ps = true := by simpa [oks] using h
    have h1 := wt_toD p h'.1
    have h2 := wt_toDs ps h'.2
    rw [txtR_cons]
    simp only [toDs, wtA, List.length_cons, List.length_append]
    omega
end
/-! ### the two checks -/
structure Fine (p : Pat) : Prop where
  ok : ok p = true
  hg : hgt p ≤ 30
  tx : (txt p).length ≤ 2000
theorem ne_same (w : Ws) (a : Str) : neD w (.str a) (.str a) = some (.bool false) := by rw [neD_str]; simp
theorem eq_same (w : Ws) (a : Str) : eqD w (.str a) (.str a) = some (.bool true) := by rw [eqD_str]; simp
theorem pat_right {w : Ws} {p : Pat} (hc : Cl w) (h : Fine p) : F__law_pattern_right [toD p] w = .ok (.bool true) w := by
  have ht := h.tx
  have hh := h.hg
  have e1 := law_text_ok w 40 p h.ok (by omega) h.hg (by omega)
  have e2 := pattern_text_ok w 40 p h.ok (by omega) (by omega)
  have e3 := fun i j => read_ok (i := i) (j := j) hc h.ok h.hg (by omega)
  have dp := depth_toD p
  have r1 : reprD w [.list [.str (S (txt p)), .str (S (txt p))]] = some (.str (PyData.shown (.list [.str (S (txt p)), .str (S (txt p))]))) := repr_of w (by simp only [okD, okDA, asc_of (asc_txt h.ok), Bool.and_self]) (by simp [PyData.depth, PyData.depthAll]) (by simp only [wt, wtA, S_len]; omega)
  have wp := wt_toD p h.ok
  have r2 : reprD w [.list [toD p, toD p, toD p, toD p]] = some (.str (PyData.shown (.list [toD p, toD p, toD p, toD p]))) := repr_of w (by simp only [okD, okDA, okD_toD p h.ok, Bool.and_self]) (by simp only [PyData.depth, PyData.depthAll]; omega) (by simp only [wt, wtA]; omega)
  have mu : mulL w (.list [toD p]) (.int 4) = some (.list [toD p, toD p, toD p, toD p]) := rfl
  have pw : powD w (.int 10) (.int 20) = some (.int (10 ^ 20)) := by
    have : cPw 10 20 = true := by decide +kernel
    simp only [powD, intD, this, if_true]
    rfl
  have z1 : szOk 1 = true := szOk_of (by omega)
  have z3 : szOk 3 = true := szOk_of (by omega)
  have z31 : szOk (1 + 1 + 1 + 1) = true := szOk_of (by omega)
  show leave w.length (b__law_pattern_right [some (toD p), none, none] w) = _
  unfold b__law_pattern_right
  rw [seq_nx (ρ1 := [some (toD p), some (.str (S (txt p))), none]) (w1 := w) (by
    simp only [sAsg, eCall, aC, aN, eV, Oc.bind, List.getElem?_cons_zero, List.append_nil, e1, Oc.thenS, gN, List.set_cons_zero, List.set_cons_succ])]
  rw [seq_nx (ρ1 := [some (toD p), some (.str (S (txt p))), none]) (w1 := w) (by
    simp only [sIf, tB', eB, eCb, aC, aN, eLst, eCall, eCallN, eV, Oc.bind, List.getElem?_cons_zero, List.getElem?_cons_succ, List.append_nil, List.length_nil, List.length_cons, Nat.zero_add, BEq.rfl, Bool.and_self, Oc.on, cond_true, cond_false, arr, pick, e2, Nat.reduceAdd, sz2, r1, Oc.of, ne_same, Oc.thenS, sNil])]
  rw [seq_nx (ρ1 := [some (toD p), some (.str (S (txt p))), some (.list [toD p, toD p, toD p])]) (w1 := w) (by
    simp only [sAsg, eLst, aC, aN, eCallN, eV, eC, Oc.bind, List.getElem?_cons_zero, List.getElem?_cons_succ, List.length_nil, List.length_cons, Nat.zero_add, BEq.rfl, Bool.and_self, Oc.on, cond_true, arr, pick, e3, Nat.reduceAdd, z3, Oc.thenS, gN, List.set_cons_zero, List.set_cons_succ])]
  rw [seq_nx (ρ1 := [some (toD p), some (.str (S (txt p))), some (.list [toD p, toD p, toD p, toD p])]) (w1 := w) (by
    simp only [sAsg, eB, eLst, aC, aN, eCallN, eV, eC, Oc.bind, List.getElem?_cons_zero, List.getElem?_cons_succ, List.length_nil, List.length_cons, Nat.zero_add, BEq.rfl, Bool.and_self, Oc.on, cond_true, pw, Oc.of, arr, pick, e3, z1, addD, lstOf_list]
    rw [if_pos z31]
    rfl)]
  have fin : (sRet (eB eqD (eCb reprD (aC (eV 2) aN)) (eCb reprD (aC (eB mulL (eLst (aC (eV 0) aN)) (eC (.int 4))) aN)))) [some (toD p), some (.str (S (txt p))), some (.list [toD p, toD p, toD p, toD p])] w = .rt (.bool true) w := by
    simp only [sRet, eB, eCb, aC, aN, eLst, eV, eC, Oc.bind, List.getElem?_cons_zero, List.getElem?_cons_succ, List.length_nil, List.length_cons, Nat.zero_add, Oc.on, cond_true, z1, mu, r2, Oc.of, eq_same, Oc.thenS]
  rw [fin]
  exact leave_ret rfl
theorem rTxt_eq (b : List Nat) (p r : Pat) : rTxt b p r = b ++ [32] ++ txt p ++ [32, 45, 62, 32] ++ txt r := by simp [rTxt]
theorem rule_text_ok {w : Ws} {b : List Nat} {p r : Pat} (hb : nmL b = true) (hp : Fine p) (hr : Fine r) : F_rule_text [.tuple [.str (S b), toD p, toD r]] w = .ok (.str (S (rTxt b p r))) w := by
  have nb := nm_len hb
  have h1 := hp.tx
  have h2 := hr.tx
  have g1 := hp.hg
  have g2 := hr.hg
  have e1 := pattern_text_ok w 40 p hp.ok (by omega) (by omega)
  have e2 := pattern_text_ok w 40 r hr.ok (by omega) (by omega)
  have zb : szOk (S b).length = true := by rw [S_len]; exact szOk_of (by omega)
  have zp : szOk (S (txt p)).length = true := by rw [S_len]; exact szOk_of (by omega)
  have zr : szOk (S (txt r)).length = true := by rw [S_len]; exact szOk_of (by omega)
  have za : szOk (S [32, 45, 62, 32]).length = true := by rw [S_len]; exact szOk_of (by simp)
  have es : Str.empty = S [] := rfl
  have y1 : szOk (S b).length = true := by rw [S_len]; exact szOk_of (by omega)
  have y2 : szOk (S (b ++ [32])).length = true := by rw [S_len]; exact szOk_of (by simp; omega)
  have y3 : szOk (S (b ++ [32] ++ txt p)).length = true := by rw [S_len]; exact szOk_of (by simp; omega)
  have y4 : szOk (S (b ++ [32] ++ txt p ++ [32, 45, 62, 32])).length = true := by rw [S_len]; exact szOk_of (by simp; omega)
  have y5 : szOk (S (b ++ [32] ++ txt p ++ [32, 45, 62, 32] ++ txt r)).length = true := by rw [S_len]; exact szOk_of (by simp; omega)
  show leave w.length (b_rule_text [some (.tuple [.str (S b), toD p, toD r]), none, none, none] w) = _
  unfold b_rule_text
  rw [seq_nx (ρ1 := [some (.tuple [.str (S b), toD p, toD r]), some (.str (S b)), some (toD p), some (toD r)]) (w1 := w) (by
    simp only [sAsg, eV, List.getElem?_cons_zero, Oc.thenS, gT, gC, gN, gZ, Oc.bind, List.length_nil, List.length_cons, Nat.zero_add, Nat.reduceAdd, if_true, List.set_cons_zero, List.set_cons_succ])]
  have fin : (sRet (eJs ((eU fmtD (eV 1)) :: ((eC (.str " ")) :: ((eU fmtD (eCall (F_pattern_text 40) [] (aC (eV 2) aN))) :: ((eU fmtD (eC (.str " -> "))) :: ((eU fmtD (eCall (F_pattern_text 40) [] (aC (eV 3) aN))) :: []))))))) [some (.tuple [.str (S b), toD p, toD r]), some (.str (S b)), some (toD p), some (toD r)] w = .rt (.str (S (rTxt b p r))) w := by
    rw [rTxt_eq]
    simp only [sRet, eJs, jsF, eU, eV, eC, eCall, aC, aN, Oc.bind, Oc.of, List.getElem?_cons_zero, List.getElem?_cons_succ, List.append_nil, e1, e2, lit_s, lit_ar, fmtD, zb, zp, zr, za, if_true, es, S_app, y1, y2, y3, y4, y5, Oc.on, cond_true, Oc.thenS, List.nil_append]
  rw [fin]
  exact leave_ret rfl
theorem add_str {w : Ws} {a b : List Nat} (h : a.length + b.length ≤ 1000000) : addD w (.str (S a)) (.str (S b)) = some (.str (S (a ++ b))) := by
  have : szOk ((S a).length + (S b).length) = true := by rw [S_len, S_len]; exact szOk_of h
  simp only [addD, this, if_true, S_app]
theorem rule_right {w : Ws} {b : List Nat} {p r : Pat} (hc : Cl w) (hb : nmL b = true) (hp : Fine p) (hr : Fine r) : F__law_rule_right [.str (S b), toD p, toD r] w = .ok (.bool true) w := by
  have nb := nm_len hb
  have h1 := hp.tx
  have h2 := hr.tx
  have g1 := hp.hg
  have g2 := hr.hg
  have l1 := law_text_ok w 40 p hp.ok (by omega) g1 (by omega)
  have l2 := law_text_ok w 40 r hr.ok (by omega) g2 (by omega)
  have bl : (rTxt b p r).length ≤ 5000 := by simp [rTxt]; omega
  have e3 := fun i j => rule_ok (i := i) (j := j) hc hb hp.ok hr.ok g1 g2 (by omega)
  have e2 := rule_text_ok (w := w) hb hp hr
  have dp := depth_toD p
  have dr := depth_toD r
  have wp := wt_toD p hp.ok
  have wr := wt_toD r hr.ok
  have asc : ∀ c ∈ rTxt b p r, c < 128 := by
    intro c hc
    rw [rTxt_eq] at hc
    simp only [List.mem_append, List.mem_cons, List.not_mem_nil, or_false] at hc
    rcases hc with (((hc | hc) | hc) | hc) | hc
    · exact asc_nm hb c hc
    · omega
    · exact asc_txt hp.ok c hc
    · omega
    · exact asc_txt hr.ok c hc
  obtain ⟨D, hD⟩ : ∃ D, D = PyData.tuple [.str (S b), toD p, toD r] := ⟨_, rfl⟩
  have okT : okD D = true := by rw [hD]; simp only [okD, okDA, asc_of (asc_nm hb), okD_toD p hp.ok, okD_toD r hr.ok, Bool.and_self]
  have dpT : D.depth ≤ 63 := by rw [hD]; simp only [PyData.depth, PyData.depthAll]; omega
  have wtT : wt D ≤ 20000 := by rw [hD]; simp only [wt, wtA, S_len]; omega
  have r1 : reprD w [.list [.str (S (rTxt b p r)), .str (S (rTxt b p r))]] = some (.str (PyData.shown (.list [.str (S (rTxt b p r)), .str (S (rTxt b p r))]))) := repr_of w (by simp only [okD, okDA, asc_of asc, Bool.and_self]) (by simp [PyData.depth, PyData.depthAll]) (by simp only [wt, wtA, S_len]; omega)
  have r2 : reprD w [.list [D, D, D, D]] = some (.str (PyData.shown (.list [D, D, D, D]))) := repr_of w (by simp only [okD, okDA, okT, Bool.and_self]) (by simp only [PyData.depth, PyData.depthAll]; omega) (by simp only [wt, wtA]; omega)
  have mu : mulL w (.list [D]) (.int 4) = some (.list [D, D, D, D]) := rfl
  have pw : powD w (.int 10) (.int 20) = some (.int (10 ^ 20)) := by
    have : cPw 10 20 = true := by decide +kernel
    simp only [powD, intD, this, if_true]
    rfl
  have z1 : szOk 1 = true := szOk_of (by omega)
  have z3 : szOk 3 = true := szOk_of (by omega)
  have z4 : szOk 4 = true := szOk_of (by omega)
  have a1 := add_str (w := w) (a := b) (b := [32]) (by simp; omega)
  have a2 := add_str (w := w) (a := b ++ [32]) (b := txt p) (by simp; omega)
  have a3 := add_str (w := w) (a := b ++ [32] ++ txt p) (b := [32, 45, 62, 32]) (by simp; omega)
  have a4 := add_str (w := w) (a := b ++ [32] ++ txt p ++ [32, 45, 62, 32]) (b := txt r) (by simp; omega)
  rw [← rTxt_eq] at a4
  rw [← hD] at e2
  simp only [← hD] at e3
  show leave w.length (b__law_rule_right [some (.str (S b)), some (toD p), some (toD r), none, none, none] w) = _
  unfold b__law_rule_right
  rw [seq_nx (ρ1 := [some (.str (S b)), some (toD p), some (toD r), some D, none, none]) (w1 := w) (by
    simp only [sAsg, eTup, aC, aN, eV, Oc.bind, List.getElem?_cons_zero, List.getElem?_cons_succ, List.length_nil, List.length_cons, Nat.zero_add, Nat.reduceAdd, z3, Oc.on, cond_true, Oc.thenS, gN, List.set_cons_zero, List.set_cons_succ, hD])]
  rw [seq_nx (ρ1 := [some (.str (S b)), some (toD p), some (toD r), some D, some (.str (S (rTxt b p r))), none]) (w1 := w) (by
    simp only [sAsg, eB, eCall, aC, aN, eV, eC, Oc.bind, List.getElem?_cons_zero, List.getElem?_cons_succ, List.append_nil, l1, l2, lit_s, lit_ar, a1, a2, a3, a4, Oc.of, Oc.thenS, gN, List.set_cons_zero, List.set_cons_succ])]
  rw [seq_nx (ρ1 := [some (.str (S b)), some (toD p), some (toD r), some D, some (.str (S (rTxt b p r))), none]) (w1 := w) (by
    simp only [sIf, tB', eB, eCb, aC, aN, eLst, eCall, eCallN, eV, Oc.bind, List.getElem?_cons_zero, List.getElem?_cons_succ, List.append_nil, List.length_nil, List.length_cons, Nat.zero_add, BEq.rfl, Bool.and_self, Oc.on, cond_true, cond_false, arr, pick, e2, Nat.reduceAdd, sz2, r1, Oc.of, ne_same, Oc.thenS, sNil])]
  rw [seq_nx (ρ1 := [some (.str (S b)), some (toD p), some (toD r), some D, some (.str (S (rTxt b p r))), some (.list [D, D, D, D])]) (w1 := w) (by
    simp only [sAsg, eLst, aC, aN, eCallN, eB, eV, eC, Oc.bind, List.getElem?_cons_zero, List.getElem?_cons_succ, List.length_nil, List.length_cons, Nat.zero_add, BEq.rfl, Bool.and_self, Oc.on, cond_true, pw, Oc.of, arr, pick, e3, Nat.reduceAdd, z4, Oc.thenS, gN, List.set_cons_zero, List.set_cons_succ])]
  have fin : (sRet (eB eqD (eCb reprD (aC (eV 5) aN)) (eCb reprD (aC (eB mulL (eLst (aC (eV 3) aN)) (eC (.int 4))) aN)))) [some (.str (S b)), some (toD p), some (toD r), some D, some (.str (S (rTxt b p r))), some (.list [D, D, D, D])] w = .rt (.bool true) w := by
    simp only [sRet, eB, eCb, aC, aN, eLst, eV, eC, Oc.bind, List.getElem?_cons_zero, List.getElem?_cons_succ, List.length_nil, List.length_cons, Nat.zero_add, Oc.on, cond_true, z1, mu, r2, Oc.of, eq_same, Oc.thenS]
  rw [fin]
  exact leave_ret rfl
end Tk

set_option Elab.async false
set_option linter.all false
set_option maxRecDepth 100000
set_option maxHeartbeats 4000000
namespace Tk
open PySem L2 Td
theorem feed_ok (ns : List Int) (h : ns.length ≤ 63) : F__law_feed [intsD ns] [] = .ok (rf 0) [.lst (fdL ns 0 0 0)] := by
  have cut : cutL (ns.map PyData.int) none (some 63) = ns.map .int := by
    unfold cutL
    rw [HT.sIx_none, show (some (63 : Int)) = some (((63 : Nat)) : Int) from rfl, HT.sIx_nat, List.length_map, Nat.min_eq_right h, List.drop_zero, Nat.sub_zero, List.take_of_length_le (by simp)]
  have z4 : szOk 4 = true := szOk_of (by omega)
  have e : b__law_feed [some (intsD ns)] [] = .rt (rf 0) [.lst (fdL ns 0 0 0)] := by
    simp only [b__law_feed, sRet, eLstS, aC, aN, eCb, eSl, oN, oS, eV, eC, Oc.bind, Oc.of, List.getElem?_cons_zero, intsD, cutD, lstOf_list, cut, listD, Option.map_some, List.length_cons, List.length_nil, Nat.zero_add, Nat.reduceAdd, z4, Oc.on, cond_true, List.nil_append, Oc.thenS, fdL]
  show leave 0 (b__law_feed [some (intsD ns)] []) = _
  rw [e]
  simp [leave, bnd, bndK]
def tw : Nat → Pat
  | 0 => .node [120] []
  | k + 1 => cond (k % 2 == 0) (.node [102] [tw k]) (.node [97, 110, 100] [tw k, .var [97]])
theorem tw_ok : ∀ k, ok (tw k) = true ∧ hgt (tw k) ≤ k ∧ (txt (tw k)).length ≤ 10 * k + 1
  | 0 => ⟨rfl, Nat.le_refl _, by decide⟩
  | k + 1 => by
    obtain ⟨h1, h2, h3⟩ := tw_ok k
    simp only [tw]
    cases k % 2 == 0 with
    | true =>
      simp only [cond_true]
      refine ⟨by simp [ok, oks, h1, show nmL [102] = true by decide], by simp only [hgt, hgts]; omega, ?_⟩
      rw [txt_node]
      simp [txtR, tokR]
      omega
    | false =>
      simp only [cond_false]
      refine ⟨by simp [ok, oks, h1, show nmL [97, 110, 100] = true by decide, show nmL [97] = true by decide], by simp only [hgt, hgts]; omega, ?_⟩
      rw [txt_node, txtR_cons]
      have : txt (.var [97]) = [63, 97] := by simp [txt, tok]
      rw [this]
      simp [txtR, tokR]
      omega
def wideP : Pat := .node [102] [.node [97] [], .node [98] [], .node [99] [], .node [100] [], .node [101] [], .node [103] [], .node [104] [], .var [97]]
theorem wide_fine : Fine wideP := ⟨by decide +kernel, by decide +kernel, by decide +kernel⟩
theorem tw_fine : Fine (tw 30) := by obtain ⟨h1, h2, h3⟩ := tw_ok 30; exact ⟨h1, h2, by omega⟩
theorem good_fine {p : Pat} (h : Good 2 p) : Fine p := ⟨h.ok, by have := h.hg; omega, Nat.le_trans h.tx (by decide)⟩
theorem tower_step {ρ : Ev} {w : Ws} {k : Nat} (h2 : ρ[2]? = some (some (toD (tw k)))) (h3 : ρ[3]? = some (some (.int (k : Int)))) :
    (sAsg (eIf (tB' (eB eqD (eB modD (eCb toInt (aC (eV 3) aN)) (eC (.int 2))) (eC (.int 0)))) (eTup (aC (eC (.str "f")) (aC (eTup (aC (eV 2) aN)) aN))) (eTup (aC (eC (.str "and")) (aC (eTup (aC (eV 2) (aC (eC (.str "?a")) aN))) aN)))) (gN 2)) ρ w = .nx (ρ.set 2 (some (toD (tw (k + 1))))) w := by
  have m1 : cNz (k : Int) 2 = true := by unfold cNz; decide
  have fm : ((k : Int)).fmod 2 = ((k % 2 : Nat) : Int) := by rw [Int.fmod_eq_emod_of_nonneg _ (by decide)]; omega
  have z1 : szOk 1 = true := szOk_of (by omega)
  obtain ⟨l1, _, _, _, _, l6, l7, _⟩ := lits
  have t : (tB' (eB eqD (eB modD (eCb toInt (aC (eV 3) aN)) (eC (.int 2))) (eC (.int 0)))) ρ w = .ok (k % 2 == 0) w := by
    simp only [tB', eB, eCb, aC, aN, eV, eC, h3, Oc.bind, Oc.of, toInt, modD, intD, m1, if_true, eqD_int, fm]
    congr 1
    rcases Nat.mod_two_eq_zero_or_one k with h | h <;> simp [h]
  rw [sAsg, eIf, t]
  simp only [tw]
  cases k % 2 == 0 with
  | true => simp only [Oc.bind, cond_true, eTup, aC, aN, eC, eV, h2, Oc.on, List.length_cons, List.length_nil, Nat.zero_add, Nat.reduceAdd, z1, sz2, Oc.thenS, gN, l7, toD, toDs]
  | false => simp only [Oc.bind, cond_true, cond_false, eTup, aC, aN, eC, eV, h2, Oc.on, List.length_cons, List.length_nil, Nat.zero_add, Nat.reduceAdd, z1, sz2, Oc.thenS, gN, l6, l1, toD, toDs]
theorem tower_loop {x0 x1 : Option PyData} {w : Ws} : ∀ (n k : Nat) (x3 x4 x5 x6 x7 x8 x9 x10 : Option PyData), k + n = 30 →
    ∃ x3', forL (gN 3) (sAsg (eIf (tB' (eB eqD (eB modD (eCb toInt (aC (eV 3) aN)) (eC (.int 2))) (eC (.int 0)))) (eTup (aC (eC (.str "f")) (aC (eTup (aC (eV 2) aN)) aN))) (eTup (aC (eC (.str "and")) (aC (eTup (aC (eV 2) (aC (eC (.str "?a")) aN))) aN)))) (gN 2)) ((List.range' k n).map fun i : Nat => PyData.int (i : Int)) [x0, x1, some (toD (tw k)), x3, x4, x5, x6, x7, x8, x9, x10] w = .nx [x0, x1, some (toD (tw 30)), x3', x4, x5, x6, x7, x8, x9, x10] w
  | 0, k, x3, x4, x5, x6, x7, x8, x9, x10, h => ⟨x3, by simp [forL, show k = 30 by omega]⟩
  | n + 1, k, x3, x4, x5, x6, x7, x8, x9, x10, h => by
    obtain ⟨x3', e⟩ := tower_loop (x0 := x0) (x1 := x1) (w := w) n (k + 1) (some (.int (k : Int))) x4 x5 x6 x7 x8 x9 x10 (by omega)
    refine ⟨x3', ?_⟩
    rw [List.range'_succ, List.map_cons]
    rw [for_one (ρ1 := [x0, x1, some (toD (tw k)), some (.int (k : Int)), x4, x5, x6, x7, x8, x9, x10]) rfl (tower_step rfl rfl)]
    exact e
theorem rg_range (n : Nat) : rgD 0 (n : Int) = (List.range' 0 n).map fun i : Nat => PyData.int (i : Int) := by
  simp [rgD, List.range_eq_range']
theorem wide_ok {ρ : Ev} {w : Ws} (h10 : 10 < ρ.length) : (eTup (aC (eC (.str "f")) (aC (eB addD (eCb tupleD (aC (eLc (iE (eC (.str "abcdegh"))) (gN 10) tYs (eTup (aC (eV 10) (aC (eTup aN) aN))) [10]) aN)) (eTup (aC (eC (.str "?a")) aN))) aN))) ρ w = .ok (toD wideP) w := by
  have lt : ("abcdegh" : Str) = S [97, 98, 99, 100, 101, 103, 104] := by decide +kernel
  obtain ⟨l1, _, _, _, _, _, l7, _⟩ := lits
  have lc := lcL_map (gt := gN 10) (fe := eTup (aC (eV 10) (aC (eTup aN) aN))) (ρ := wipeE ρ [10]) (w := w) (fun d => .tuple [d, .tuple []]) (chD (S [97, 98, 99, 100, 101, 103, 104])) (by rw [sizeLine_eq, chD_S]; simp) fun d _ => by
    refine ⟨_, rfl, ?_⟩
    have : ((wipeE ρ [10]).set 10 (some d))[10]? = some (some d) := List.getElem?_set_self (by rw [wipeE_len]; exact h10)
    simp only [eTup, aC, aN, eV, this, Oc.bind, Oc.on, List.length_cons, List.length_nil, Nat.zero_add, Nat.reduceAdd, sz0, sz2, cond_true]
  have z1 : szOk 1 = true := szOk_of (by omega)
  have z8 : szOk (7 + 1) = true := szOk_of (by omega)
  rw [eTup, aC]
  simp only [eC, Oc.bind, aC, eB, eCb, eLc, iE, itD, Oc.of, lt, lc, tupleD, lstOf_list, Option.map_some, aN, eTup, Oc.on, List.length_cons, List.length_nil, Nat.zero_add, Nat.reduceAdd, z1, sz2, cond_true, addD]
  rw [chD_S]
  simp only [List.map_cons, List.map_nil, List.length_cons, List.length_nil, Nat.zero_add, Nat.reduceAdd, szOk_of (show 8 ≤ 1000000 by omega), if_true, l1, l7, Oc.bind, sz2, cond_true]
  rfl
def labels : List (List Nat) := [[105, 100, 101, 109], [97], [122, 122, 122, 122, 122, 122, 122, 122], [120], [110, 111, 116]]
theorem labels_D : labels.map (fun h => PyData.str (S h)) = [.str "idem", .str "a", .str "zzzzzzzz", .str "x", .str "not"] := by
  have h : ("idem" : Str) = S [105, 100, 101, 109] ∧ ("a" : Str) = S [97] ∧ ("zzzzzzzz" : Str) = S [122, 122, 122, 122, 122, 122, 122, 122] ∧ ("x" : Str) = S [120] ∧ ("not" : Str) = S [110, 111, 116] := by decide +kernel
  obtain ⟨h1, h2, h3, h4, h5⟩ := h
  rw [h1, h2, h3, h4, h5]
  rfl
theorem labels_ok : labels.all (fun h => nmL h) = true := by decide +kernel
theorem choice_label {w w' : Ws} {l n : Nat} {ρ : Ev} (hl : l < w.length) (k : Kept w l n w') (hn : n < 1000000) (h0 : ρ[1]? = some (some (rf l))) :
    ∃ h w'', (eCall F__law_choice [] (aC (eV 1) (aC (eLst (aC (eC (.str "idem")) (aC (eC (.str "a")) (aC (eC (.str "zzzzzzzz")) (aC (eC (.str "x")) (aC (eC (.str "not")) aN)))))) aN))) ρ w' = .ok (.str (S h)) w'' ∧ nmL h = true ∧ Kept w l (n + 1) w'' := by
  obtain ⟨x, w2, e, hx, k2⟩ := choice_k (xs := labels.map fun h => .str (S h)) hl k hn (by simp [labels]) (by simp [labels])
  obtain ⟨h, hh, rfl⟩ := List.mem_map.mp hx
  refine ⟨h, w2, ?_, List.all_eq_true.mp labels_ok h hh, k2⟩
  rw [labels_D] at e
  have z5 : szOk 5 = true := szOk_of (by omega)
  simp only [eCall, aC, aN, eV, eC, h0, Oc.bind, eLst, Oc.on, List.length_cons, List.length_nil, Nat.zero_add, Nat.reduceAdd, z5, cond_true, List.append_nil, e]
theorem Kept.cl {w w' : Ws} {l n : Nat} (hc : Cl w) (h : Kept w l n w') : Cl w' := by
  obtain ⟨ob, rfl, hr⟩ := h.ex
  obtain ⟨cells, spot, rest, calls, rfl, _⟩ := hr.ex
  have bi : ∀ (n : Nat) (c : List Int), bndA n (c.map PyData.int) = true := fun n c => by
    induction c with
    | nil => rfl
    | cons x c ih => simp [bndA, bnd, ih]
  have : Td.Cl (w.set l (.lst (fdL cells spot rest calls))) := Td.Cl.set (show Td.Cl w from hc) (by
    show bndA w.length (fdL cells spot rest calls) = true
    simp [fdL, bndA, bnd, bi])
  exact this
theorem ask2 {f g : FE} {ρ : Ev} {w : Ws} (h1 : f ρ w = .ok (.bool true) w) (h2 : g ρ w = .ok (.bool true) w) : sIf (tOr' (tNo (tTr f)) (tNo (tTr g))) (sRet (eC (.bool false))) sNil ρ w = .nx ρ w := by
  simp only [sIf, tOr', tNo, tTr, h1, h2, Oc.bind, Oc.of, truD, Bool.not_true, cond_false, Oc.thenS, sNil]
abbrev roundS : FS := (sSeq (sAsg (eCall (F__law_free 4) [] (aC (eV 1) (aC (eC (.int 2)) aN))) (gN 7))
    (sSeq (sAsg (eCb reprD (aC (eV 7) aN)) (gN 8))
    (sSeq (sIf (tOr' (tNo (tTr (eCall F__law_pattern_right [] (aC (eV 7) aN)))) (tB' (eB neD (eCb reprD (aC (eV 7) aN)) (eV 8)))) (sRet (eC (.bool false))) sNil)
    (sSeq (sAsg (eCall F__law_choice [] (aC (eV 1) (aC (eLst (aC (eC (.str "idem")) (aC (eC (.str "a")) (aC (eC (.str "zzzzzzzz")) (aC (eC (.str "x")) (aC (eC (.str "not")) aN)))))) aN))) (gN 9))
    (sSeq (sIf (tOr' (tNo (tTr (eCall F__law_rule_right [] (aC (eV 9) (aC (eV 7) (aC (eV 5) aN)))))) (tNo (tTr (eCall F__law_rule_right [] (aC (eV 9) (aC (eV 5) (aC (eV 7) aN))))))) (sRet (eC (.bool false))) sNil)
    (sAsg (eV 7) (gN 5)))))))
theorem round_ok {w w' : Ws} {n : Nat} {x0 x2 x3 x4 x6 x7 x8 x9 x10 : Option PyData} {p : Pat} (hc : Cl w) (hl : 0 < w.length) (k : Kept w 0 n w') (hn : n + 50 < 1000000) (hp : Fine p) :
    ∃ q w'' y7 y8 y9, roundS [x0, some (rf 0), x2, x3, x4, some (toD p), x6, x7, x8, x9, x10] w' = .nx [x0, some (rf 0), x2, x3, x4, some (toD q), x6, y7, y8, y9, x10] w'' ∧ Fine q ∧ Kept w 0 (n + 50) w'' := by
  obtain ⟨q, w2, e, gq, k2⟩ := free_ok hl 2 4 w' n (by omega) k (by simp only [cst]; omega)
  have fq := good_fine gq
  have k2' : Kept w 0 (n + 49) w2 := k2.mono (by simp only [cst]; omega)
  have c2 := k2'.cl hc
  have rp : reprD w2 [toD q] = some (.str (toD q).shown) := repr_of w2 (okD_toD q fq.ok) (by have := depth_toD q; have := fq.hg; omega) (by have := wt_toD q fq.ok; have := fq.tx; omega)
  have pr := pat_right c2 fq
  obtain ⟨b, w3, e3, hb, k3⟩ := choice_label (ρ := [x0, some (rf 0), x2, x3, x4, some (toD p), x6, some (toD q), some (.str (toD q).shown), x9, x10]) hl k2' (by omega) rfl
  have c3 := k3.cl hc
  have r1 := rule_right c3 hb fq hp
  have r2 := rule_right c3 hb hp fq
  refine ⟨q, w3, some (toD q), some (.str (toD q).shown), some (.str (S b)), ?_, fq, k3⟩
  unfold roundS
  rw [seq_nx (ρ1 := [x0, some (rf 0), x2, x3, x4, some (toD p), x6, some (toD q), x8, x9, x10]) (w1 := w2) (by
    have e' : F__law_free 4 [rf 0, .int 2] w' = .ok (toD q) w2 := e
    simp only [sAsg, eCall, aC, aN, eV, eC, Oc.bind, List.getElem?_cons_zero, List.getElem?_cons_succ, List.append_nil, e', Oc.thenS, gN, List.set_cons_zero, List.set_cons_succ])]
  rw [seq_nx (ρ1 := [x0, some (rf 0), x2, x3, x4, some (toD p), x6, some (toD q), some (.str (toD q).shown), x9, x10]) (w1 := w2) (by
    simp only [sAsg, eCb, aC, aN, eV, Oc.bind, List.getElem?_cons_zero, List.getElem?_cons_succ, rp, Oc.of, Oc.thenS, gN, List.set_cons_zero, List.set_cons_succ])]
  rw [seq_nx (ρ1 := [x0, some (rf 0), x2, x3, x4, some (toD p), x6, some (toD q), some (.str (toD q).shown), x9, x10]) (w1 := w2) (by
    simp only [sIf, tOr', tNo, tTr, tB', eB, eCall, eCb, aC, aN, eV, Oc.bind, List.getElem?_cons_zero, List.getElem?_cons_succ, List.append_nil, pr, Oc.of, truD, Bool.not_true, cond_false, rp, ne_same, Oc.thenS, sNil])]
  rw [seq_nx (ρ1 := [x0, some (rf 0), x2, x3, x4, some (toD p), x6, some (toD q), some (.str (toD q).shown), some (.str (S b)), x10]) (w1 := w3) (by rw [sAsg, e3]; rfl)]
  rw [seq_nx (ρ1 := [x0, some (rf 0), x2, x3, x4, some (toD p), x6, some (toD q), some (.str (toD q).shown), some (.str (S b)), x10]) (w1 := w3) (ask2
    (by simp only [eCall, aC, aN, eV, Oc.bind, List.getElem?_cons_zero, List.getElem?_cons_succ, List.append_nil, r1])
    (by simp only [eCall, aC, aN, eV, Oc.bind, List.getElem?_cons_zero, List.getElem?_cons_succ, List.append_nil, r2]))]
  rfl
theorem rounds {w : Ws} {x0 x2 x3 x4 : Option PyData} (hc : Cl w) (hl : 0 < w.length) : ∀ (ds : List PyData) (n : Nat) (w' : Ws) (x6 x7 x8 x9 x10 : Option PyData) (p : Pat), Kept w 0 n w' → n + ds.length * 50 < 1000000 → Fine p →
    ∃ ρ' w'', forL (gN 6) roundS ds [x0, some (rf 0), x2, x3, x4, some (toD p), x6, x7, x8, x9, x10] w' = .nx ρ' w'' ∧ Kept w 0 (n + ds.length * 50) w''
  | [], n, w', x6, x7, x8, x9, x10, p, k, _, _ => ⟨[x0, some (rf 0), x2, x3, x4, some (toD p), x6, x7, x8, x9, x10], w', by simp only [forL], by simpa using k⟩
  | d :: ds, n, w', x6, x7, x8, x9, x10, p, k, hn, hp => by
    simp only [List.length_cons, Nat.add_mul, Nat.one_mul] at hn
    obtain ⟨q, w2, y7, y8, y9, e, fq, k2⟩ := round_ok (x0 := x0) (x2 := x2) (x3 := x3) (x4 := x4) (x6 := some d) (x7 := x7) (x8 := x8) (x9 := x9) (x10 := x10) hc hl k (by omega) hp
    obtain ⟨ρ', w3, e3, k3⟩ := rounds (x0 := x0) (x2 := x2) (x3 := x3) (x4 := x4) hc hl ds (n + 50) w2 (some d) y7 y8 y9 x10 q k2 (by omega) fq
    refine ⟨ρ', w3, ?_, ?_⟩
    · rw [for_one (ρ1 := [x0, some (rf 0), x2, x3, x4, some (toD p), some d, x7, x8, x9, x10]) rfl e]
      exact e3
    · simp only [List.length_cons, Nat.add_mul, Nat.one_mul]
      rwa [show n + (ds.length * 50 + 50) = n + 50 + ds.length * 50 by omega]
theorem law_run {ns : List Int} {w w' : Ws} {TW WD T0 VA : PyData} {x3 : Option PyData} {ρ' : Ev} (fe : F__law_feed [intsD ns] [] = .ok (rf 0) w) (e0 : T0 = .tuple [.str "x", .tuple []]) (eVA : VA = .str "?a")
    (tl : forL (gN 3) (sAsg (eIf (tB' (eB eqD (eB modD (eCb toInt (aC (eV 3) aN)) (eC (.int 2))) (eC (.int 0)))) (eTup (aC (eC (.str "f")) (aC (eTup (aC (eV 2) aN)) aN))) (eTup (aC (eC (.str "and")) (aC (eTup (aC (eV 2) (aC (eC (.str "?a")) aN))) aN)))) (gN 2)) (rgD 0 30) [some (intsD ns), some (rf 0), some T0, none, none, none, none, none, none, none, none] w = .nx [some (intsD ns), some (rf 0), some TW, x3, none, none, none, none, none, none, none] w)
    (wd : ∀ ρ : Ev, 10 < ρ.length → (eTup (aC (eC (.str "f")) (aC (eB addD (eCb tupleD (aC (eLc (iE (eC (.str "abcdegh"))) (gN 10) tYs (eTup (aC (eV 10) (aC (eTup aN) aN))) [10]) aN)) (eTup (aC (eC (.str "?a")) aN))) aN))) ρ w = .ok WD w)
    (p1 : F__law_pattern_right [TW] w = .ok (.bool true) w) (p2 : F__law_rule_right [.str "up", TW, TW] w = .ok (.bool true) w) (p3 : F__law_pattern_right [WD] w = .ok (.bool true) w) (p4 : F__law_rule_right [.str "wide", WD, WD] w = .ok (.bool true) w)
    (e : forL (gN 6) roundS (rgD 0 12) [some (intsD ns), some (rf 0), some TW, x3, some WD, some VA, none, none, none, none, none] w = .nx ρ' w') :
    b_law [some (intsD ns), none, none, none, none, none, none, none, none, none, none] [] = .rt (.bool true) w' := by
  have z12 : c62 12 = true := c62_of (by decide)
  have z30 : c62 30 = true := c62_of (by decide)
  unfold b_law
  rw [seq_nx (ρ1 := [some (intsD ns), some (rf 0), none, none, none, none, none, none, none, none, none]) (w1 := w) (by
    simp only [sAsg, eCall, aC, aN, eV, Oc.bind, List.getElem?_cons_zero, List.append_nil, fe, Oc.thenS, gN, List.set_cons_zero, List.set_cons_succ])]
  rw [seq_nx (ρ1 := [some (intsD ns), some (rf 0), some T0, none, none, none, none, none, none, none, none]) (w1 := w) (by
    simp only [sAsg, eTup, aC, aN, eC, Oc.bind, Oc.on, List.length_cons, List.length_nil, Nat.zero_add, Nat.reduceAdd, sz0, sz2, cond_true, Oc.thenS, gN, List.set_cons_zero, List.set_cons_succ, e0])]
  rw [seq_nx (ρ1 := [some (intsD ns), some (rf 0), some TW, x3, none, none, none, none, none, none, none]) (w1 := w) (by
    simp only [sFor, iR1, aC, aN, eC, Oc.bind, z30, Oc.on, cond_true, Oc.thenS]
    exact tl)]
  rw [seq_nx (ρ1 := [some (intsD ns), some (rf 0), some TW, x3, some WD, none, none, none, none, none, none]) (w1 := w) (by
    rw [sAsg, wd _ (by simp)]
    rfl)]
  rw [seq_nx (ρ1 := [some (intsD ns), some (rf 0), some TW, x3, some WD, none, none, none, none, none, none]) (w1 := w) (ask2
    (by simp only [eCall, aC, aN, eV, Oc.bind, List.getElem?_cons_zero, List.getElem?_cons_succ, List.append_nil, p1])
    (by simp only [eCall, aC, aN, eV, eC, Oc.bind, List.getElem?_cons_zero, List.getElem?_cons_succ, List.append_nil, p2]))]
  rw [seq_nx (ρ1 := [some (intsD ns), some (rf 0), some TW, x3, some WD, none, none, none, none, none, none]) (w1 := w) (ask2
    (by simp only [eCall, aC, aN, eV, Oc.bind, List.getElem?_cons_zero, List.getElem?_cons_succ, List.append_nil, p3])
    (by simp only [eCall, aC, aN, eV, eC, Oc.bind, List.getElem?_cons_zero, List.getElem?_cons_succ, List.append_nil, p4]))]
  rw [seq_nx (ρ1 := [some (intsD ns), some (rf 0), some TW, x3, some WD, some VA, none, none, none, none, none]) (w1 := w) (by
    simp only [sAsg, eC, Oc.thenS, gN, List.set_cons_zero, List.set_cons_succ, eVA])]
  rw [seq_nx (ρ1 := ρ') (w1 := w') (by
    simp only [sFor, iR1, aC, aN, eC, Oc.bind, z12, Oc.on, cond_true, Oc.thenS]
    exact e)]
  rfl
theorem F_law_eq (d : PyData) : F_law [d] [] = leave 0 (b_law [some d, none, none, none, none, none, none, none, none, none, none] []) := by
  unfold F_law defF
  rw [if_pos (by rfl)]
  rfl
theorem start_ok {ns : List Int} (hns : ns.length ≤ 63) {w : Ws} (hw : w = [.lst (fdL ns 0 0 0)]) : Kept w 0 0 w ∧ Cl w ∧ 0 < w.length := by
  have bi : ∀ (n : Nat) (c : List Int), bndA n (c.map PyData.int) = true := fun n c => by
    induction c with
    | nil => rfl
    | cons x c ih => simp [bndA, bnd, ih]
  subst hw
  refine ⟨Kept.start (ob := .lst (fdL ns 0 0 0)) rfl ⟨⟨ns, 0, 0, 0, rfl, hns, by omega, by omega, by omega, by omega⟩⟩, ?_, by simp⟩
  have c0 : Cl [] := rfl
  exact c0.snoc (by show bndA _ (fdL ns 0 0 0) = true; simp [fdL, bndA, bnd, bi])
theorem parts_ok {w : Ws} {x0 : Option PyData} (hc : Cl w) (hl : 0 < w.length) (k0 : Kept w 0 0 w) : ∃ (TW WD T0 VA : PyData) (x3 : Option PyData) (ρ' : Ev) (w' : Ws), T0 = .tuple [.str "x", .tuple []] ∧ VA = .str "?a" ∧
    (forL (gN 3) (sAsg (eIf (tB' (eB eqD (eB modD (eCb toInt (aC (eV 3) aN)) (eC (.int 2))) (eC (.int 0)))) (eTup (aC (eC (.str "f")) (aC (eTup (aC (eV 2) aN)) aN))) (eTup (aC (eC (.str "and")) (aC (eTup (aC (eV 2) (aC (eC (.str "?a")) aN))) aN)))) (gN 2)) (rgD 0 30) [x0, some (rf 0), some T0, none, none, none, none, none, none, none, none] w = .nx [x0, some (rf 0), some TW, x3, none, none, none, none, none, none, none] w) ∧
    (∀ ρ : Ev, 10 < ρ.length → (eTup (aC (eC (.str "f")) (aC (eB addD (eCb tupleD (aC (eLc (iE (eC (.str "abcdegh"))) (gN 10) tYs (eTup (aC (eV 10) (aC (eTup aN) aN))) [10]) aN)) (eTup (aC (eC (.str "?a")) aN))) aN))) ρ w = .ok WD w) ∧
    F__law_pattern_right [TW] w = .ok (.bool true) w ∧ F__law_rule_right [.str "up", TW, TW] w = .ok (.bool true) w ∧ F__law_pattern_right [WD] w = .ok (.bool true) w ∧ F__law_rule_right [.str "wide", WD, WD] w = .ok (.bool true) w ∧
    forL (gN 6) roundS (rgD 0 12) [x0, some (rf 0), some TW, x3, some WD, some VA, none, none, none, none, none] w = .nx ρ' w' := by
  obtain ⟨l1, _, _, l4, _, _, _, _⟩ := lits
  obtain ⟨x3, tl⟩ := tower_loop (x0 := x0) (x1 := some (rf 0)) (w := w) 30 0 none none none none none none none none rfl
  have nu : nmL [117, 112] = true ∧ nmL [119, 105, 100, 101] = true := by decide +kernel
  have lu : ("up" : Str) = S [117, 112] ∧ ("wide" : Str) = S [119, 105, 100, 101] := by decide +kernel
  have p1 := pat_right hc tw_fine
  have p2 := rule_right hc nu.1 tw_fine tw_fine
  have p3 := pat_right hc wide_fine
  have p4 := rule_right hc nu.2 wide_fine wide_fine
  have fv : Fine (.var [97]) := ⟨by decide, by decide, by decide⟩
  have t0 : toD (tw 0) = .tuple [.str "x", .tuple []] := by rw [l4]; rfl
  have v0 : toD (.var [97]) = .str "?a" := by rw [l1]; rfl
  generalize toD (tw 30) = TW at tl p1 p2
  have wd := fun ρ (h : 10 < ρ.length) => wide_ok (ρ := ρ) (w := w) h
  generalize toD wideP = WD at p3 p4 wd
  obtain ⟨ρ', w', e, k⟩ := rounds (x0 := x0) (x2 := some TW) (x3 := x3) (x4 := some WD) hc hl (rgD 0 12) 0 w none none none none none (.var [97]) k0 (by simp [rgD]) fv
  refine ⟨TW, WD, _, _, x3, ρ', w', t0, v0, ?_, wd, p1, ?_, p3, ?_, e⟩
  · rw [show rgD 0 30 = (List.range' 0 30).map fun i : Nat => PyData.int (i : Int) from rg_range 30]
    exact tl
  · rw [lu.1]; exact p2
  · rw [lu.2]; exact p4
theorem main : ∀ ns : List Int, ns.length ≤ 63 → ∃ wf, F_law [intsD ns] [] = .ok (.bool true) wf := by
  intro ns hns
  have fe := feed_ok ns hns
  obtain ⟨w, hw⟩ : ∃ w : Ws, w = [.lst (fdL ns 0 0 0)] := ⟨_, rfl⟩
  obtain ⟨k0, hc, hl⟩ := start_ok hns hw
  rw [← hw] at fe
  obtain ⟨TW, WD, T0, VA, x3, ρ', w', h1, h2, h3, h4, h5, h6, h7, h8, h9⟩ := parts_ok (x0 := some (intsD ns)) hc hl k0
  have b := law_run fe h1 h2 h3 h4 h5 h6 h7 h8 h9
  have tr : trimW 0 w' = true := by simp [trimW]
  have lv : leave 0 (.rt (.bool true) w') = .ok (.bool true) [] := by simp only [leave, tr, bnd, Bool.and_self, if_true, List.take_zero]
  exact ⟨[], (F_law_eq _).trans ((congrArg (leave 0) b).trans lv)⟩
end Tk

set_option Elab.async false
set_option linter.all false
set_option maxRecDepth 100000
set_option maxHeartbeats 4000000
namespace Tk
open PySem L2 PySem.Spec PyProof.Rows Td
theorem all_mk {l : PySem.W.OpenLaw} {w : World} {K : PySem.W.Frag} {h : Heap} {mg : Str → Option Value} {fa : Addr} (X : K.In h) (G : h.Ns mainGlobals mg) (hfa : mg "law" = some (.ref fa))
    {C_PatternReader : Addr} (aC_PatternReader : PySem.W.nsIn K mainGlobals "PatternReader" = some (some (.ref C_PatternReader)))
    (pg_PatternReader : PySem.W.plainGet K C_PatternReader Str.empty = true) (hd_PatternReader : PySem.W.hasDictIn K C_PatternReader = true) (po_PatternReader : PySem.W.plainOver K C_PatternReader = true) (sa_PatternReader : PySem.W.findIn K (.ref C_PatternReader) "__setattr__" = some (some (.builtin "object.__setattr__"))) (mk_PatternReader : PySem.W.makesIn K C_PatternReader = true) (kc_PatternReader : PySem.W.keepIn K (.ref C_PatternReader) = true)
    (nf_PatternReader_line : PySem.W.findIn K (.ref C_PatternReader) "line" = some none)
    (nf_PatternReader_field : PySem.W.findIn K (.ref C_PatternReader) "field" = some none)
    (nf_PatternReader_words : PySem.W.findIn K (.ref C_PatternReader) "words" = some none)
    (nf_PatternReader_length : PySem.W.findIn K (.ref C_PatternReader) "length" = some none)
    (nf_PatternReader_line_held : PySem.W.findIn K (.ref C_PatternReader) "line_held" = some none)
    (nf_PatternReader_first_field : PySem.W.findIn K (.ref C_PatternReader) "first_field" = some none)
    (nf_PatternReader_spot : PySem.W.findIn K (.ref C_PatternReader) "spot" = some none)
    {f0 : Addr} {od0 an0 : Option Addr} {sl0 : Array (Option Value)} {oc0 dc0 pm0 cd0 ct0 : Value}
    {kV0 : Value}
    (a0 : PySem.W.nsIn K mainGlobals "is_name" = some (some (.ref f0)))
    (l0 : K.lookup f0 = some ⟨oc0, od0, .func (PySem.W.fnOf "is_name" "is_name" (defArgs s_is_name) (defBody s_is_name) (defScope s_is_name) .none kV0 dc0 pm0 an0 cd0 ct0), sl0⟩)
    (c0 : PySem.W.codeIn K cd0 "is_name" = true) (k0 : PySem.W.keepIn K (.ref f0) = true)
    {f1 : Addr} {od1 an1 : Option Addr} {sl1 : Array (Option Value)} {oc1 dc1 pm1 cd1 ct1 : Value}
    {kV1 : Value}
    (a1 : PySem.W.nsIn K mainGlobals "is_variable" = some (some (.ref f1)))
    (l1 : K.lookup f1 = some ⟨oc1, od1, .func (PySem.W.fnOf "is_variable" "is_variable" (defArgs s_is_variable) (defBody s_is_variable) (defScope s_is_variable) .none kV1 dc1 pm1 an1 cd1 ct1), sl1⟩)
    (c1 : PySem.W.codeIn K cd1 "is_variable" = true) (k1 : PySem.W.keepIn K (.ref f1) = true)
    {f2 : Addr} {od2 an2 : Option Addr} {sl2 : Array (Option Value)} {oc2 dc2 pm2 cd2 ct2 : Value}
    {kV2 : Value}
    (a2 : PySem.W.nsIn K mainGlobals "pattern_text" = some (some (.ref f2)))
    (l2 : K.lookup f2 = some ⟨oc2, od2, .func (PySem.W.fnOf "pattern_text" "pattern_text" (defArgs s_pattern_text) (defBody s_pattern_text) (defScope s_pattern_text) .none kV2 dc2 pm2 an2 cd2 ct2), sl2⟩)
    (c2 : PySem.W.codeIn K cd2 "pattern_text" = true) (k2 : PySem.W.keepIn K (.ref f2) = true)
    {f3 : Addr} {od3 an3 : Option Addr} {sl3 : Array (Option Value)} {oc3 dc3 pm3 cd3 ct3 : Value}
    {kV3 : Value}
    (a3 : PySem.W.nsIn K mainGlobals "rule_text" = some (some (.ref f3)))
    (l3 : K.lookup f3 = some ⟨oc3, od3, .func (PySem.W.fnOf "rule_text" "rule_text" (defArgs s_rule_text) (defBody s_rule_text) (defScope s_rule_text) .none kV3 dc3 pm3 an3 cd3 ct3), sl3⟩)
    (c3 : PySem.W.codeIn K cd3 "rule_text" = true) (k3 : PySem.W.keepIn K (.ref f3) = true)
    {f4 : Addr} {od4 an4 : Option Addr} {sl4 : Array (Option Value)} {oc4 dc4 pm4 cd4 ct4 : Value}
    {kV4 : Value}
    (a4 : PySem.W.nsIn K mainGlobals "words_in" = some (some (.ref f4)))
    (l4 : K.lookup f4 = some ⟨oc4, od4, .func (PySem.W.fnOf "words_in" "words_in" (defArgs s_words_in) (defBody s_words_in) (defScope s_words_in) .none kV4 dc4 pm4 an4 cd4 ct4), sl4⟩)
    (c4 : PySem.W.codeIn K cd4 "words_in" = true) (k4 : PySem.W.keepIn K (.ref f4) = true)
    {f5 : Addr} {od5 an5 : Option Addr} {sl5 : Array (Option Value)} {oc5 dc5 pm5 cd5 ct5 : Value}
    {kV5 : Value}
    (a5 : PySem.W.findIn K (.ref C_PatternReader) "refuse" = some (some (.ref f5))) (i5 : PySem.W.isFn K (.ref f5) = true)
    (l5 : K.lookup f5 = some ⟨oc5, od5, .func (PySem.W.fnOf "refuse" "Scanner.refuse" (defArgs s_PatternReader_refuse) (defBody s_PatternReader_refuse) (defScope s_PatternReader_refuse) .none kV5 dc5 pm5 an5 cd5 ct5), sl5⟩)
    (c5 : PySem.W.codeIn K cd5 "Scanner.refuse" = true) (k5 : PySem.W.keepIn K (.ref f5) = true)
    {f6 : Addr} {od6 an6 : Option Addr} {sl6 : Array (Option Value)} {oc6 dc6 pm6 cd6 ct6 : Value}
    {kV6 : Value}
    (a6 : PySem.W.findIn K (.ref C_PatternReader) "index_now" = some (some (.ref f6))) (i6 : PySem.W.isFn K (.ref f6) = true)
    (l6 : K.lookup f6 = some ⟨oc6, od6, .func (PySem.W.fnOf "index_now" "Scanner.index_now" (defArgs s_PatternReader_index_now) (defBody s_PatternReader_index_now) (defScope s_PatternReader_index_now) .none kV6 dc6 pm6 an6 cd6 ct6), sl6⟩)
    (c6 : PySem.W.codeIn K cd6 "Scanner.index_now" = true) (k6 : PySem.W.keepIn K (.ref f6) = true)
    {f7 : Addr} {od7 an7 : Option Addr} {sl7 : Array (Option Value)} {oc7 dc7 pm7 cd7 ct7 : Value}
    {kV7 : Value}
    (a7 : PySem.W.findIn K (.ref C_PatternReader) "require" = some (some (.ref f7))) (i7 : PySem.W.isFn K (.ref f7) = true)
    (l7 : K.lookup f7 = some ⟨oc7, od7, .func (PySem.W.fnOf "require" "Scanner.require" (defArgs s_PatternReader_require) (defBody s_PatternReader_require) (defScope s_PatternReader_require) .none kV7 dc7 pm7 an7 cd7 ct7), sl7⟩)
    (c7 : PySem.W.codeIn K cd7 "Scanner.require" = true) (k7 : PySem.W.keepIn K (.ref f7) = true)
    {f8 : Addr} {od8 an8 : Option Addr} {sl8 : Array (Option Value)} {oc8 dc8 pm8 cd8 ct8 : Value}
    {kV8 : Value}
    (a8 : PySem.W.findIn K (.ref C_PatternReader) "present" = some (some (.ref f8))) (i8 : PySem.W.isFn K (.ref f8) = true)
    (l8 : K.lookup f8 = some ⟨oc8, od8, .func (PySem.W.fnOf "present" "Scanner.present" (defArgs s_PatternReader_present) (defBody s_PatternReader_present) (defScope s_PatternReader_present) .none kV8 dc8 pm8 an8 cd8 ct8), sl8⟩)
    (c8 : PySem.W.codeIn K cd8 "Scanner.present" = true) (k8 : PySem.W.keepIn K (.ref f8) = true)
    {f9 : Addr} {od9 an9 : Option Addr} {sl9 : Array (Option Value)} {oc9 dc9 pm9 cd9 ct9 : Value}
    {kV9 : Value}
    (a9 : PySem.W.findIn K (.ref C_PatternReader) "take" = some (some (.ref f9))) (i9 : PySem.W.isFn K (.ref f9) = true)
    (l9 : K.lookup f9 = some ⟨oc9, od9, .func (PySem.W.fnOf "take" "Scanner.take" (defArgs s_PatternReader_take) (defBody s_PatternReader_take) (defScope s_PatternReader_take) .none kV9 dc9 pm9 an9 cd9 ct9), sl9⟩)
    (c9 : PySem.W.codeIn K cd9 "Scanner.take" = true) (k9 : PySem.W.keepIn K (.ref f9) = true)
    {f10 : Addr} {od10 an10 : Option Addr} {sl10 : Array (Option Value)} {oc10 dc10 pm10 cd10 ct10 : Value}
    {kV10 : Value}
    (a10 : PySem.W.findIn K (.ref C_PatternReader) "name" = some (some (.ref f10))) (i10 : PySem.W.isFn K (.ref f10) = true)
    (l10 : K.lookup f10 = some ⟨oc10, od10, .func (PySem.W.fnOf "name" "Scanner.name" (defArgs s_PatternReader_name) (defBody s_PatternReader_name) (defScope s_PatternReader_name) .none kV10 dc10 pm10 an10 cd10 ct10), sl10⟩)
    (c10 : PySem.W.codeIn K cd10 "Scanner.name" = true) (k10 : PySem.W.keepIn K (.ref f10) = true)
    {f11 : Addr} {od11 an11 : Option Addr} {sl11 : Array (Option Value)} {oc11 dc11 pm11 cd11 ct11 : Value}
    {kV11 : Value}
    (a11 : PySem.W.findIn K (.ref C_PatternReader) "opening" = some (some (.ref f11))) (i11 : PySem.W.isFn K (.ref f11) = true)
    (l11 : K.lookup f11 = some ⟨oc11, od11, .func (PySem.W.fnOf "opening" "PatternReader.opening" (defArgs s_PatternReader_opening) (defBody s_PatternReader_opening) (defScope s_PatternReader_opening) .none kV11 dc11 pm11 an11 cd11 ct11), sl11⟩)
    (c11 : PySem.W.codeIn K cd11 "PatternReader.opening" = true) (k11 : PySem.W.keepIn K (.ref f11) = true)
    {f12 : Addr} {od12 an12 : Option Addr} {sl12 : Array (Option Value)} {oc12 dc12 pm12 cd12 ct12 : Value}
    {kV12 : Value}
    (a12 : PySem.W.findIn K (.ref C_PatternReader) "can_hold" = some (some (.ref f12))) (i12 : PySem.W.isFn K (.ref f12) = true)
    (l12 : K.lookup f12 = some ⟨oc12, od12, .func (PySem.W.fnOf "can_hold" "PatternReader.can_hold" (defArgs s_PatternReader_can_hold) (defBody s_PatternReader_can_hold) (defScope s_PatternReader_can_hold) .none kV12 dc12 pm12 an12 cd12 ct12), sl12⟩)
    (c12 : PySem.W.codeIn K cd12 "PatternReader.can_hold" = true) (k12 : PySem.W.keepIn K (.ref f12) = true)
    {f13 : Addr} {od13 an13 : Option Addr} {sl13 : Array (Option Value)} {oc13 dc13 pm13 cd13 ct13 : Value}
    {kV13 : Value}
    (a13 : PySem.W.findIn K (.ref C_PatternReader) "closed" = some (some (.ref f13))) (i13 : PySem.W.isFn K (.ref f13) = true)
    (l13 : K.lookup f13 = some ⟨oc13, od13, .func (PySem.W.fnOf "closed" "PatternReader.closed" (defArgs s_PatternReader_closed) (defBody s_PatternReader_closed) (defScope s_PatternReader_closed) .none kV13 dc13 pm13 an13 cd13 ct13), sl13⟩)
    (c13 : PySem.W.codeIn K cd13 "PatternReader.closed" = true) (k13 : PySem.W.keepIn K (.ref f13) = true)
    {f14 : Addr} {od14 an14 : Option Addr} {sl14 : Array (Option Value)} {oc14 dc14 pm14 cd14 ct14 : Value}
    {kV14 : Value}
    (a14 : PySem.W.findIn K (.ref C_PatternReader) "whole" = some (some (.ref f14))) (i14 : PySem.W.isFn K (.ref f14) = true)
    (l14 : K.lookup f14 = some ⟨oc14, od14, .func (PySem.W.fnOf "whole" "Nested.whole" (defArgs s_PatternReader_whole) (defBody s_PatternReader_whole) (defScope s_PatternReader_whole) .none kV14 dc14 pm14 an14 cd14 ct14), sl14⟩)
    (c14 : PySem.W.codeIn K cd14 "Nested.whole" = true) (k14 : PySem.W.keepIn K (.ref f14) = true)
    {f15 : Addr} {od15 an15 : Option Addr} {sl15 : Array (Option Value)} {oc15 dc15 pm15 cd15 ct15 : Value}
    {kV15 : Value}
    (a15 : PySem.W.findIn K (.ref C_PatternReader) "__init__" = some (some (.ref f15))) (i15 : PySem.W.isFn K (.ref f15) = true)
    (l15 : K.lookup f15 = some ⟨oc15, od15, .func (PySem.W.fnOf "__init__" "Scanner.__init__" (defArgs s_PatternReader___init__) (defBody s_PatternReader___init__) (defScope s_PatternReader___init__) .none kV15 dc15 pm15 an15 cd15 ct15), sl15⟩)
    (c15 : PySem.W.codeIn K cd15 "Scanner.__init__" = true) (k15 : PySem.W.keepIn K (.ref f15) = true)
    {f16 : Addr} {od16 an16 : Option Addr} {sl16 : Array (Option Value)} {oc16 dc16 pm16 cd16 ct16 : Value}
    {kV16 : Value}
    (a16 : PySem.W.findIn K (.ref C_PatternReader) "finish" = some (some (.ref f16))) (i16 : PySem.W.isFn K (.ref f16) = true)
    (l16 : K.lookup f16 = some ⟨oc16, od16, .func (PySem.W.fnOf "finish" "Scanner.finish" (defArgs s_PatternReader_finish) (defBody s_PatternReader_finish) (defScope s_PatternReader_finish) .none kV16 dc16 pm16 an16 cd16 ct16), sl16⟩)
    (c16 : PySem.W.codeIn K cd16 "Scanner.finish" = true) (k16 : PySem.W.keepIn K (.ref f16) = true)
    {f17 : Addr} {od17 an17 : Option Addr} {sl17 : Array (Option Value)} {oc17 dc17 pm17 cd17 ct17 : Value}
    {D17 : Addr} {t17_line t17_field : Tok}
    (a17 : PySem.W.nsIn K mainGlobals "pattern_read" = some (some (.ref f17)))
    (l17 : K.lookup f17 = some ⟨oc17, od17, .func (PySem.W.fnOf "pattern_read" "pattern_read" (defArgs s_pattern_read) (defBody s_pattern_read) (defScope s_pattern_read) .none (.ref D17) dc17 pm17 an17 cd17 ct17), sl17⟩)
    (c17 : PySem.W.codeIn K cd17 "pattern_read" = true) (k17 : PySem.W.keepIn K (.ref f17) = true)
    (w17_line : PySem.W.nsIn K D17 "line" = some (some (.int 0 t17_line)))
    (w17_field : PySem.W.nsIn K D17 "field" = some (some (.int 0 t17_field)))
    {f18 : Addr} {od18 an18 : Option Addr} {sl18 : Array (Option Value)} {oc18 dc18 pm18 cd18 ct18 : Value}
    {D18 : Addr} {t18_line t18_field : Tok}
    (a18 : PySem.W.nsIn K mainGlobals "rule_read" = some (some (.ref f18)))
    (l18 : K.lookup f18 = some ⟨oc18, od18, .func (PySem.W.fnOf "rule_read" "rule_read" (defArgs s_rule_read) (defBody s_rule_read) (defScope s_rule_read) .none (.ref D18) dc18 pm18 an18 cd18 ct18), sl18⟩)
    (c18 : PySem.W.codeIn K cd18 "rule_read" = true) (k18 : PySem.W.keepIn K (.ref f18) = true)
    (w18_line : PySem.W.nsIn K D18 "line" = some (some (.int 0 t18_line)))
    (w18_field : PySem.W.nsIn K D18 "field" = some (some (.int 0 t18_field)))
    {f19 : Addr} {od19 an19 : Option Addr} {sl19 : Array (Option Value)} {oc19 dc19 pm19 cd19 ct19 : Value}
    {kV19 : Value}
    (a19 : PySem.W.nsIn K mainGlobals "_law_feed" = some (some (.ref f19)))
    (l19 : K.lookup f19 = some ⟨oc19, od19, .func (PySem.W.fnOf "_law_feed" "_law_feed" (defArgs s__law_feed) (defBody s__law_feed) (defScope s__law_feed) .none kV19 dc19 pm19 an19 cd19 ct19), sl19⟩)
    (c19 : PySem.W.codeIn K cd19 "_law_feed" = true) (k19 : PySem.W.keepIn K (.ref f19) = true)
    {f20 : Addr} {od20 an20 : Option Addr} {sl20 : Array (Option Value)} {oc20 dc20 pm20 cd20 ct20 : Value}
    {kV20 : Value}
    (a20 : PySem.W.nsIn K mainGlobals "_law_draw" = some (some (.ref f20)))
    (l20 : K.lookup f20 = some ⟨oc20, od20, .func (PySem.W.fnOf "_law_draw" "_law_draw" (defArgs s__law_draw) (defBody s__law_draw) (defScope s__law_draw) .none kV20 dc20 pm20 an20 cd20 ct20), sl20⟩)
    (c20 : PySem.W.codeIn K cd20 "_law_draw" = true) (k20 : PySem.W.keepIn K (.ref f20) = true)
    {f21 : Addr} {od21 an21 : Option Addr} {sl21 : Array (Option Value)} {oc21 dc21 pm21 cd21 ct21 : Value}
    {kV21 : Value}
    (a21 : PySem.W.nsIn K mainGlobals "_law_choice" = some (some (.ref f21)))
    (l21 : K.lookup f21 = some ⟨oc21, od21, .func (PySem.W.fnOf "_law_choice" "_law_choice" (defArgs s__law_choice) (defBody s__law_choice) (defScope s__law_choice) .none kV21 dc21 pm21 an21 cd21 ct21), sl21⟩)
    (c21 : PySem.W.codeIn K cd21 "_law_choice" = true) (k21 : PySem.W.keepIn K (.ref f21) = true)
    {f22 : Addr} {od22 an22 : Option Addr} {sl22 : Array (Option Value)} {oc22 dc22 pm22 cd22 ct22 : Value}
    {kV22 : Value}
    (a22 : PySem.W.nsIn K mainGlobals "_law_text" = some (some (.ref f22)))
    (l22 : K.lookup f22 = some ⟨oc22, od22, .func (PySem.W.fnOf "_law_text" "_law_text" (defArgs s__law_text) (defBody s__law_text) (defScope s__law_text) .none kV22 dc22 pm22 an22 cd22 ct22), sl22⟩)
    (c22 : PySem.W.codeIn K cd22 "_law_text" = true) (k22 : PySem.W.keepIn K (.ref f22) = true)
    {f23 : Addr} {od23 an23 : Option Addr} {sl23 : Array (Option Value)} {oc23 dc23 pm23 cd23 ct23 : Value}
    {kV23 : Value}
    (a23 : PySem.W.nsIn K mainGlobals "_law_free" = some (some (.ref f23)))
    (l23 : K.lookup f23 = some ⟨oc23, od23, .func (PySem.W.fnOf "_law_free" "_law_free" (defArgs s__law_free) (defBody s__law_free) (defScope s__law_free) .none kV23 dc23 pm23 an23 cd23 ct23), sl23⟩)
    (c23 : PySem.W.codeIn K cd23 "_law_free" = true) (k23 : PySem.W.keepIn K (.ref f23) = true)
    {f24 : Addr} {od24 an24 : Option Addr} {sl24 : Array (Option Value)} {oc24 dc24 pm24 cd24 ct24 : Value}
    {kV24 : Value}
    (a24 : PySem.W.nsIn K mainGlobals "_law_pattern_right" = some (some (.ref f24)))
    (l24 : K.lookup f24 = some ⟨oc24, od24, .func (PySem.W.fnOf "_law_pattern_right" "_law_pattern_right" (defArgs s__law_pattern_right) (defBody s__law_pattern_right) (defScope s__law_pattern_right) .none kV24 dc24 pm24 an24 cd24 ct24), sl24⟩)
    (c24 : PySem.W.codeIn K cd24 "_law_pattern_right" = true) (k24 : PySem.W.keepIn K (.ref f24) = true)
    {f25 : Addr} {od25 an25 : Option Addr} {sl25 : Array (Option Value)} {oc25 dc25 pm25 cd25 ct25 : Value}
    {kV25 : Value}
    (a25 : PySem.W.nsIn K mainGlobals "_law_rule_right" = some (some (.ref f25)))
    (l25 : K.lookup f25 = some ⟨oc25, od25, .func (PySem.W.fnOf "_law_rule_right" "_law_rule_right" (defArgs s__law_rule_right) (defBody s__law_rule_right) (defScope s__law_rule_right) .none kV25 dc25 pm25 an25 cd25 ct25), sl25⟩)
    (c25 : PySem.W.codeIn K cd25 "_law_rule_right" = true) (k25 : PySem.W.keepIn K (.ref f25) = true)
    {f26 : Addr} {od26 an26 : Option Addr} {sl26 : Array (Option Value)} {oc26 dc26 pm26 cd26 ct26 : Value}
    {kV26 : Value}
    (a26 : PySem.W.nsIn K mainGlobals "law" = some (some (.ref f26)))
    (l26 : K.lookup f26 = some ⟨oc26, od26, .func (PySem.W.fnOf "law" "law" (defArgs s_law) (defBody s_law) (defScope s_law) .none kV26 dc26 pm26 an26 cd26 ct26), sl26⟩)
    (c26 : PySem.W.codeIn K cd26 "law" = true) (k26 : PySem.W.keepIn K (.ref f26) = true)
    (z_all : PySem.W.nsIn K mainGlobals "all" = some none)
    (z_enumerate : PySem.W.nsIn K mainGlobals "enumerate" = some none)
    (z_int : PySem.W.nsIn K mainGlobals "int" = some none)
    (z_isinstance : PySem.W.nsIn K mainGlobals "isinstance" = some none)
    (z_len : PySem.W.nsIn K mainGlobals "len" = some none)
    (z_list : PySem.W.nsIn K mainGlobals "list" = some none)
    (z_range : PySem.W.nsIn K mainGlobals "range" = some none)
    (z_repr : PySem.W.nsIn K mainGlobals "repr" = some none)
    (z_str : PySem.W.nsIn K mainGlobals "str" = some none)
    (z_tuple : PySem.W.nsIn K mainGlobals "tuple" = some none)
    {t_LETTERS : Tok} (y_LETTERS : PySem.W.nsIn K mainGlobals "LETTERS" = some (some (.str "abcdefghijklmnopqrstuvwxyz" t_LETTERS)))
    {t_LONGEST_NAME : Tok} (y_LONGEST_NAME : PySem.W.nsIn K mainGlobals "LONGEST_NAME" = some (some (.int 8 t_LONGEST_NAME)))
    {t_MARK : Tok} (y_MARK : PySem.W.nsIn K mainGlobals "MARK" = some (some (.str "?" t_MARK)))
    {t_ARROW : Tok} (y_ARROW : PySem.W.nsIn K mainGlobals "ARROW" = some (some (.str " -> " t_ARROW)))
    {t_BEGIN : Tok} (y_BEGIN : PySem.W.nsIn K mainGlobals "BEGIN" = some (some (.str "(" t_BEGIN)))
    {t_END : Tok} (y_END : PySem.W.nsIn K mainGlobals "END" = some (some (.str ")" t_END)))
    {t_COMMA : Tok} (y_COMMA : PySem.W.nsIn K mainGlobals "COMMA" = some (some (.str "," t_COMMA)))
    {t_SPACE : Tok} (y_SPACE : PySem.W.nsIn K mainGlobals "SPACE" = some (some (.str " " t_SPACE)))
    {t_MOST_OPEN : Tok} (y_MOST_OPEN : PySem.W.nsIn K mainGlobals "MOST_OPEN" = some (some (.int 30 t_MOST_OPEN)))
    : ∃ fd : FuncData, (∀ (s : Shared) (v : Value), BindsTo s fd ⟨[v], []⟩ [("_law_script", v)]) ∧ ∀ base : Heap, K.In base → base.Ns mainGlobals mg → FnG l.prog w K mg base 45 fa fd ["_law_script"] F_law := by
  have e := hfa.symm.trans (PySem.W.mg_of X G a26)
  cases e
  have main : ∀ T : Tx K mg, T.d_law.f = fa → T.d_law.fd = PySem.W.fnOf "law" "law" (defArgs s_law) (defBody s_law) (defScope s_law) .none kV26 dc26 pm26 an26 cd26 ct26 → ∃ fd : FuncData, (∀ (s : Shared) (v : Value), BindsTo s fd ⟨[v], []⟩ [("_law_script", v)]) ∧ ∀ base : Heap, K.In base → base.Ns mainGlobals mg → FnG l.prog w K mg base 45 fa fd ["_law_script"] F_law := by
    intro T e1 e2
    refine ⟨T.d_law.fd, fun s v => ?_, fun base _ _ => ?_⟩
    · rw [e2]; exact .of_eq rfl
    · rw [← e1]; exact (G_law T).fn
  exact main {
    k_PatternReader := ⟨C_PatternReader, aC_PatternReader, PySem.W.mg_of X G aC_PatternReader, ⟨pg_PatternReader, hd_PatternReader, po_PatternReader, sa_PatternReader⟩⟩
    d_is_name := defAt_mk X G a0 l0 c0 k0 fun _ _ _ _ _ _ us hl => match us, hl with | [_], _ => rfl
    d_is_variable := defAt_mk X G a1 l1 c1 k1 fun _ _ _ _ _ _ us hl => match us, hl with | [_], _ => rfl
    d_pattern_text := defAt_mk X G a2 l2 c2 k2 fun _ _ _ _ _ _ us hl => match us, hl with | [_], _ => rfl
    d_rule_text := defAt_mk X G a3 l3 c3 k3 fun _ _ _ _ _ _ us hl => match us, hl with | [_], _ => rfl
    d_words_in := defAt_mk X G a4 l4 c4 k4 fun _ _ _ _ _ _ us hl => match us, hl with | [_], _ => rfl
    m_PatternReader_refuse := ⟨f5, _, fun_mk l5 c5 k5, ⟨a5, i5, k5⟩, (fun_mk l5 c5 k5).binds fun _ _ _ _ _ _ us hl => match us, hl with | [_, _], _ => rfl⟩
    m_PatternReader_index_now := ⟨f6, _, fun_mk l6 c6 k6, ⟨a6, i6, k6⟩, (fun_mk l6 c6 k6).binds fun _ _ _ _ _ _ us hl => match us, hl with | [_], _ => rfl⟩
    m_PatternReader_require := ⟨f7, _, fun_mk l7 c7 k7, ⟨a7, i7, k7⟩, (fun_mk l7 c7 k7).binds fun _ _ _ _ _ _ us hl => match us, hl with | [_, _], _ => rfl⟩
    m_PatternReader_present := ⟨f8, _, fun_mk l8 c8 k8, ⟨a8, i8, k8⟩, (fun_mk l8 c8 k8).binds fun _ _ _ _ _ _ us hl => match us, hl with | [_], _ => rfl⟩
    m_PatternReader_take := ⟨f9, _, fun_mk l9 c9 k9, ⟨a9, i9, k9⟩, (fun_mk l9 c9 k9).binds fun _ _ _ _ _ _ us hl => match us, hl with | [_, _], _ => rfl⟩
    m_PatternReader_name := ⟨f10, _, fun_mk l10 c10 k10, ⟨a10, i10, k10⟩, (fun_mk l10 c10 k10).binds fun _ _ _ _ _ _ us hl => match us, hl with | [_], _ => rfl⟩
    m_PatternReader_opening := ⟨f11, _, fun_mk l11 c11 k11, ⟨a11, i11, k11⟩, (fun_mk l11 c11 k11).binds fun _ _ _ _ _ _ us hl => match us, hl with | [_], _ => rfl⟩
    m_PatternReader_can_hold := ⟨f12, _, fun_mk l12 c12 k12, ⟨a12, i12, k12⟩, (fun_mk l12 c12 k12).binds fun _ _ _ _ _ _ us hl => match us, hl with | [_, _], _ => rfl⟩
    m_PatternReader_closed := ⟨f13, _, fun_mk l13 c13 k13, ⟨a13, i13, k13⟩, (fun_mk l13 c13 k13).binds fun _ _ _ _ _ _ us hl => match us, hl with | [_, _, _], _ => rfl⟩
    m_PatternReader_whole := ⟨f14, _, fun_mk l14 c14 k14, ⟨a14, i14, k14⟩, (fun_mk l14 c14 k14).binds fun _ _ _ _ _ _ us hl => match us, hl with | [_], _ => rfl⟩
    m_PatternReader___init__ := ⟨f15, _, fun_mk l15 c15 k15, ⟨a15, i15, k15⟩, (fun_mk l15 c15 k15).binds fun _ _ _ _ _ _ us hl => match us, hl with | [_, _, _, _], _ => rfl⟩
    m_PatternReader_finish := ⟨f16, _, fun_mk l16 c16 k16, ⟨a16, i16, k16⟩, (fun_mk l16 c16 k16).binds fun _ _ _ _ _ _ us hl => match us, hl with | [_], _ => rfl⟩
    d_pattern_read := ⟨f17, _, fun_mk l17 c17 k17, PySem.W.mg_of X G a17⟩
    d_rule_read := ⟨f18, _, fun_mk l18 c18 k18, PySem.W.mg_of X G a18⟩
    d__law_feed := defAt_mk X G a19 l19 c19 k19 fun _ _ _ _ _ _ us hl => match us, hl with | [_], _ => rfl
    d__law_draw := defAt_mk X G a20 l20 c20 k20 fun _ _ _ _ _ _ us hl => match us, hl with | [_, _], _ => rfl
    d__law_choice := defAt_mk X G a21 l21 c21 k21 fun _ _ _ _ _ _ us hl => match us, hl with | [_, _], _ => rfl
    d__law_text := defAt_mk X G a22 l22 c22 k22 fun _ _ _ _ _ _ us hl => match us, hl with | [_], _ => rfl
    d__law_free := defAt_mk X G a23 l23 c23 k23 fun _ _ _ _ _ _ us hl => match us, hl with | [_, _], _ => rfl
    d__law_pattern_right := defAt_mk X G a24 l24 c24 k24 fun _ _ _ _ _ _ us hl => match us, hl with | [_], _ => rfl
    d__law_rule_right := defAt_mk X G a25 l25 c25 k25 fun _ _ _ _ _ _ us hl => match us, hl with | [_, _, _], _ => rfl
    d_law := defAt_mk X G a26 l26 c26 k26 fun _ _ _ _ _ _ us hl => match us, hl with | [_], _ => rfl
    nf_PatternReader_line := nf_PatternReader_line
    nf_PatternReader_field := nf_PatternReader_field
    nf_PatternReader_words := nf_PatternReader_words
    nf_PatternReader_length := nf_PatternReader_length
    nf_PatternReader_line_held := nf_PatternReader_line_held
    nf_PatternReader_first_field := nf_PatternReader_first_field
    nf_PatternReader_spot := nf_PatternReader_spot
    mk_PatternReader := ⟨mk_PatternReader, a15, i15, kc_PatternReader⟩
    kb_pattern_text_0_pattern := kbD_plain [(1, 0)] fun us ws h1 h2 => match us, ws, h1, h2 with | [], [_], _, _ => rfl
    kb_pattern_read_1_line_field := kbD_kw (ms := []) [(0, 0), (1, 0), (1, 1)] (funD_mk (kws := [("line", .int 0), ("field", .int 0)]) l17 c17 k17 (fun q hq => by simp only [List.mem_cons, List.not_mem_nil, or_false] at hq; rcases hq with rfl | rfl <;> first | exact ⟨_, w17_line, ⟨_, rfl⟩⟩ | exact ⟨_, w17_field, ⟨_, rfl⟩⟩)) (by simp) (by decide) (fun _ => .nil) fun D doc pm an cdv ct us mv ws h1 h2 h3 => match us, mv, ws, h1, h2, h3 with | [_], [], [_, _], _, _, _ => rfl
    kb_pattern_read_0_text := kbD_kw (ms := [("line", .int 0), ("field", .int 0)]) [(1, 0), (2, 0), (2, 1)] (funD_mk (kws := [("line", .int 0), ("field", .int 0)]) l17 c17 k17 (fun q hq => by simp only [List.mem_cons, List.not_mem_nil, or_false] at hq; rcases hq with rfl | rfl <;> first | exact ⟨_, w17_line, ⟨_, rfl⟩⟩ | exact ⟨_, w17_field, ⟨_, rfl⟩⟩)) (by simp) (by decide) (fun _ => (.cons (.int _) (.cons (.int _) .nil))) fun D doc pm an cdv ct us mv ws h1 h2 h3 => match us, mv, ws, h1, h2, h3 with | [], [_, _], [_], _, _, _ => ⟨_, _, _, _, _, _, rfl, rfl, ⟨_, _, _, _, _, _, rfl, rfl, rfl⟩⟩
    kb_pattern_read_1_ := kbD_kw (ms := [("line", .int 0), ("field", .int 0)]) [(0, 0), (2, 0), (2, 1)] (funD_mk (kws := [("line", .int 0), ("field", .int 0)]) l17 c17 k17 (fun q hq => by simp only [List.mem_cons, List.not_mem_nil, or_false] at hq; rcases hq with rfl | rfl <;> first | exact ⟨_, w17_line, ⟨_, rfl⟩⟩ | exact ⟨_, w17_field, ⟨_, rfl⟩⟩)) (by simp) (by decide) (fun _ => (.cons (.int _) (.cons (.int _) .nil))) fun D doc pm an cdv ct us mv ws h1 h2 h3 => match us, mv, ws, h1, h2, h3 with | [_], [_, _], [], _, _, _ => ⟨_, _, _, _, _, _, rfl, rfl, ⟨_, _, _, _, _, _, rfl, rfl, rfl⟩⟩
    kb_pattern_read_1_field := kbD_kw (ms := [("line", .int 0)]) [(0, 0), (2, 0), (1, 0)] (funD_mk (kws := [("line", .int 0), ("field", .int 0)]) l17 c17 k17 (fun q hq => by simp only [List.mem_cons, List.not_mem_nil, or_false] at hq; rcases hq with rfl | rfl <;> first | exact ⟨_, w17_line, ⟨_, rfl⟩⟩ | exact ⟨_, w17_field, ⟨_, rfl⟩⟩)) (by simp) (by decide) (fun _ => (.cons (.int _) .nil)) fun D doc pm an cdv ct us mv ws h1 h2 h3 => match us, mv, ws, h1, h2, h3 with | [_], [_], [_], _, _, _ => ⟨_, _, _, _, _, _, rfl, rfl, rfl⟩
    kb_rule_text_0_rule := kbD_plain [(1, 0)] fun us ws h1 h2 => match us, ws, h1, h2 with | [], [_], _, _ => rfl
    kb_rule_read_1_line := kbD_kw (ms := [("field", .int 0)]) [(0, 0), (1, 0), (2, 0)] (funD_mk (kws := [("line", .int 0), ("field", .int 0)]) l18 c18 k18 (fun q hq => by simp only [List.mem_cons, List.not_mem_nil, or_false] at hq; rcases hq with rfl | rfl <;> first | exact ⟨_, w18_line, ⟨_, rfl⟩⟩ | exact ⟨_, w18_field, ⟨_, rfl⟩⟩)) (by simp) (by decide) (fun _ => (.cons (.int _) .nil)) fun D doc pm an cdv ct us mv ws h1 h2 h3 => match us, mv, ws, h1, h2, h3 with | [_], [_], [_], _, _, _ => ⟨_, _, _, _, _, _, rfl, rfl, rfl⟩
    kb_rule_read_1_line_field := kbD_kw (ms := []) [(0, 0), (1, 0), (1, 1)] (funD_mk (kws := [("line", .int 0), ("field", .int 0)]) l18 c18 k18 (fun q hq => by simp only [List.mem_cons, List.not_mem_nil, or_false] at hq; rcases hq with rfl | rfl <;> first | exact ⟨_, w18_line, ⟨_, rfl⟩⟩ | exact ⟨_, w18_field, ⟨_, rfl⟩⟩)) (by simp) (by decide) (fun _ => .nil) fun D doc pm an cdv ct us mv ws h1 h2 h3 => match us, mv, ws, h1, h2, h3 with | [_], [], [_, _], _, _, _ => rfl
    kb_rule_read_0_text := kbD_kw (ms := [("line", .int 0), ("field", .int 0)]) [(1, 0), (2, 0), (2, 1)] (funD_mk (kws := [("line", .int 0), ("field", .int 0)]) l18 c18 k18 (fun q hq => by simp only [List.mem_cons, List.not_mem_nil, or_false] at hq; rcases hq with rfl | rfl <;> first | exact ⟨_, w18_line, ⟨_, rfl⟩⟩ | exact ⟨_, w18_field, ⟨_, rfl⟩⟩)) (by simp) (by decide) (fun _ => (.cons (.int _) (.cons (.int _) .nil))) fun D doc pm an cdv ct us mv ws h1 h2 h3 => match us, mv, ws, h1, h2, h3 with | [], [_, _], [_], _, _, _ => ⟨_, _, _, _, _, _, rfl, rfl, ⟨_, _, _, _, _, _, rfl, rfl, rfl⟩⟩
    kb_rule_read_1_ := kbD_kw (ms := [("line", .int 0), ("field", .int 0)]) [(0, 0), (2, 0), (2, 1)] (funD_mk (kws := [("line", .int 0), ("field", .int 0)]) l18 c18 k18 (fun q hq => by simp only [List.mem_cons, List.not_mem_nil, or_false] at hq; rcases hq with rfl | rfl <;> first | exact ⟨_, w18_line, ⟨_, rfl⟩⟩ | exact ⟨_, w18_field, ⟨_, rfl⟩⟩)) (by simp) (by decide) (fun _ => (.cons (.int _) (.cons (.int _) .nil))) fun D doc pm an cdv ct us mv ws h1 h2 h3 => match us, mv, ws, h1, h2, h3 with | [_], [_, _], [], _, _, _ => ⟨_, _, _, _, _, _, rfl, rfl, ⟨_, _, _, _, _, _, rfl, rfl, rfl⟩⟩
    b_all := PySem.W.mg_none_of X G z_all
    b_enumerate := PySem.W.mg_none_of X G z_enumerate
    b_int := PySem.W.mg_none_of X G z_int
    b_isinstance := PySem.W.mg_none_of X G z_isinstance
    b_len := PySem.W.mg_none_of X G z_len
    b_list := PySem.W.mg_none_of X G z_list
    b_range := PySem.W.mg_none_of X G z_range
    b_repr := PySem.W.mg_none_of X G z_repr
    b_str := PySem.W.mg_none_of X G z_str
    b_tuple := PySem.W.mg_none_of X G z_tuple
    c_LETTERS := ⟨_, PySem.W.mg_of X G y_LETTERS⟩
    c_LONGEST_NAME := ⟨_, PySem.W.mg_of X G y_LONGEST_NAME⟩
    c_MARK := ⟨_, PySem.W.mg_of X G y_MARK⟩
    c_ARROW := ⟨_, PySem.W.mg_of X G y_ARROW⟩
    c_BEGIN := ⟨_, PySem.W.mg_of X G y_BEGIN⟩
    c_END := ⟨_, PySem.W.mg_of X G y_END⟩
    c_COMMA := ⟨_, PySem.W.mg_of X G y_COMMA⟩
    c_SPACE := ⟨_, PySem.W.mg_of X G y_SPACE⟩
    c_MOST_OPEN := ⟨_, PySem.W.mg_of X G y_MOST_OPEN⟩
  } rfl rfl
end Tk
open PySem PySem.W PyProof.Rows
set_option maxRecDepth 100000 in
set_option maxHeartbeats 0 in
theorem PySem.Challenge.cw_tidyrules_k18_patterns_written_holds : PySem.Challenge.rw_tidyrules_k18_patterns_written.Holds := by
  w_on; o_law; k_head; (case hw => w_witness2)
  k_fill
  refine Td.walkG (l := PySem.Challenge.rw_tidyrules_k18_patterns_written) (n := 63) (k := 45) (x := "_law_script") (gf := Tk.F_law) rfl (by decide) rfl ⟨rfl, by decide, by decide⟩ (fun w h Y => PySem.W.kIn_of Y) ?F Tk.main
  case F =>
    intro w mg fa h KX G hmg
    refine' Tk.all_mk KX G hmg ?aC_PatternReader ?pg_PatternReader ?hd_PatternReader ?po_PatternReader ?sa_PatternReader ?mk_PatternReader ?kc_PatternReader ?nf_PatternReader_line ?nf_PatternReader_field ?nf_PatternReader_words ?nf_PatternReader_length ?nf_PatternReader_line_held ?nf_PatternReader_first_field ?nf_PatternReader_spot ?a0 ?l0 ?c0 ?k0 ?a1 ?l1 ?c1 ?k1 ?a2 ?l2 ?c2 ?k2 ?a3 ?l3 ?c3 ?k3 ?a4 ?l4 ?c4 ?k4 ?a5 ?i5 ?l5 ?c5 ?k5 ?a6 ?i6 ?l6 ?c6 ?k6 ?a7 ?i7 ?l7 ?c7 ?k7 ?a8 ?i8 ?l8 ?c8 ?k8 ?a9 ?i9 ?l9 ?c9 ?k9 ?a10 ?i10 ?l10 ?c10 ?k10 ?a11 ?i11 ?l11 ?c11 ?k11 ?a12 ?i12 ?l12 ?c12 ?k12 ?a13 ?i13 ?l13 ?c13 ?k13 ?a14 ?i14 ?l14 ?c14 ?k14 ?a15 ?i15 ?l15 ?c15 ?k15 ?a16 ?i16 ?l16 ?c16 ?k16 ?a17 ?l17 ?c17 ?k17 ?w17_line ?w17_field ?a18 ?l18 ?c18 ?k18 ?w18_line ?w18_field ?a19 ?l19 ?c19 ?k19 ?a20 ?l20 ?c20 ?k20 ?a21 ?l21 ?c21 ?k21 ?a22 ?l22 ?c22 ?k22 ?a23 ?l23 ?c23 ?k23 ?a24 ?l24 ?c24 ?k24 ?a25 ?l25 ?c25 ?k25 ?a26 ?l26 ?c26 ?k26 ?z_all ?z_enumerate ?z_int ?z_isinstance ?z_len ?z_list ?z_range ?z_repr ?z_str ?z_tuple ?y_LETTERS ?y_LONGEST_NAME ?y_MARK ?y_ARROW ?y_BEGIN ?y_END ?y_COMMA ?y_SPACE ?y_MOST_OPEN
    (case aC_PatternReader => k_is)
    (case pg_PatternReader => k_is)
    (case hd_PatternReader => k_is)
    (case po_PatternReader => k_is)
    (case sa_PatternReader => k_is)
    (case mk_PatternReader => k_is)
    (case kc_PatternReader => k_is)
    (case nf_PatternReader_line => k_is)
    (case nf_PatternReader_field => k_is)
    (case nf_PatternReader_words => k_is)
    (case nf_PatternReader_length => k_is)
    (case nf_PatternReader_line_held => k_is)
    (case nf_PatternReader_first_field => k_is)
    (case nf_PatternReader_spot => k_is)
    (case a0 => k_is)
    (case l0 => k_is)
    (case c0 => k_is)
    (case k0 => k_is)
    (case a1 => k_is)
    (case l1 => k_is)
    (case c1 => k_is)
    (case k1 => k_is)
    (case a2 => k_is)
    (case l2 => k_is)
    (case c2 => k_is)
    (case k2 => k_is)
    (case a3 => k_is)
    (case l3 => k_is)
    (case c3 => k_is)
    (case k3 => k_is)
    (case a4 => k_is)
    (case l4 => k_is)
    (case c4 => k_is)
    (case k4 => k_is)
    (case a5 => k_is)
    (case i5 => k_is)
    (case l5 => k_is)
    (case c5 => k_is)
    (case k5 => k_is)
    (case a6 => k_is)
    (case i6 => k_is)
    (case l6 => k_is)
    (case c6 => k_is)
    (case k6 => k_is)
    (case a7 => k_is)
    (case i7 => k_is)
    (case l7 => k_is)
    (case c7 => k_is)
    (case k7 => k_is)
    (case a8 => k_is)
    (case i8 => k_is)
    (case l8 => k_is)
    (case c8 => k_is)
    (case k8 => k_is)
    (case a9 => k_is)
    (case i9 => k_is)
    (case l9 => k_is)
    (case c9 => k_is)
    (case k9 => k_is)
    (case a10 => k_is)
    (case i10 => k_is)
    (case l10 => k_is)
    (case c10 => k_is)
    (case k10 => k_is)
    (case a11 => k_is)
    (case i11 => k_is)
    (case l11 => k_is)
    (case c11 => k_is)
    (case k11 => k_is)
    (case a12 => k_is)
    (case i12 => k_is)
    (case l12 => k_is)
    (case c12 => k_is)
    (case k12 => k_is)
    (case a13 => k_is)
    (case i13 => k_is)
    (case l13 => k_is)
    (case c13 => k_is)
    (case k13 => k_is)
    (case a14 => k_is)
    (case i14 => k_is)
    (case l14 => k_is)
    (case c14 => k_is)
    (case k14 => k_is)
    (case a15 => k_is)
    (case i15 => k_is)
    (case l15 => k_is)
    (case c15 => k_is)
    (case k15 => k_is)
    (case a16 => k_is)
    (case i16 => k_is)
    (case l16 => k_is)
    (case c16 => k_is)
    (case k16 => k_is)
    (case a17 => k_is)
    (case l17 => k_is)
    (case c17 => k_is)
    (case k17 => k_is)
    (case w17_line => k_is)
    (case w17_field => k_is)
    (case a18 => k_is)
    (case l18 => k_is)
    (case c18 => k_is)
    (case k18 => k_is)
    (case w18_line => k_is)
    (case w18_field => k_is)
    (case a19 => k_is)
    (case l19 => k_is)
    (case c19 => k_is)
    (case k19 => k_is)
    (case a20 => k_is)
    (case l20 => k_is)
    (case c20 => k_is)
    (case k20 => k_is)
    (case a21 => k_is)
    (case l21 => k_is)
    (case c21 => k_is)
    (case k21 => k_is)
    (case a22 => k_is)
    (case l22 => k_is)
    (case c22 => k_is)
    (case k22 => k_is)
    (case a23 => k_is)
    (case l23 => k_is)
    (case c23 => k_is)
    (case k23 => k_is)
    (case a24 => k_is)
    (case l24 => k_is)
    (case c24 => k_is)
    (case k24 => k_is)
    (case a25 => k_is)
    (case l25 => k_is)
    (case c25 => k_is)
    (case k25 => k_is)
    (case a26 => k_is)
    (case l26 => k_is)
    (case c26 => k_is)
    (case k26 => k_is)
    (case z_all => k_is)
    (case z_enumerate => k_is)
    (case z_int => k_is)
    (case z_isinstance => k_is)
    (case z_len => k_is)
    (case z_list => k_is)
    (case z_range => k_is)
    (case z_repr => k_is)
    (case z_str => k_is)
    (case z_tuple => k_is)
    (case y_LETTERS => k_is)
    (case y_LONGEST_NAME => k_is)
    (case y_MARK => k_is)
    (case y_ARROW => k_is)
    (case y_BEGIN => k_is)
    (case y_END => k_is)
    (case y_COMMA => k_is)
    (case y_SPACE => k_is)
    (case y_MOST_OPEN => k_is)

