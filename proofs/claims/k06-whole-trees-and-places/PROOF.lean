import PyProof.Rows.All
import Wide.All
import OpenK.AllK
import Wide.FinOn
import HandS.ForMost
import HandS.ForExc
import HandS.TupAny
import HandS.TupMul
import HandS.Deep
import HandS.IsInst
import HandS.Walk
import HandS.Zip
import HandS.SetFor
import PyProof.Rows.SortStr
import PyProof.Rows.SortShellAny
import HandS.Strs
import HandS.Style
import PyProof.NeKinds
import HandS.FStr
import HandS.RaiseMore
import HandS.Defaults
import HandS.MakeKwOnly
import PyProof.Draws
import PyProof.EnumMake
import PyProof.Rows.ListMulArg
import KE.GoesMore
import HandS.Iter
import HandS.Star
import HandS.SetKeys
import HandS.More
import PyProof.AutoSeq1
import HandS.GenList
import HandS.SetBool
import HandS.List
import PySem.Challenge.RW_tidyrules_k06_whole_trees_and_places
set_option Elab.async false
set_option linter.all false
set_option maxRecDepth 100000
set_option maxHeartbeats 4000000
/-! Td: readings as functions over data (PyData) and a store of objects that change. -/
namespace Td
open PySem L2

/-- the store's object l, as a datum -/
abbrev rf (l : Nat) : PyData := .dict [(.int (l : Int), .none)]

/-- frozen heap F, what others hold and change P, addresses of the store μ, its size n -/
structure Gd where
  K : PySem.W.Frag
  F : Hp
  P : Hp
  μ : Nat → Addr
  n : Nat

mutual
inductive Dq (g : Gd) : V → PyData → Prop
  | non : Dq g .non .none
  | bl (b : Bool) : Dq g (.bl b) (.bool b)
  | int (i : Int) : Dq g (.int i) (.int i)
  | str (x : Str) : Dq g (.str x) (.str x)
  | lst {a : Addr} {xs : List V} {ds : List PyData} : SqL g.K g.F a xs → DqA g xs ds → Dq g (.ref a) (.list ds)
  | tup {a : Addr} {xs : List V} {ds : List PyData} : SqT g.K g.F a xs → DqA g xs ds → Dq g (.ref a) (.tuple ds)
  | ref {l : Nat} : l < g.n → Dq g (.ref (g.μ l)) (rf l)
inductive DqA (g : Gd) : List V → List PyData → Prop
  | nil : DqA g [] []
  | cons {v : V} {vs : List V} {d : PyData} {ds : List PyData} : Dq g v d → DqA g vs ds → DqA g (v :: vs) (d :: ds)
end

/-- what stands in the store -/
inductive Ob where
  | lst (xs : List PyData)
  | dK (kvs : List (Key × PyData))
  | ins (c : Str) (fs : List (Str × PyData))
  | dead

abbrev Ws := List Ob

/-- the class of the name c stands at C -/
def ClsAt (K : PySem.W.Frag) (c : Str) (C : Addr) : Prop := PySem.W.nsIn K mainGlobals c = some (some (.ref C))
/-- pairs of a key and a value -/
def KvR {κ : Type} (g : Gd) : List (κ × V) → List (κ × PyData) → Prop := Paired fun p q => p.1 = q.1 ∧ Dq g p.2 q.2

def ObR (g : Gd) (H : Hp) (a : Addr) : Ob → Prop
  | .lst ds => g.F a = none ∧ ∃ xs, H a = some (.lst xs) ∧ DqA g xs ds
  | .dK kvs => g.F a = none ∧ ∃ ks, H a = some (.dK ks) ∧ KvR g ks kvs
  | .ins c fs => g.F a = none ∧ ∃ dx gs, (∃ C, ClsAt g.K c C ∧ H a = some (.ins C dx gs)) ∧ H dx = some (.own a) ∧ g.F dx = none ∧ KvR g gs fs
  | .dead => ∃ o, H a = some o

structure Rp (g : Gd) (H : Hp) (w : Ws) : Prop where
  fro : ∀ a o, g.F a = some o → H a = some o
  len : g.n = w.length
  cell : ∀ l ob, w[l]? = some ob → ObR g H (g.μ l) ob
  inj : ∀ l m, l < g.n → m < g.n → g.μ l = g.μ m → l = m
  pin : ∀ a o, g.P a = some o → H a = some o ∧ g.F a = none ∧ ∀ l, l < g.n → g.μ l ≠ a

/-- the ground grows -/
structure Xt0 (g g' : Gd) : Prop where
  k : g'.K = g.K
  ex : ∀ a o, g.F a = some o → g'.F a = some o
  at_ : ∀ l, l < g.n → g'.μ l = g.μ l
  le : g.n ≤ g'.n
structure Xt (g g' : Gd) : Prop extends Xt0 g g' where
  p : g'.P = g.P
instance {g g' : Gd} : Coe (Xt g g') (Xt0 g g') := ⟨Xt.toXt0⟩

theorem Xt.refl (g : Gd) : Xt g g := ⟨⟨rfl, fun _ _ h => h, fun _ _ => rfl, Nat.le_refl _⟩, rfl⟩
theorem Xt0.trans {g g1 g2 : Gd} (a : Xt0 g g1) (b : Xt0 g1 g2) : Xt0 g g2 :=
  ⟨b.k.trans a.k, fun x o h => b.ex x o (a.ex x o h), fun l h => (b.at_ l (Nat.lt_of_lt_of_le h a.le)).trans (a.at_ l h), Nat.le_trans a.le b.le⟩
theorem Xt.trans {g g1 g2 : Gd} (a : Xt g g1) (b : Xt g1 g2) : Xt g g2 := ⟨a.toXt0.trans b.toXt0, b.p.trans a.p⟩

theorem Xt0.rd {g g' : Gd} (x : Xt0 g g') {a : Addr} {u : HO} (h : Rd g.F a u) : Rd g'.F a u := by
  rcases h with h | ⟨o, h⟩
  · exact .inl (x.ex _ _ h)
  · exact .inr ⟨o, x.ex _ _ h⟩
theorem Xt0.sqL {g g' : Gd} (x : Xt0 g g') {a : Addr} {xs : List V} (h : SqL g.K g.F a xs) : SqL g'.K g'.F a xs := by
  rw [x.k]
  rcases h with h | h
  · exact .inl (x.rd h)
  · exact .inr h
theorem Xt0.sqT {g g' : Gd} (x : Xt0 g g') {a : Addr} {xs : List V} (h : SqT g.K g.F a xs) : SqT g'.K g'.F a xs := by
  rw [x.k]
  rcases h with h | h
  · exact .inl (x.rd h)
  · exact .inr h

mutual
theorem Dq.mono {g g' : Gd} (x : Xt0 g g') : ∀ (d : PyData) (v : V), Dq g v d → Dq g' v d
  | .none, _, h => by cases h; exact .non
  | .bool _, _, h => by cases h; exact .bl _
  | .int _, _, h => by cases h; exact .int _
  | .str _, _, h => by cases h; exact .str _
  | .list ds, _, h => by
    cases h with
    | lst a b => exact .lst (x.sqL a) (DqA.mono x ds _ b)
  | .tuple ds, _, h => by
    cases h with
    | tup a b => exact .tup (x.sqT a) (DqA.mono x ds _ b)
  | .dict _, _, h => by
    cases h with
    | ref hl =>
      rw [← x.at_ _ hl]
      exact .ref (Nat.lt_of_lt_of_le hl x.le)
theorem DqA.mono {g g' : Gd} (x : Xt0 g g') : ∀ (ds : List PyData) (vs : List V), DqA g vs ds → DqA g' vs ds
  | [], _, h => by cases h; exact .nil
  | d :: ds, _, h => by
    cases h with
    | cons a b => exact .cons (Dq.mono x d _ a) (DqA.mono x ds _ b)
end

theorem KvR.mono {κ : Type} {g g' : Gd} (x : Xt0 g g') : ∀ {ks : List (κ × V)} {kvs : List (κ × PyData)}, KvR g ks kvs → KvR g' ks kvs
  | _, _, .nil => .nil
  | _, _, .cons h t => .cons ⟨h.1, h.2.mono x _ _⟩ (KvR.mono x t)

theorem DqA.length {g : Gd} : ∀ {vs : List V} {ds : List PyData}, DqA g vs ds → vs.length = ds.length
  | _, _, .nil => rfl
  | _, _, .cons _ t => congrArg (· + 1) (DqA.length t)
theorem DqA.get {g : Gd} : ∀ {vs : List V} {ds : List PyData} {i : Nat} {d : PyData}, DqA g vs ds → ds[i]? = some d → ∃ v, vs[i]? = some v ∧ Dq g v d
  | _, _, _, _, .nil, e => by simp at e
  | _, _, 0, _, .cons h _, e => by simp at e; subst e; exact ⟨_, rfl, h⟩
  | _, _, i + 1, d, .cons _ t, e => by
    obtain ⟨v, h1, h2⟩ := DqA.get (i := i) (d := d) t (by simpa using e)
    exact ⟨v, by simpa using h1, h2⟩
theorem DqA.append {g : Gd} : ∀ {vs us : List V} {ds es : List PyData}, DqA g vs ds → DqA g us es → DqA g (vs ++ us) (ds ++ es)
  | _, _, _, _, .nil, s => s
  | _, _, _, _, .cons r t, s => .cons r (DqA.append t s)
theorem DqA.take {g : Gd} : ∀ {vs : List V} {ds : List PyData} (n : Nat), DqA g vs ds → DqA g (vs.take n) (ds.take n)
  | _, _, 0, _ => .nil
  | _, _, _ + 1, .nil => .nil
  | _, _, n + 1, .cons r t => .cons r (DqA.take n t)
theorem DqA.drop {g : Gd} : ∀ {vs : List V} {ds : List PyData} (n : Nat), DqA g vs ds → DqA g (vs.drop n) (ds.drop n)
  | _, _, 0, r => r
  | _, _, _ + 1, .nil => .nil
  | _, _, n + 1, .cons _ t => DqA.drop n t
theorem DqA.reverse {g : Gd} : ∀ {vs : List V} {ds : List PyData}, DqA g vs ds → DqA g vs.reverse ds.reverse
  | _, _, .nil => .nil
  | _, _, .cons r t => by
    rw [List.reverse_cons, List.reverse_cons]
    exact (DqA.reverse t).append (.cons r .nil)

/-- a frozen object more -/
def Gd.put (g : Gd) (p : Addr) (o : HO) : Gd := { g with F := upd g.F p o }
theorem Rp.fnone {g : Gd} {H : Hp} {w : Ws} (r : Rp g H w) {p : Addr} (h : H p = none) : g.F p = none := by
  cases e : g.F p with
  | none => rfl
  | some o => rw [r.fro p o e] at h; cases h
theorem Xt.put {g : Gd} {p : Addr} {o : HO} (h : g.F p = none) : Xt g (g.put p o) :=
  ⟨⟨rfl, fun a u e => by show upd g.F p o a = _; rw [upd_ne (ne_of_none e h)]; exact e, fun _ _ => rfl, Nat.le_refl _⟩, rfl⟩
theorem ObR.there {g : Gd} {H : Hp} {a : Addr} {ob : Ob} (h : ObR g H a ob) : ∃ o, H a = some o := by
  cases ob with
  | lst ds => obtain ⟨_, xs, h, _⟩ := h; exact ⟨_, h⟩
  | dK ds => obtain ⟨_, xs, h, _⟩ := h; exact ⟨_, h⟩
  | ins C fs => obtain ⟨_, dx, gs, ⟨_, _, h⟩, _⟩ := h; exact ⟨_, h⟩
  | dead => exact h
/-- an object at another address does not matter -/
theorem ObR.new {g g' : Gd} {H H' : Hp} {a : Addr} {ob : Ob} (x : Xt0 g g') (h : ObR g H a ob) (hf : ∀ b, (H b).isSome = true → g'.F b = g.F b ∧ H' b = H b) : ObR g' H' a ob := by
  have q : ∀ {b : Addr} {o : HO}, H b = some o → g'.F b = g.F b ∧ H' b = some o := fun {b o} e => by
    have z := hf b (by rw [e]; rfl)
    exact ⟨z.1, z.2.trans e⟩
  cases ob with
  | lst ds =>
    obtain ⟨hn, xs, h, d⟩ := h
    exact ⟨(q h).1.trans hn, xs, (q h).2, d.mono x _ _⟩
  | dK kvs =>
    obtain ⟨hn, ks, h, d⟩ := h
    exact ⟨(q h).1.trans hn, ks, (q h).2, d.mono x⟩
  | ins C fs =>
    obtain ⟨hn, dx, gs, ⟨C', hC, h⟩, hd, hn2, d⟩ := h
    exact ⟨(q h).1.trans hn, dx, gs, ⟨C', by rw [x.k]; exact hC, (q h).2⟩, (q hd).2, (q hd).1.trans hn2, d.mono x⟩
  | dead =>
    obtain ⟨o, h⟩ := h
    exact ⟨o, (q h).2⟩
theorem Rp.put {g : Gd} {H : Hp} {w : Ws} (r : Rp g H w) {p : Addr} {o : HO} (h : H p = none) : Rp (g.put p o) (upd H p o) w where
  fro := fun a u e => by
    by_cases q : a = p
    · subst q
      have e' : upd g.F a o a = some u := e
      rw [upd_same] at e' ⊢
      exact e'
    · have e' : upd g.F p o a = some u := e
      rw [upd_ne q] at e' ⊢
      exact r.fro a u e'
  len := r.len
  cell := fun l ob e => (r.cell l ob e).new (Xt.put (r.fnone h)).toXt0 fun b hb => by
    have nb : b ≠ p := fun z => by subst z; rw [h] at hb; cases hb
    exact ⟨upd_ne nb, upd_ne nb⟩
  inj := r.inj
  pin := fun a u e => by
    obtain ⟨h1, h2, h3⟩ := r.pin a u e
    have na : a ≠ p := fun z => by subst z; rw [h] at h1; cases h1
    exact ⟨by rw [upd_ne na]; exact h1, (upd_ne na).trans h2, h3⟩

/-! ### outcomes -/
inductive Oc (α : Type) where
  | ok (a : α) (w : Ws)
  | ex (c : Value) (fs : List (Str × PyData)) (w : Ws)
  | no
def Oc.bind {α β : Type} (x : Oc α) (f : α → Ws → Oc β) : Oc β :=
  match x with
  | .ok a w => f a w
  | .ex c fs w => .ex c fs w
  | .no => .no
abbrev Ev := List (Option PyData)
abbrev FE := Ev → Ws → Oc PyData
abbrev FT := Ev → Ws → Oc Bool
abbrev FA := Ev → Ws → Oc (List PyData)
inductive Os where
  | nx (ρ : Ev) (w : Ws)
  | rt (d : PyData) (w : Ws)
  | bk (ρ : Ev) (w : Ws)
  | ct (ρ : Ev) (w : Ws)
  | ex (ρ : Ev) (c : Value) (fs : List (Str × PyData)) (w : Ws)
  | no
abbrev FS := Ev → Ws → Os

/-- the frame's names -/
structure EnR (g : Gd) (σ : St) (ρ : Ev) : Prop where
  len : σ.length = ρ.length
  at_ : ∀ (i : Nat) (d : PyData), ρ[i]? = some (some d) → ∃ v, σ[i]? = some (some v) ∧ Dq g v d
theorem EnR.mono {g g' : Gd} (x : Xt0 g g') {σ : St} {ρ : Ev} (e : EnR g σ ρ) : EnR g' σ ρ :=
  ⟨e.len, fun i d h => let ⟨v, a, b⟩ := e.at_ i d h; ⟨v, a, b.mono x _ _⟩⟩
theorem EnR.set {g : Gd} {σ : St} {ρ : Ev} (e : EnR g σ ρ) {v : V} {d : PyData} (i : Nat) (h : Dq g v d) : EnR g (σ.set i (some v)) (ρ.set i (some d)) := by
  refine ⟨by rw [List.length_set, List.length_set]; exact e.len, fun j c hj => ?_⟩
  rw [List.getElem?_set] at hj ⊢
  by_cases q : i = j
  · subst q
    rw [if_pos rfl] at hj ⊢
    by_cases z : i < ρ.length
    · rw [if_pos z] at hj
      rw [if_pos (by rw [e.len]; exact z)]
      have := Option.some.inj (Option.some.inj hj)
      subst this
      exact ⟨v, rfl, h⟩
    · rw [if_neg z] at hj
      cases hj
  · rw [if_neg q] at hj ⊢
    exact e.at_ j c hj

/-- what is wanted of an exception: the fields of its own dict -/
def XdR (g : Gd) (H : Hp) (fs : List (Str × PyData)) : Option Addr → Prop
  | none => fs = []
  | some d => g.F d = none ∧ (∀ l, l < g.n → g.μ l ≠ d) ∧ ∃ gs, H d = some (.xd gs) ∧ KvR g gs fs

def oX {α β : Type} (W : WX) (σ : St) (R : Gd → β → α → Prop) (g : Gd) (Q : β → Hp → Prop) : Oc α → Prop
  | .ok d w => ∀ v H g', Xt g g' → Rp g' H w → R g' v d → Q v H
  | .ex c fs w => ∀ dd H g', Xt g g' → Rp g' H w → XdR g' H fs dd → W c dd σ H
  | .no => False
def lX {α β : Type} (K : PySem.W.Frag) (W : WX) (R : Gd → β → α → Prop) (f : Ev → Ws → Oc α) : St → Hp → (β → Hp → Prop) → Prop := fun σ H Q =>
  ∃ g ρ w, g.K = K ∧ Rp g H w ∧ EnR g σ ρ ∧ oX W σ R g Q (f ρ w)
abbrev lE (K : PySem.W.Frag) (W : WX) (f : FE) : TE := lX K W Dq f
abbrev lT (K : PySem.W.Frag) (W : WX) (f : FT) : TT := lX K W (fun _ (b c : Bool) => b = c) f
abbrev lA (K : PySem.W.Frag) (W : WX) (f : FA) : TA := lX K W DqA f

/-- the ground has grown: the wish stays -/
theorem oX.mono {α β : Type} {W : WX} {σ : St} {R : Gd → β → α → Prop} {g g' : Gd} {Q : β → Hp → Prop} (x : Xt g g') : ∀ {o : Oc α}, oX W σ R g Q o → oX W σ R g' Q o
  | .ok _ _, h => fun v H g2 y r q => h v H g2 (x.trans y) r q
  | .ex _ _ _, h => fun d H g2 y r q => h d H g2 (x.trans y) r q
  | .no, h => h

/-- a part first -/
theorem lX_bind {α β γ δ : Type} {W : WX} {R : Gd → β → α → Prop} {S : Gd → δ → γ → Prop} {f : Ev → Ws → Oc α} {k : α → Ws → Oc γ} {σ : St} {H : Hp} {g : Gd} {ρ : Ev} {w : Ws} {Q : δ → Hp → Prop} {T : β → Hp → Prop}
    {K : PySem.W.Frag} (hK : g.K = K) (r : Rp g H w) (e : EnR g σ ρ) (h : oX W σ S g Q ((f ρ w).bind k))
    (hT : ∀ v H1 g1 d w1, Xt g g1 → Rp g1 H1 w1 → EnR g1 σ ρ → R g1 v d → oX W σ S g1 Q (k d w1) → T v H1) : lX K W R f σ H T := by
  refine ⟨g, ρ, w, hK, r, e, ?_⟩
  cases q : f ρ w with
  | ok d w1 =>
    rw [q] at h
    exact fun v H1 g1 x r1 z => hT v H1 g1 d w1 x r1 (e.mono x) z (oX.mono x h)
  | ex c fs w1 =>
    rw [q] at h
    exact h
  | no =>
    rw [q] at h
    exact h

/-! ### weaker readings -/
theorem pe_imp {X : Cx} {e : Expr} {t t' : TE} (h : PE X e t) (i : ∀ σ H Q, t' σ H Q → t σ H Q) : PE X e t' := ⟨fun pins s σ H Q I q => h.run pins s σ H Q I (i σ H Q q)⟩
theorem pt_imp {X : Cx} {e : Expr} {t t' : TT} (h : PT X e t) (i : ∀ σ H Q, t' σ H Q → t σ H Q) : PT X e t' := ⟨fun pins s σ H Q I q => h.run pins s σ H Q I (i σ H Q q)⟩
theorem pw_imp {X : Cx} {e : Expr} {t t' : TT} (h : PW X e t) (i : ∀ σ H Q, t' σ H Q → t σ H Q) : PW X e t' := ⟨fun wh pins s σ H Q I q => h.run wh pins s σ H Q I (i σ H Q q)⟩
theorem pa_imp {X : Cx} {e : List Expr} {t t' : TA} (h : PA X e t) (i : ∀ σ H Q, t' σ H Q → t σ H Q) : PA X e t' := ⟨fun p pins s σ H Q I q => h.run p pins s σ H Q I (i σ H Q q)⟩
theorem ps_imp {X : Cx} {e : Stmt} {t t' : TS} (h : PS X e t) (i : ∀ D σ H, t' D σ H → t D σ H) : PS X e t' := ⟨fun pins s σ H D I q => h.run pins s σ H D I (i D σ H q)⟩
theorem pss_imp {X : Cx} {e : List Stmt} {t t' : TS} (h : PSs X e t) (i : ∀ D σ H, t' D σ H → t D σ H) : PSs X e t' := ⟨fun pins s σ H D I q => h.run pins s σ H D I (i D σ H q)⟩

end Td

set_option Elab.async false
set_option linter.all false
set_option maxRecDepth 100000
set_option maxHeartbeats 4000000
namespace Td
open PySem L2
abbrev PF (X : Cx) (W : WX) (e : Expr) (f : FE) : Prop := PE X e (lE X.K W f)
abbrev PTf (X : Cx) (W : WX) (e : Expr) (f : FT) : Prop := PT X e (lT X.K W f)
abbrev PWf (X : Cx) (W : WX) (e : Expr) (f : FT) : Prop := PW X e (lT X.K W f)
abbrev PAf (X : Cx) (W : WX) (es : List Expr) (f : FA) : Prop := PA X es (lA X.K W f)

section
variable {X : Cx} {W : WX}
/-! ### names, constants -/
def eV (i : Nat) : FE := fun ρ w => match ρ[i]? with
  | some (some d) => .ok d w
  | _ => .no
def eC (d : PyData) : FE := fun _ w => .ok d w
theorem lE_c {K : PySem.W.Frag} {v : V} {d : PyData} (h : ∀ g : Gd, Dq g v d) : ∀ σ H Q, lE K W (eC d) σ H Q → tC v σ H Q := fun σ H Q ⟨g, ρ, w, hK, r, e, q⟩ => q v H g (Xt.refl g) r (h g)
theorem pf_var (i : Nat) {x : Str} {pos : Pos} (hN : X.N[i]? = some x := by rfl) (hv : Vis X.env.scope x := by first | exact Or.inl rfl | exact Or.inr (Or.inl rfl) | exact Or.inr (Or.inr rfl)) (hd : (x == ("__debug__" : Str)) = false := by decide)
    (hcd : (x == ("__classdict__" : Str)) = false := by decide) : PF X W (.Name x pos) (eV i) := by
  refine pe_imp (pv i hN hv hd hcd) fun σ H Q ⟨g, ρ, w, hK, r, e, q⟩ => ?_
  unfold eV at q
  split at q
  · rename_i d hd'
    obtain ⟨v, hv', dv⟩ := e.at_ i d hd'
    exact ⟨v, hv', q v H g (Xt.refl g) r dv⟩
  · exact q.elim
theorem pf_int {i j pos} : PF X W (.Constant (.int i) j pos) (eC (.int i)) := pe_imp pe_int (lE_c fun _ => .int i)
theorem pf_bl {b j pos} : PF X W (.Constant (.bool b) j pos) (eC (.bool b)) := pe_imp pe_bl (lE_c fun _ => .bl b)
theorem pf_non {j pos} : PF X W (.Constant .none j pos) (eC .none) := pe_imp pe_non (lE_c fun _ => .non)
theorem pf_str {x j pos} : PF X W (.Constant (.str x) j pos) (eC (.str x)) := pe_imp pe_str (lE_c fun _ => .str _)
theorem pf_gint {x : Str} {i : Int} {t : Tok} {pos : Pos} (hg : Gl X x) (hm : X.mg x = some (.int i t)) (hd : (x == ("__debug__" : Str)) = false := by decide) : PF X W (.Name x pos) (eC (.int i)) := pe_imp (pe_glob hg hm (v := .int i) ⟨_, rfl⟩ hd) (lE_c fun _ => .int i)
theorem pf_gstr {x : Str} {z : Str} {t : Tok} {pos : Pos} (hg : Gl X x) (hm : X.mg x = some (.str z t)) (hd : (x == ("__debug__" : Str)) = false := by decide) : PF X W (.Name x pos) (eC (.str z)) := pe_imp (pe_glob hg hm (v := .str z) ⟨_, rfl⟩ hd) (lE_c fun _ => .str z)

/-! ### argument lists, displays -/
def aN : FA := fun _ w => .ok [] w
def aC (f : FE) (fr : FA) : FA := fun ρ w => (f ρ w).bind fun d w1 => (fr ρ w1).bind fun ds w2 => .ok (d :: ds) w2
theorem paf_nil : PAf X W [] aN := pa_imp pa_nil fun σ H Q ⟨g, ρ, w, hK, r, e, q⟩ => q [] H g (Xt.refl g) r .nil
theorem paf_cons {e : Expr} {es : List Expr} {f : FE} {fr : FA} (ha : PF X W e f) (hr : PAf X W es fr) (hs : starEach (e :: es) X.env = (false, eval e X.env) :: starEach es X.env := by rfl) : PAf X W (e :: es) (aC f fr) := by
  refine pa_imp (pa_cons ha hr hs) fun σ H Q ⟨g, ρ, w, hK, r, e, q⟩ => ?_
  refine lX_bind hK r e q fun v H1 g1 d w1 x r1 e1 dv z => ?_
  refine lX_bind (x.k.trans hK) r1 e1 z fun vs H2 g2 ds w2 x2 r2 e2 dvs z2 => ?_
  exact z2 _ H2 g2 (Xt.refl _) r2 (.cons (dv.mono x2 _ _) dvs)
def szOk (n : Nat) : Bool := decide (n ≤ sizeLine)
/-- only where a test holds -/
def Oc.on {α : Type} (b : Bool) (x : Oc α) : Oc α := cond b x .no
theorem oX.on {α β : Type} {σ : St} {R : Gd → β → α → Prop} {g : Gd} {Q : β → Hp → Prop} {b : Bool} {x : Oc α} (h : oX W σ R g Q (Oc.on b x)) : b = true ∧ oX W σ R g Q x := by
  cases b with
  | true => exact ⟨rfl, h⟩
  | false => exact h.elim
def eTup (fa : FA) : FE := fun ρ w => (fa ρ w).bind fun ds w1 => Oc.on (szOk ds.length) (.ok (.tuple ds) w1)
def eLst (fa : FA) : FE := fun ρ w => (fa ρ w).bind fun ds w1 => Oc.on (szOk ds.length) (.ok (.list ds) w1)
theorem newT {g : Gd} {H : Hp} {w : Ws} {vs : List V} {ds : List PyData} (r : Rp g H w) {p : Addr} (hp : H p = none) (d : DqA g vs ds) : Dq (g.put p (.tup vs)) (.ref p) (.tuple ds) :=
  .tup (SqT.of upd_same) (d.mono (Xt.put (r.fnone hp)).toXt0 _ _)
theorem newL {g : Gd} {H : Hp} {w : Ws} {vs : List V} {ds : List PyData} (r : Rp g H w) {p : Addr} (hp : H p = none) (d : DqA g vs ds) : Dq (g.put p (.lst vs)) (.ref p) (.list ds) :=
  .lst (SqL.of upd_same) (d.mono (Xt.put (r.fnone hp)).toXt0 _ _)
theorem pf_tup {es : List Expr} {fa : FA} {x1} {pos : Pos} (h : PAf X W es fa) : PF X W (.Tuple es x1 pos) (eTup fa) := by
  refine pe_imp (pe_tup h) fun σ H Q ⟨g, ρ, w, hK, r, e, q⟩ => ?_
  refine lX_bind hK r e q fun vs H1 g1 ds w1 x r1 e1 d z => ?_
  obtain ⟨hb, z⟩ := z.on
  refine ⟨by rw [d.length]; exact of_decide_eq_true hb, fun p hp => ?_⟩
  exact z _ _ _ (Xt.put (r1.fnone hp)) (r1.put hp) (newT r1 hp d)
theorem pf_lst {es : List Expr} {fa : FA} {pos : Pos} (h : PAf X W es fa) : PF X W (.List es pos) (eLst fa) := by
  refine pe_imp (pe_lst h) fun σ H Q ⟨g, ρ, w, hK, r, e, q⟩ => ?_
  refine lX_bind hK r e q fun vs H1 g1 ds w1 x r1 e1 d z => ?_
  obtain ⟨hb, z⟩ := z.on
  refine ⟨by rw [d.length]; exact of_decide_eq_true hb, fun p hp => ?_⟩
  exact z _ _ _ (Xt.put (r1.fnone hp)) (r1.put hp) (newL r1 hp d)

/-! ### data to Dp -/
mutual
theorem Dq.dp {g : Gd} {H : Hp} (hf : ∀ a o, g.F a = some o → H a = some o) : ∀ (d : PyData) (v : V), d.canLay0 = true → Dq g v d → Dp g.K H v d
  | .none, _, _, h => by cases h; exact .non
  | .bool _, _, _, h => by cases h; exact .bl _
  | .int _, _, _, h => by cases h; exact .int _
  | .str _, _, _, h => by cases h; exact .str _
  | .list ds, _, c, h => by
    cases h with
    | lst a b => exact .lst (by rcases a with (a | ⟨o, a⟩) | a; exact .inl (.inl (hf _ _ a)); exact .inl (.inr ⟨o, hf _ _ a⟩); exact .inr a) (DqA.dp hf ds _ (by simpa [PyData.canLay0] using c) b)
  | .tuple ds, _, c, h => by
    cases h with
    | tup a b => exact .tup (by rcases a with (a | ⟨o, a⟩) | a; exact .inl (.inl (hf _ _ a)); exact .inl (.inr ⟨o, hf _ _ a⟩); exact .inr a) (DqA.dp hf ds _ (by simpa [PyData.canLay0] using c) b)
  | .dict _, _, c, h => by simp [PyData.canLay0] at c
theorem DqA.dp {g : Gd} {H : Hp} (hf : ∀ a o, g.F a = some o → H a = some o) : ∀ (ds : List PyData) (vs : List V), PyData.canLayAll0 ds = true → DqA g vs ds → DpAll g.K H vs ds
  | [], _, _, h => by cases h; exact .nil
  | d :: ds, _, c, h => by
    have c' : d.canLay0 = true ∧ PyData.canLayAll0 ds = true := by simpa [PyData.canLayAll0] using c
    cases h with
    | cons a b => exact .cons (Dq.dp hf d _ c'.1 a) (DqA.dp hf ds _ c'.2 b)
end
theorem Rp.sqL {g : Gd} {H : Hp} {w : Ws} (r : Rp g H w) {a : Addr} {xs : List V} (h : SqL g.K g.F a xs) : SqL g.K H a xs := by
  rcases h with (a | ⟨o, a⟩) | a
  · exact .inl (.inl (r.fro _ _ a))
  · exact .inl (.inr ⟨o, r.fro _ _ a⟩)
  · exact .inr a
theorem Rp.sqT {g : Gd} {H : Hp} {w : Ws} (r : Rp g H w) {a : Addr} {xs : List V} (h : SqT g.K g.F a xs) : SqT g.K H a xs := by
  rcases h with (a | ⟨o, a⟩) | a
  · exact .inl (.inl (r.fro _ _ a))
  · exact .inl (.inr ⟨o, r.fro _ _ a⟩)
  · exact .inr a

/-! ### operations on data -/
def rD2 (K : PySem.W.Frag) (f : Ws → PyData → PyData → Option PyData) : R2 := fun x y H Q =>
  ∃ g w d e z, g.K = K ∧ Rp g H w ∧ Dq g x d ∧ Dq g y e ∧ f w d e = some z ∧ ∀ v H' g', Xt g g' → Rp g' H' w → Dq g' v z → Q v H'
def Oc.of {α : Type} (o : Option α) (w : Ws) : Oc α := match o with
  | some a => .ok a w
  | none => .no
def eB (f : Ws → PyData → PyData → Option PyData) (fa fb : FE) : FE := fun ρ w => (fa ρ w).bind fun d w1 => (fb ρ w1).bind fun e w2 => Oc.of (f w2 d e) w2
theorem tOp_of {f : Ws → PyData → PyData → Option PyData} {fa fb : FE} {K : PySem.W.Frag} : ∀ σ H Q, lE K W (eB f fa fb) σ H Q → tOp (rD2 K f) (lE K W fa) (lE K W fb) σ H Q := fun σ H Q ⟨g, ρ, w, hK, r, e, q⟩ => by
  refine lX_bind hK r e q fun v H1 g1 d w1 x r1 e1 dv z => ?_
  refine lX_bind (x.k.trans hK) r1 e1 z fun u H2 g2 c w2 x2 r2 e2 du z2 => ?_
  cases hz : f w2 d c with
  | none => rw [hz] at z2; exact z2.elim
  | some y =>
    rw [hz] at z2
    exact ⟨g2, w2, d, c, y, x2.k.trans (x.k.trans hK), r2, dv.mono x2 _ _, du, hz, fun v' H' g' x' r' d' => z2 v' H' g' x' r' d'⟩
theorem pf_bin {op : Operator} {f : Ws → PyData → PyData → Option PyData} {a b : Expr} {fa fb : FE} {pos : Pos} (ho : OpR X (binaryOp op) (rD2 X.K f)) (ha : PF X W a fa) (hb : PF X W b fb) : PF X W (.BinOp a op b pos) (eB f fa fb) :=
  pe_imp (pe_op ho ha hb) tOp_of
theorem pf_cmp {op : CmpOp} {f : Ws → PyData → PyData → Option PyData} {a b : Expr} {fa fb : FE} {pos : Pos} (ho : OpR X (compareOp op) (rD2 X.K f)) (ha : PF X W a fa) (hb : PF X W b fb) (hm : behindInMarks op b = false := by first | exact nomark _ | rfl) : PF X W (.Compare a [op] [b] pos) (eB f fa fb) :=
  pe_imp (pe_cmpR ho ha hb hm) tOp_of
/-- a test whose value is True or False -/
def tB' (f : FE) : FT := fun ρ w => (f ρ w).bind fun d w1 => match d with
  | .bool b => .ok b w1
  | _ => .no
theorem tTest_of {f : FE} {K : PySem.W.Frag} {t : TE} (ht : ∀ σ H Q, lE K W f σ H Q → t σ H Q) : ∀ σ H Q, lT K W (tB' f) σ H Q → t σ H (fun z H3 => ∃ k, z = V.bl k ∧ Q k H3) := fun σ H Q ⟨g, ρ, w, hK, r, e, q⟩ => by
  refine ht σ H _ (lX_bind hK r e q fun v H1 g1 d w1 x r1 e1 dv z => ?_)
  cases dv with
  | bl b => exact ⟨b, rfl, z b H1 g1 (Xt.refl _) r1 rfl⟩
  | non => exact z.elim
  | int => exact z.elim
  | str => exact z.elim
  | lst => exact z.elim
  | tup => exact z.elim
  | ref => exact z.elim
theorem ptf_cmp {op : CmpOp} {f : Ws → PyData → PyData → Option PyData} {a b : Expr} {fa fb : FE} {pos : Pos} (ho : OpR X (compareOp op) (rD2 X.K f)) (ha : PF X W a fa) (hb : PF X W b fb) (hm : behindInMarks op b = false := by first | exact nomark _ | rfl) : PTf X W (.Compare a [op] [b] pos) (tB' (eB f fa fb)) :=
  pt_imp (pt_cmpR ho ha hb hm) (tTest_of tOp_of)
/-- a op b op' c -/
def eCh (f f' : Ws → PyData → PyData → Option PyData) (fa fb fc : FE) : FE := fun ρ w => (fa ρ w).bind fun d w1 => (fb ρ w1).bind fun e w2 => match f w2 d e with
  | some (.bool true) => (fc ρ w2).bind fun c w3 => Oc.of (f' w3 e c) w3
  | some (.bool false) => .ok (.bool false) w2
  | _ => .no
theorem tChain_of {f f' : Ws → PyData → PyData → Option PyData} {fa fb fc : FE} {K : PySem.W.Frag} : ∀ σ H Q, lE K W (eCh f f' fa fb fc) σ H Q → tChain (rD2 K f) (rD2 K f') (lE K W fa) (lE K W fb) (lE K W fc) σ H Q := fun σ H Q ⟨g, ρ, w, hK, r, e, q⟩ => by
  refine lX_bind hK r e q fun v H1 g1 d w1 x r1 e1 dv z => ?_
  refine lX_bind (x.k.trans hK) r1 e1 z fun u H2 g2 c w2 x2 r2 e2 du z2 => ?_
  have hK2 := x2.k.trans (x.k.trans hK)
  split at z2
  · rename_i hz
    refine ⟨g2, w2, d, c, _, hK2, r2, dv.mono x2 _ _, du, hz, fun v' H' g' x' r' d' => ?_⟩
    cases d'
    refine ⟨true, rfl, ?_⟩
    rw [if_pos rfl]
    refine lX_bind (x'.k.trans hK2) r' (e2.mono x') (oX.mono x' z2) fun u3 H3 g3 c3 w3 x3 r3 e3 d3 z3 => ?_
    cases hz3 : f' w3 c c3 with
    | none => rw [hz3] at z3; exact z3.elim
    | some y =>
      rw [hz3] at z3
      exact ⟨g3, w3, c, c3, y, x3.k.trans (x'.k.trans hK2), r3, du.mono (x'.trans x3) _ _, d3, hz3, fun v' H' g' x' r' d' => z3 v' H' g' x' r' d'⟩
  · rename_i hz
    refine ⟨g2, w2, d, c, _, hK2, r2, dv.mono x2 _ _, du, hz, fun v' H' g' x' r' d' => ?_⟩
    cases d'
    refine ⟨false, rfl, ?_⟩
    rw [if_neg Bool.false_ne_true]
    exact z2 _ _ _ x' r' (.bl _)
  · exact z2.elim
theorem pf_chain {op op' : CmpOp} {f f' : Ws → PyData → PyData → Option PyData} {a b c : Expr} {fa fb fc : FE} {pos : Pos} (ho : OpR X (compareOp op) (rD2 X.K f)) (ho' : OpR X (compareOp op') (rD2 X.K f')) (ha : PF X W a fa) (hb : PF X W b fb) (hc : PF X W c fc)
    (hm : lastMarks [op, op'] [b, c] = false := by with_unfolding_all rfl) : PF X W (.Compare a [op, op'] [b, c] pos) (eCh f f' fa fb fc) := pe_imp (pe_chain ho ho' ha hb hc hm) tChain_of
theorem ptf_chain {op op' : CmpOp} {f f' : Ws → PyData → PyData → Option PyData} {a b c : Expr} {fa fb fc : FE} {pos : Pos} (ho : OpR X (compareOp op) (rD2 X.K f)) (ho' : OpR X (compareOp op') (rD2 X.K f')) (ha : PF X W a fa) (hb : PF X W b fb) (hc : PF X W c fc)
    (hm : lastMarks [op, op'] [b, c] = false := by with_unfolding_all rfl) : PTf X W (.Compare a [op, op'] [b, c] pos) (tB' (eCh f f' fa fb fc)) := pt_imp (pt_chain ho ho' ha hb hc hm) (tTest_of tChain_of)

/-! ### and, or, not, if .. else -/
def tAn (t u : FT) : FT := fun ρ w => (t ρ w).bind fun b w1 => cond b (u ρ w1) (.ok false w1)
def tOr' (t u : FT) : FT := fun ρ w => (t ρ w).bind fun b w1 => cond b (.ok true w1) (u ρ w1)
def tNo (t : FT) : FT := fun ρ w => (t ρ w).bind fun b w1 => .ok (!b) w1
theorem pwf_and1 {a : Expr} {pos : Pos} {t : FT} (ha : PTf X W a t) : PWf X W (.BoolOp .And [a] pos) t := pw_and1 ha
theorem pwf_or1 {a : Expr} {pos : Pos} {t : FT} (ha : PTf X W a t) : PWf X W (.BoolOp .Or [a] pos) t := pw_or1 ha
theorem pwf_and {a b : Expr} {rest : List Expr} {pos : Pos} {t u : FT} (ha : PTf X W a t) (hb : PWf X W (.BoolOp .And (b :: rest) pos) u) : PWf X W (.BoolOp .And (a :: b :: rest) pos) (tAn t u) := by
  refine pw_imp (pw_and ha hb) fun σ H Q ⟨g, ρ, w, hK, r, e, q⟩ => ?_
  refine lX_bind hK r e q fun v H1 g1 d w1 x r1 e1 dv z => ?_
  subst dv
  cases v with
  | true => exact iteT ⟨g1, ρ, w1, x.k.trans hK, r1, e1, z⟩
  | false => exact iteF (z _ _ _ (Xt.refl _) r1 rfl)
theorem pwf_or {a b : Expr} {rest : List Expr} {pos : Pos} {t u : FT} (ha : PTf X W a t) (hb : PWf X W (.BoolOp .Or (b :: rest) pos) u) : PWf X W (.BoolOp .Or (a :: b :: rest) pos) (tOr' t u) := by
  refine pw_imp (pw_or ha hb) fun σ H Q ⟨g, ρ, w, hK, r, e, q⟩ => ?_
  refine lX_bind hK r e q fun v H1 g1 d w1 x r1 e1 dv z => ?_
  subst dv
  cases v with
  | true => exact iteT (z _ _ _ (Xt.refl _) r1 rfl)
  | false => exact iteF ⟨g1, ρ, w1, x.k.trans hK, r1, e1, z⟩
theorem ptf_w {e : Expr} {t : FT} (h : PWf X W e t) : PTf X W e t := h.pt
theorem ptf_not {a : Expr} {pos : Pos} {t : FT} (ha : PTf X W a t) : PTf X W (.UnaryOp .Not a pos) (tNo t) := by
  refine pt_imp (pt_not ha) fun σ H Q ⟨g, ρ, w, hK, r, e, q⟩ => ?_
  refine lX_bind hK r e q fun v H1 g1 d w1 x r1 e1 dv z => ?_
  subst dv
  exact z _ _ _ (Xt.refl _) r1 rfl
/-- as values: all but the last are True or False -/
def eAn (f k : FE) : FE := fun ρ w => (f ρ w).bind fun d w1 => match d with
  | .bool true => k ρ w1
  | .bool false => .ok (.bool false) w1
  | _ => .no
def eOr (f k : FE) : FE := fun ρ w => (f ρ w).bind fun d w1 => match d with
  | .bool true => .ok (.bool true) w1
  | .bool false => k ρ w1
  | _ => .no
def eNo (f : FE) : FE := fun ρ w => (f ρ w).bind fun d w1 => match d with
  | .bool b => .ok (.bool (!b)) w1
  | _ => .no
theorem pf_one {op a pos} {f : FE} (h : PF X W a f) : PF X W (.BoolOp op [a] pos) f := pe_one h
theorem pf_and {a b : Expr} {rest : List Expr} {pos : Pos} {f k : FE} (ha : PF X W a f) (hb : PF X W (.BoolOp .And (b :: rest) pos) k) : PF X W (.BoolOp .And (a :: b :: rest) pos) (eAn f k) := by
  refine pe_imp (pe_and ha hb) fun σ H Q ⟨g, ρ, w, hK, r, e, q⟩ => ?_
  refine lX_bind hK r e q fun v H1 g1 d w1 x r1 e1 dv z => ?_
  cases dv with
  | bl b =>
    refine ⟨b, rfl, ?_⟩
    cases b with
    | true => exact iteT ⟨g1, ρ, w1, x.k.trans hK, r1, e1, z⟩
    | false => exact iteF (z _ _ _ (Xt.refl _) r1 (.bl _))
  | _ => exact z.elim
theorem pf_or {a b : Expr} {rest : List Expr} {pos : Pos} {f k : FE} (ha : PF X W a f) (hb : PF X W (.BoolOp .Or (b :: rest) pos) k) : PF X W (.BoolOp .Or (a :: b :: rest) pos) (eOr f k) := by
  refine pe_imp (pe_or ha hb) fun σ H Q ⟨g, ρ, w, hK, r, e, q⟩ => ?_
  refine lX_bind hK r e q fun v H1 g1 d w1 x r1 e1 dv z => ?_
  cases dv with
  | bl b =>
    refine ⟨b, rfl, ?_⟩
    cases b with
    | true => exact iteT (z _ _ _ (Xt.refl _) r1 (.bl _))
    | false => exact iteF ⟨g1, ρ, w1, x.k.trans hK, r1, e1, z⟩
  | _ => exact z.elim
theorem pf_not {a : Expr} {pos : Pos} {f : FE} (ha : PF X W a f) : PF X W (.UnaryOp .Not a pos) (eNo f) := by
  refine pe_imp (pe_not ha) fun σ H Q ⟨g, ρ, w, hK, r, e, q⟩ => ?_
  refine lX_bind hK r e q fun v H1 g1 d w1 x r1 e1 dv z => ?_
  cases dv with
  | bl b => exact ⟨b, rfl, z _ _ _ (Xt.refl _) r1 (.bl _)⟩
  | _ => exact z.elim
def eIf (t : FT) (f k : FE) : FE := fun ρ w => (t ρ w).bind fun b w1 => cond b (f ρ w1) (k ρ w1)
theorem pf_ifx {c a b : Expr} {pos : Pos} {t : FT} {f k : FE} (hc : PTf X W c t) (ha : PF X W a f) (hb : PF X W b k) : PF X W (.IfExp c a b pos) (eIf t f k) := by
  refine pe_imp (pe_ifExp hc ha hb) fun σ H Q ⟨g, ρ, w, hK, r, e, q⟩ => ?_
  refine lX_bind hK r e q fun v H1 g1 d w1 x r1 e1 dv z => ?_
  subst dv
  cases v with
  | true => exact iteT ⟨g1, ρ, w1, x.k.trans hK, r1, e1, z⟩
  | false => exact iteF ⟨g1, ρ, w1, x.k.trans hK, r1, e1, z⟩

/-! ### what stands in the store -/
def lstOf (w : Ws) : PyData → Option (List PyData)
  | .list ds => some ds
  | .dict [(.int l, .none)] => match w[l.toNat]? with
    | some (.lst xs) => some xs
    | _ => none
  | _ => none
def dkOf (w : Ws) : PyData → Option (List (Key × PyData))
  | .dict [(.int l, .none)] => match w[l.toNat]? with
    | some (.dK xs) => some xs
    | _ => none
  | _ => none
theorem lstOf_ok {g : Gd} {H : Hp} {w : Ws} (r : Rp g H w) {v : V} {d : PyData} (h : Dq g v d) {ds : List PyData} (e : lstOf w d = some ds) : ∃ a xs, v = .ref a ∧ SqL g.K H a xs ∧ DqA g xs ds := by
  cases h with
  | lst a da => cases e; exact ⟨_, _, rfl, r.sqL a, da⟩
  | @ref l hl =>
    simp only [lstOf, Int.toNat_natCast] at e
    split at e
    · rename_i xs hx
      cases e
      obtain ⟨_, ys, hy, dy⟩ := r.cell _ _ hx
      exact ⟨_, ys, rfl, SqL.of hy, dy⟩
    · cases e
  | _ => cases e
theorem dkOf_ok {g : Gd} {H : Hp} {w : Ws} (r : Rp g H w) {v : V} {d : PyData} (h : Dq g v d) {ds : List (Key × PyData)} (e : dkOf w d = some ds) : ∃ l xs, v = .ref (g.μ l) ∧ d = rf l ∧ w[l]? = some (.dK ds) ∧ g.F (g.μ l) = none ∧ H (g.μ l) = some (.dK xs) ∧ KvR g xs ds := by
  cases h with
  | @ref l hl =>
    simp only [dkOf, Int.toNat_natCast] at e
    split at e
    · rename_i xs hx
      cases e
      obtain ⟨hn, ys, hy, dy⟩ := r.cell _ _ hx
      exact ⟨l, ys, rfl, rfl, hx, hn, hy, dy⟩
    · cases e
  | _ => cases e

/-! ### truth -/
def truD : PyData → Ws → Option Bool
  | .none, _ => some false
  | .bool b, _ => some b
  | .int i, _ => some (i != 0)
  | .str y, _ => if szOk y.length then some ((y.length : Int) != 0) else none
  | .list xs, _ => some (!xs.isEmpty)
  | .tuple xs, _ => some (!xs.isEmpty)
  | .dict [(.int l, .none)], w => match w[l.toNat]? with
    | some (.lst xs) => some (!xs.isEmpty)
    | some (.dK xs) => some (!xs.isEmpty)
    | _ => none
  | .dict _, _ => none
def tTr (f : FE) : FT := fun ρ w => (f ρ w).bind fun d w1 => Oc.of (truD d w1) w1
theorem DqA.isEmpty {g : Gd} {xs : List V} {ds : List PyData} (h : DqA g xs ds) : ds.isEmpty = xs.isEmpty := by cases h <;> rfl
theorem KvR.isEmpty {κ : Type} {g : Gd} {xs : List (κ × V)} {ds : List (κ × PyData)} (h : KvR g xs ds) : ds.isEmpty = xs.isEmpty := by cases h <;> rfl
theorem truD_ok {g : Gd} {H : Hp} {w : Ws} (r : Rp g H w) {v : V} {d : PyData} (h : Dq g v d) {b : Bool} (e : truD d w = some b) : TruV g.K v H b := by
  cases h with
  | non => exact (Option.some.inj e).symm
  | bl => exact (Option.some.inj e).symm
  | int => exact (Option.some.inj e).symm
  | str =>
    simp only [truD] at e
    split at e
    · rename_i hz
      exact ⟨of_decide_eq_true hz, (Option.some.inj e).symm⟩
    · cases e
  | lst a da => exact .inl ⟨_, r.sqL a, by rw [← da.isEmpty]; exact (Option.some.inj e).symm⟩
  | tup a da => exact .inr (.inl ⟨_, r.sqT a, by rw [← da.isEmpty]; exact (Option.some.inj e).symm⟩)
  | @ref l hl =>
    simp only [truD, Int.toNat_natCast] at e
    split at e
    · rename_i xs hx
      obtain ⟨_, ys, hy, dy⟩ := r.cell _ _ hx
      exact .inl ⟨_, SqL.of hy, by rw [← dy.isEmpty]; exact (Option.some.inj e).symm⟩
    · rename_i xs hx
      obtain ⟨_, ys, hy, dy⟩ := r.cell _ _ hx
      exact .inr (.inr ⟨_, hy, by rw [← dy.isEmpty]; exact (Option.some.inj e).symm⟩)
    · cases e
theorem ptf_tru {a : Expr} {f : FE} (ha : PF X W a f) (he : ∀ whole, isTrue a X.env whole = (do let v ← whole; standAt a.pos; holding [v] (truthy v)) := by intro _; rfl) : PTf X W a (tTr f) := by
  refine pt_imp (pt_truth ha he) fun σ H Q ⟨g, ρ, w, hK, r, e, q⟩ => ?_
  refine lX_bind hK r e q fun v H1 g1 d w1 x r1 e1 dv z => ?_
  cases hz : truD d w1 with
  | none => rw [hz] at z; exact z.elim
  | some b =>
    rw [hz] at z
    refine ⟨b, ?_, z _ _ _ (Xt.refl _) r1 rfl⟩
    rw [← hK, ← x.k]
    exact truD_ok r1 dv hz
end
end Td

set_option Elab.async false
set_option linter.all false
set_option maxRecDepth 100000
set_option maxHeartbeats 4000000
namespace Td
open PySem L2
section
variable {X : Cx} {W : WX}
/-! ### lists that stand anywhere: + -/
theorem cat_lists {pins : List (Addr × Obj)} {s : Shared} {σ : St} {H : Hp} {a b : Addr} {xs ys : List V} {Q : VK} (I : Inv X pins σ H s) (ha : SqL X.K H a xs) (hb : SqL X.K H b ys) (hz : xs.length + ys.length ≤ sizeLine)
    (q : ∀ p, H p = none → Q (.ref p) (upd H p (.lst (xs ++ ys)))) : wpAny (model X.prog X.w) X.A (binaryOp .Add (.ref a) (.ref b)) (EP X pins σ Q) X.xe s := by
  obtain ⟨us, r1, ⟨⟨c1, d1, t1, s1⟩, n1, g1, hc1, hd1, ht1⟩, z1⟩ := I.list ha
  obtain ⟨vs, r2, ⟨⟨c2, d2, t2, s2⟩, n2, g2, hc2, hd2, ht2⟩, z2⟩ := I.list hb
  simp only at hc1 hd1 ht1 hc2 hd2 ht2
  subst hc1 hd1 ht1 hc2 hd2 ht2
  have l1 := r1.length
  have l2 := r2.length
  have hs : us.toArray.size + vs.toArray.size ≤ sizeLine := by rw [List.size_toArray, List.size_toArray, ← l1, ← l2]; exact hz
  refine PySem.concat_meets ⟨_, g1, rfl⟩ ⟨_, g2, rfl⟩ PySem.noFill_list_add PySem.seq_list_add PySem.F.slot_list_add PySem.F.entry_list_add (PySem.F.args_list_add_2 _ _)
    (PyProof.Rows.list_addW a b us.toArray vs.toArray n1 n2 none none s1 s2 hs) ⟨g1, g2, ?_⟩
  have ea : us.toArray ++ vs.toArray = (us ++ vs).toArray := by simp
  rw [ea]
  exact ⟨.ref _, _, I.lnew (t' := s.toks) (r1.append r2) (by rw [List.length_append]; exact hz), rfl, q _ I.fresh⟩

/-! ### + -/
def b01 (b : Bool) : Int := if b = true then (1 : Int) else 0
def addD (w : Ws) : PyData → PyData → Option PyData
  | .int i, .int j => some (.int (i + j))
  | .bool b, .int j => some (.int (b01 b + j))
  | .str a, .str b => if szOk (a.length + b.length) then some (.str (a ++ b)) else none
  | .tuple a, .tuple b => if szOk (a.length + b.length) then some (.tuple (a ++ b)) else none
  | d, e => match lstOf w d, lstOf w e with
    | some a, some b => if szOk (a.length + b.length) then some (.list (a ++ b)) else none
    | _, _ => none
theorem add_lst {pins : List (Addr × Obj)} {s : Shared} {σ : St} {H : Hp} {x y : V} {v u : Value} {Q : VK} {g : Gd} {w : Ws} {d e z : PyData} (I : Inv X pins σ H s) (rx : RelV x v) (ry : RelV y u) (hK : g.K = X.K) (r : Rp g H w) (dx : Dq g x d) (dy : Dq g y e)
    (hz : (match lstOf w d, lstOf w e with
    | some a, some b => if szOk (a.length + b.length) then some (PyData.list (a ++ b)) else none
    | _, _ => none) = some z) (q : ∀ v H' g', Xt g g' → Rp g' H' w → Dq g' v z → Q v H') : wpAny (model X.prog X.w) X.A (binaryOp .Add v u) (EP X pins σ Q) X.xe s := by
  split at hz
  · rename_i a b ha hb
    split at hz
    · rename_i hs
      cases hz
      obtain ⟨p1, xs, rfl, s1, d1⟩ := lstOf_ok r dx ha
      obtain ⟨p2, ys, rfl, s2, d2⟩ := lstOf_ok r dy hb
      cases rx
      cases ry
      refine cat_lists I (by rw [← hK]; exact s1) (by rw [← hK]; exact s2) (by rw [d1.length, d2.length]; exact of_decide_eq_true hs) fun p hp => ?_
      exact q _ _ _ (Xt.put (r.fnone hp)) (r.put hp) (newL r hp (d1.append d2))
    · cases hz
  · cases hz
theorem op_addD : OpR X (binaryOp .Add) (rD2 X.K addD) := by
  intro pins s σ H x y v u Q I rx ry ⟨g, w, d, e, z, hK, r, dx, dy, hz, q⟩
  unfold addD at hz
  split at hz
  · cases hz; cases dx; cases dy
    exact op_add pins s σ H _ _ v u Q I rx ry ⟨_, _, rfl, rfl, q _ H g (Xt.refl g) r (.int _)⟩
  · cases hz; cases dx; cases dy
    cases rx
    obtain ⟨t, rfl⟩ := ry
    exact PySem.IntBool.add_bool_int ⟨.int _, H, I.tok _, ⟨_, rfl⟩, q _ H g (Xt.refl g) r (.int _)⟩
  · cases dx; cases dy
    split at hz
    · rename_i hs
      cases hz
      exact op_add_str pins s σ H _ _ v u Q I rx ry ⟨_, _, rfl, rfl, of_decide_eq_true hs, q _ H g (Xt.refl g) r (.str _)⟩
    · cases hz
  · cases dx
    cases dy
    rename_i a1 b1 s1 d1 a2 b2 s2 d2
    split at hz
    · rename_i hs
      cases hz
      refine op_catA pins s σ H _ _ v u Q I rx ry ⟨_, _, _, _, rfl, rfl, by rw [← hK]; exact r.sqT s1, by rw [← hK]; exact r.sqT s2, by rw [d1.length, d2.length]; exact of_decide_eq_true hs, fun e0 => ?_, fun _ e0 => ?_, fun _ _ p hp => ?_⟩
      · subst e0
        cases d1
        exact q _ H g (Xt.refl g) r (.tup s2 d2)
      · subst e0
        cases d2
        rw [List.append_nil] at q
        exact q _ H g (Xt.refl g) r (.tup s1 d1)
      · exact q _ _ _ (Xt.put (r.fnone hp)) (r.put hp) (newT r hp (d1.append d2))
    · cases hz
  · exact add_lst I rx ry hK r dx dy hz q

/-! ### ints -/
def intD (c : Int → Int → Bool) (f : Int → Int → Int) (_ : Ws) : PyData → PyData → Option PyData
  | .int i, .int j => if c i j then some (.int (f i j)) else none
  | _, _ => none
theorem op_intD {fn : Value → Value → Sem Value} {c : Int → Int → Bool} {C : Int → Int → Prop} {f : Int → Int → Int} (h : OpR X fn (rI C fun i j => .int (f i j))) (hc : ∀ i j, c i j = true → C i j) : OpR X fn (rD2 X.K (intD c f)) := by
  intro pins s σ H x y v u Q I rx ry ⟨g, w, d, e, z, hK, r, dx, dy, hz, q⟩
  unfold intD at hz
  split at hz
  · cases dx; cases dy
    split at hz
    · rename_i hs
      cases hz
      exact h pins s σ H _ _ v u Q I rx ry ⟨_, _, rfl, rfl, hc _ _ hs, q _ H g (Xt.refl g) r (.int _)⟩
    · cases hz
  · cases hz
def cY : Int → Int → Bool := fun _ _ => true
def subD (_ : Ws) : PyData → PyData → Option PyData
  | .int i, .int j => some (.int (i - j))
  | .bool b, .int j => some (.int (b01 b - j))
  | _, _ => none
theorem op_subD : OpR X (binaryOp .Sub) (rD2 X.K subD) := by
  intro pins s σ H x y v u Q I rx ry ⟨g, w, d, e, z, hK, r, dx, dy, hz, q⟩
  unfold subD at hz
  split at hz
  · cases hz; cases dx; cases dy
    exact op_sub pins s σ H _ _ v u Q I rx ry ⟨_, _, rfl, rfl, q _ H g (Xt.refl g) r (.int _)⟩
  · cases hz; cases dx; cases dy
    cases rx
    obtain ⟨t, rfl⟩ := ry
    exact PySem.IntBool.sub_bool_int ⟨.int _, H, I.tok _, ⟨_, rfl⟩, q _ H g (Xt.refl g) r (.int _)⟩
  · cases hz
def cDv : Int → Int → Bool := fun _ j => decide (j ≠ 0) && decide (j.natAbs < 1073741824)
abbrev fdvD := intD cDv Int.fdiv
theorem op_fdvD : OpR X (binaryOp .FloorDiv) (rD2 X.K fdvD) := op_intD op_fdivN fun i j h => show _ ∧ _ from by
  unfold cDv at h
  rw [Bool.and_eq_true] at h
  exact ⟨of_decide_eq_true h.1, of_decide_eq_true h.2⟩
def cNz : Int → Int → Bool := fun _ j => decide (j ≠ 0)
abbrev modD := intD cNz Int.fmod
theorem op_modD : OpR X (binaryOp .Mod) (rD2 X.K modD) := op_intD op_modN fun i j h => show j ≠ 0 from by unfold cNz at h; exact of_decide_eq_true h
def cPw : Int → Int → Bool := fun i j => decide (0 ≤ j) && decide (j ≤ 1000000) && decide (i.natAbs < 2 ^ 64)
abbrev powD := intD cPw (fun i j => i ^ j.toNat)
theorem op_powD : OpR X (binaryOp .Pow) (rD2 X.K powD) := op_intD op_pow fun i j h => show _ ∧ _ ∧ _ from by
  unfold cPw at h
  rw [Bool.and_eq_true, Bool.and_eq_true] at h
  exact ⟨of_decide_eq_true h.1.1, of_decide_eq_true h.1.2, of_decide_eq_true h.2⟩

/-! ### * -/
def cMl (i j : Int) : Bool := decide (i.natAbs < 2 ^ 64) || decide (j.natAbs < 2 ^ 64)
def cMs (n : Nat) (k : Int) : Bool := decide (2 ≤ k ∧ k ≤ 10000 ∧ 1 ≤ n ∧ n ≤ 1000)
def cMt (n : Nat) (k : Int) : Bool := decide (2 ≤ k ∧ k ≤ 1000 ∧ 1 ≤ n ∧ n ≤ 1000)
def mulD (_ : Ws) : PyData → PyData → Option PyData
  | .int i, .int j => if cMl i j then some (.int (i * j)) else none
  | .str a, .int k => if cMs a.length k then some (.str (PySem.Txt.mul a k)) else none
  | .tuple a, .int k => if cMt a.length k then some (.tuple (List.replicate k.toNat a).flatten) else none
  | _, _ => none
theorem DqA.rep {g : Gd} {vs : List V} {ds : List PyData} (h : DqA g vs ds) : ∀ n, DqA g (List.replicate n vs).flatten (List.replicate n ds).flatten
  | 0 => .nil
  | n + 1 => by
    rw [List.replicate_succ, List.replicate_succ, List.flatten_cons, List.flatten_cons]
    exact h.append (DqA.rep h n)
theorem op_mulD : OpR X (binaryOp .Mult) (rD2 X.K mulD) := by
  intro pins s σ H x y v u Q I rx ry ⟨g, w, d, e, z, hK, r, dx, dy, hz, q⟩
  unfold mulD at hz
  split at hz
  · cases dx; cases dy
    split at hz
    · rename_i hs
      cases hz
      exact op_mul pins s σ H _ _ v u Q I rx ry ⟨_, _, rfl, rfl, (show _ ∨ _ from by
        unfold cMl at hs
        rw [Bool.or_eq_true] at hs
        rcases hs with hs | hs
        · have := of_decide_eq_true hs; exact Or.inl ⟨by omega, by omega⟩
        · have := of_decide_eq_true hs; exact Or.inr ⟨by omega, by omega⟩), q _ H g (Xt.refl g) r (.int _)⟩
    · cases hz
  · cases dx; cases dy
    split at hz
    · rename_i a k hs
      cases hz
      obtain ⟨t, rfl⟩ := rx
      obtain ⟨t2, rfl⟩ := ry
      obtain ⟨h1, h2, h3, h4⟩ := of_decide_eq_true hs
      have hb : a.length * k.toNat ≤ 1000 * 10000 := Nat.mul_le_mul h4 (by omega)
      refine PySem.SB.mul ⟨?_, fun _ _ => ?_, fun _ _ => ?_⟩ fun t' tk => ⟨.str _, H, I.tok _, ⟨_, rfl⟩, q _ H g (Xt.refl g) r (.str _)⟩
      · rw [decide_eq_false (by omega), decide_eq_false (by omega)]; rfl
      · have : (1000 : Int) ≤ (2 ^ 63 - 1) / k := by
          refine (Int.le_ediv_iff_mul_le (by omega)).mpr ?_
          omega
        omega
      · show decide (_ > sizeLine) = false
        refine decide_eq_false ?_
        rw [sizeLine_eq]
        omega
    · cases hz
  · cases dx; cases dy
    rename_i a1 b1 s1 d1
    split at hz
    · rename_i hs
      cases hz
      obtain ⟨h1, h2, h3, h4⟩ := of_decide_eq_true hs
      rw [← d1.length] at h3 h4
      refine op_repT pins s σ H _ _ v u Q I rx ry ⟨_, _, _, rfl, rfl, by rw [← hK]; exact r.sqT s1, fun e0 => ?_, h1, h2, h4, fun p hp => ?_⟩
      · rw [e0] at h3; cases h3
      · exact q _ _ _ (Xt.put (r.fnone hp)) (r.put hp) (newT r hp (d1.rep _))
    · cases hz
  · cases hz

/-! ### one-place -/
def rD1 (K : PySem.W.Frag) (f : Ws → PyData → Option PyData) : V → Hp → VK → Prop := fun x H Q =>
  ∃ g w d z, g.K = K ∧ Rp g H w ∧ Dq g x d ∧ f w d = some z ∧ ∀ v H' g', Xt g g' → Rp g' H' w → Dq g' v z → Q v H'
def eU (f : Ws → PyData → Option PyData) (fa : FE) : FE := fun ρ w => (fa ρ w).bind fun d w1 => Oc.of (f w1 d) w1
theorem pf_un {op : UnaryOp} {f : Ws → PyData → Option PyData} {a : Expr} {fa : FE} {pos : Pos} (ho : UnR X (unaryOp op) (rD1 X.K f)) (ha : PF X W a fa) : PF X W (.UnaryOp op a pos) (eU f fa) := by
  refine pe_imp (pe_un ho ha) fun σ H Q ⟨g, ρ, w, hK, r, e, q⟩ => ?_
  refine lX_bind hK r e q fun v H1 g1 d w1 x r1 e1 dv z => ?_
  cases hz : f w1 d with
  | none => rw [hz] at z; exact z.elim
  | some y =>
    rw [hz] at z
    exact ⟨g1, w1, d, y, x.k.trans hK, r1, dv, hz, z⟩
def negD (_ : Ws) : PyData → Option PyData
  | .int i => some (.int (-i))
  | _ => none
theorem un_negD : UnR X (unaryOp .USub) (rD1 X.K negD) := by
  intro pins s σ H x v Q I rx ⟨g, w, d, z, hK, r, dx, hz, q⟩
  unfold negD at hz
  split at hz
  · cases hz; cases dx
    exact un_neg pins s σ H _ v Q I rx ⟨_, rfl, q _ H g (Xt.refl g) r (.int _)⟩
  · cases hz

/-! ### comparisons -/
def strLt (a b : Str) : Bool := decide (a.cps.toList < b.cps.toList)
def cmpD (fi : Int → Int → Bool) (fs : Str → Str → Bool) (_ : Ws) : PyData → PyData → Option PyData
  | .int i, .int j => some (.bool (fi i j))
  | .str a, .str b => some (.bool (fs a b))
  | _, _ => none
theorem op_cmpD {fn : Value → Value → Sem Value} {fi : Int → Int → Bool} {fs : Str → Str → Bool} (h : OpR X fn (rI0 fun i j => .bl (fi i j))) (h2 : OpR X fn (fun x y H Q => ∃ i j, x = .str i ∧ y = .str j ∧ Q (.bl (fs i j)) H)) : OpR X fn (rD2 X.K (cmpD fi fs)) := by
  intro pins s σ H x y v u Q I rx ry ⟨g, w, d, e, z, hK, r, dx, dy, hz, q⟩
  unfold cmpD at hz
  split at hz
  · cases hz; cases dx; cases dy
    exact h pins s σ H _ _ v u Q I rx ry ⟨_, _, rfl, rfl, q _ H g (Xt.refl g) r (.bl _)⟩
  · cases hz; cases dx; cases dy
    exact h2 pins s σ H _ _ v u Q I rx ry ⟨_, _, rfl, rfl, q _ H g (Xt.refl g) r (.bl _)⟩
  · cases hz
abbrev ltD := cmpD (fun i j => decide (i < j)) (fun a b => strLt a b)
abbrev leD := cmpD (fun i j => decide (i ≤ j)) (fun a b => !strLt b a)
abbrev gtD := cmpD (fun i j => decide (j < i)) (fun a b => strLt b a)
abbrev geD := cmpD (fun i j => decide (j ≤ i)) (fun a b => !strLt a b)
theorem op_ltD : OpR X (compareOp .Lt) (rD2 X.K ltD) := op_cmpD op_lt op_lt_str
theorem op_leD : OpR X (compareOp .LtE) (rD2 X.K leD) := op_cmpD op_le op_le_str
theorem op_gtD : OpR X (compareOp .Gt) (rD2 X.K gtD) := op_cmpD op_gt op_gt_str
theorem op_geD : OpR X (compareOp .GtE) (rD2 X.K geD) := op_cmpD op_ge op_ge_str
/-- == of data -/

def strsE (d e : PyData) (f : Bool → Bool) : Option PyData := match d, e with
  | .str a, .str b => some (.bool (f (a.cps.toList == b.cps.toList)))
  | _, _ => none
def eqD (_ : Ws) (d e : PyData) : Option PyData := if SeqAt.shaped d && SeqAt.shaped e then some (.bool (PyData.eqv d e)) else strsE d e id
def neD (_ : Ws) (d e : PyData) : Option PyData := if SeqAt.shaped d && SeqAt.shaped e then some (.bool (!PyData.eqv d e)) else strsE d e not
theorem shaped_lay {d : PyData} (h : SeqAt.shaped d = true) : d.canLay0 = true := SeqAt.canLay_of_shaped h
theorem op_eqD' (hu : X.A.units + 64 < cLine) : OpR X (compareOp .Eq) (rD2 X.K eqD) := by
  intro pins s σ H x y v u Q I rx ry ⟨g, w, d, e, z, hK, r, dx, dy, hz, q⟩
  unfold eqD at hz
  split at hz
  · rename_i hs
    cases hz
    rw [Bool.and_eq_true] at hs
    exact op_eqD hu pins s σ H x y v u Q I rx ry ⟨d, e, hK ▸ dx.dp r.fro _ _ (shaped_lay hs.1), hK ▸ dy.dp r.fro _ _ (shaped_lay hs.2), hs.1, hs.2, q _ H g (Xt.refl g) r (.bl _)⟩
  · unfold strsE at hz
    split at hz
    · cases dx; cases dy; cases hz
      obtain ⟨t, rfl⟩ := rx
      obtain ⟨t', rfl⟩ := ry
      exact PySem.P.eq_str ⟨.bl _, H, I, rfl, q _ H g (Xt.refl g) r (.bl _)⟩
    · cases hz
theorem op_neD' (hu : X.A.units + 64 < cLine) : OpR X (compareOp .NotEq) (rD2 X.K neD) := by
  intro pins s σ H x y v u Q I rx ry ⟨g, w, d, e, z, hK, r, dx, dy, hz, q⟩
  unfold neD at hz
  split at hz
  · rename_i hs
    cases hz
    rw [Bool.and_eq_true] at hs
    exact op_neD hu pins s σ H x y v u Q I rx ry ⟨d, e, hK ▸ dx.dp r.fro _ _ (shaped_lay hs.1), hK ▸ dy.dp r.fro _ _ (shaped_lay hs.2), hs.1, hs.2, q _ H g (Xt.refl g) r (.bl _)⟩
  · unfold strsE at hz
    split at hz
    · cases dx; cases dy; cases hz
      obtain ⟨t, rfl⟩ := rx
      obtain ⟨t', rfl⟩ := ry
      exact PySem.P.ne_str ⟨.bl _, H, I, rfl, q _ H g (Xt.refl g) r (.bl _)⟩
    · cases hz
end
end Td

set_option Elab.async false
set_option linter.all false
set_option maxRecDepth 100000
set_option maxHeartbeats 4000000
namespace Td
open PySem L2
section
variable {X : Cx} {W : WX}
/-! ### in, not in -/
def strIn (a b : Str) : Bool := match a.cps.toList with
  | [c] => decide (c ∈ b.cps.toList)
  | _ => !(Builtin.Str.occurrences b a 0 b.length 1).isEmpty
def isIn (w : Ws) : PyData → PyData → Option Bool
  | .str a, .str b => some (strIn a b)
  | d, .tuple ds => if SeqAt.shaped d && SeqAt.shaped (.tuple ds) then some (ds.any fun z => PyData.eqv z d) else none
  | d, e => match lstOf w e with
    | some ds => if SeqAt.shaped d && SeqAt.shaped (.list ds) then some (ds.any fun z => PyData.eqv z d) else none
    | none => none
def inD (w : Ws) (d e : PyData) : Option PyData := (isIn w d e).map .bool
def niD (w : Ws) (d e : PyData) : Option PyData := (isIn w d e).map fun b => .bool (!b)
theorem str_one {a : Str} {c : Nat} (h : a.cps.toList = [c]) : a = ⟨#[c]⟩ := by
  obtain ⟨cps⟩ := a
  have : cps = #[c] := by
    have h' : cps.toList = [c] := h
    rw [← Array.toList_inj]; exact h'
  rw [this]
theorem op_inX (hu : X.A.units + 65 < cLine) : OpR X (compareOp .In) (rD2 X.K inD) := by
  intro pins s σ H x y v u Q I rx ry ⟨g, w, d, e, z, hK, r, dx, dy, hz, q⟩
  obtain ⟨b, hb, rfl⟩ := Option.map_eq_some_iff.mp hz
  clear hz
  have q := q _ H g (Xt.refl g) r (.bl b)
  unfold isIn at hb
  split at hb
  · cases dx; cases dy
    cases hb
    unfold strIn at q
    split at q
    · rename_i c hc
      rw [str_one hc] at rx
      exact op_in_sign pins s σ H _ _ v u Q I rx ry ⟨c, _, rfl, rfl, q⟩
    · exact op_in_str pins s σ H _ _ v u Q I rx ry ⟨_, _, rfl, rfl, q⟩
  · split at hb
    · rename_i hs
      cases hb
      rw [Bool.and_eq_true] at hs
      obtain ⟨as, r1⟩ := Dp.reads I _ _ v (hK ▸ dx.dp r.fro _ _ (shaped_lay hs.1)) rx
      obtain ⟨bs, r2⟩ := Dp.reads I _ _ u (hK ▸ dy.dp r.fro _ _ (shaped_lay hs.2)) ry
      exact SeqAt.in_tuple_reads r2 r1 (SeqAt.canLay_of_shaped hs.2) (SeqAt.canLay_of_shaped hs.1) (PyProof.Rows.room_in_shaped hs.1 hu) ⟨.bl _, H, I, rfl, q⟩
    · cases hb
  · split at hb
    · rename_i ds hl
      split at hb
      · rename_i hs
        cases hb
        rw [Bool.and_eq_true] at hs
        obtain ⟨a, xs, rfl, sq, da⟩ := lstOf_ok r dy hl
        have lay : PyData.canLayAll0 ds = true := by simpa [PyData.canLay0] using shaped_lay hs.2
        exact op_inD hu pins s σ H _ _ v u Q I rx ry ⟨d, ds, hK ▸ dx.dp r.fro _ _ (shaped_lay hs.1), hK ▸ .lst sq (da.dp r.fro _ _ lay), hs.1, hs.2, q⟩
      · cases hb
    · cases hb
theorem op_niX (hu : X.A.units + 65 < cLine) : OpR X (compareOp .NotIn) (rD2 X.K niD) := by
  intro pins s σ H x y v u Q I rx ry ⟨g, w, d, e, z, hK, r, dx, dy, hz, q⟩
  obtain ⟨b, hb, rfl⟩ := Option.map_eq_some_iff.mp hz
  clear hz
  have q := q _ H g (Xt.refl g) r (.bl (!b))
  unfold isIn at hb
  split at hb
  · cases dx; cases dy
    cases hb
    unfold strIn at q
    split at q
    · rename_i c hc
      rw [str_one hc] at rx
      exact op_notIn_sign pins s σ H _ _ v u Q I rx ry ⟨c, _, rfl, rfl, q⟩
    · exact op_notIn_str pins s σ H _ _ v u Q I rx ry ⟨_, _, rfl, rfl, q⟩
  · split at hb
    · rename_i hs
      cases hb
      rw [Bool.and_eq_true] at hs
      obtain ⟨as, r1⟩ := Dp.reads I _ _ v (hK ▸ dx.dp r.fro _ _ (shaped_lay hs.1)) rx
      obtain ⟨bs, r2⟩ := Dp.reads I _ _ u (hK ▸ dy.dp r.fro _ _ (shaped_lay hs.2)) ry
      exact SeqAt.notIn_tuple_reads r2 r1 (SeqAt.canLay_of_shaped hs.2) (SeqAt.canLay_of_shaped hs.1) (PyProof.Rows.room_in_shaped hs.1 hu) ⟨.bl _, H, I, rfl, q⟩
    · cases hb
  · split at hb
    · rename_i ds hl
      split at hb
      · rename_i hs
        cases hb
        rw [Bool.and_eq_true] at hs
        obtain ⟨a, xs, rfl, sq, da⟩ := lstOf_ok r dy hl
        have lay : PyData.canLayAll0 ds = true := by simpa [PyData.canLay0] using shaped_lay hs.2
        exact op_notInD hu pins s σ H _ _ v u Q I rx ry ⟨d, ds, hK ▸ dx.dp r.fro _ _ (shaped_lay hs.1), hK ▸ .lst sq (da.dp r.fro _ _ lay), hs.1, hs.2, q⟩
      · cases hb
    · cases hb

/-! ### xs[i] -/
def ixD (w : Ws) : PyData → PyData → Option PyData
  | .str z, .int i => if szOk z.length then (atI z.cps.toList i).map fun c => .str ⟨#[c]⟩ else none
  | .tuple ds, .int i => atI ds i
  | d, .int i => match lstOf w d with
    | some ds => atI ds i
    | none => none
  | _, _ => none
theorem DqA.atI {g : Gd} {vs : List V} {ds : List PyData} (h : DqA g vs ds) {i : Int} {d : PyData} (e : L2.atI ds i = some d) : ∃ v, L2.atI vs i = some v ∧ Dq g v d := by
  unfold L2.atI at e ⊢
  rw [h.length]
  cases hx : ixN ds.length i with
  | none => rw [hx] at e; cases e
  | some j =>
    rw [hx] at e
    exact h.get e
theorem ix_D : IxR X (rD2 X.K ixD) := by
  intro vl sl pins s σ H x y v u Q I rx ry ⟨g, w, d, e, z, hK, r, dx, dy, hz, q⟩ hsb
  unfold ixD at hz
  split at hz
  · cases dx; cases dy
    split at hz
    · rename_i hs
      obtain ⟨c, hc, rfl⟩ := Option.map_eq_some_iff.mp hz
      exact ix_seq vl sl pins s σ H _ _ v u Q I rx ry (.inr (.inr ⟨_, _, c, rfl, rfl, of_decide_eq_true hs, hc, q _ H g (Xt.refl g) r (.str _)⟩)) hsb
    · cases hz
  · cases dx; cases dy
    rename_i a1 b1 s1 d1
    obtain ⟨v1, hv, dv⟩ := d1.atI hz
    exact ix_seq vl sl pins s σ H _ _ v u Q I rx ry (.inr (.inl ⟨_, _, _, v1, rfl, rfl, hK ▸ r.sqT s1, hv, q _ H g (Xt.refl g) r dv⟩)) hsb
  · cases dy
    split at hz
    · rename_i ds hl
      obtain ⟨a, xs, rfl, sq, da⟩ := lstOf_ok r dx hl
      obtain ⟨v1, hv, dv⟩ := da.atI hz
      exact ix_seq vl sl pins s σ H _ _ v u Q I rx ry (.inl ⟨_, _, _, v1, rfl, rfl, hK ▸ sq, hv, q _ H g (Xt.refl g) r dv⟩) hsb
    · cases hz
  · cases hz
theorem pf_ix {a b : Expr} {fa fb : FE} {pos : Pos} (ha : PF X W a fa) (hb : PF X W b fb) (hs : PlainIx b := by exact fun _ _ => rfl) : PF X W (.Subscript a b pos) (eB ixD fa fb) := pe_imp (pe_ix ix_D ha hb hs) tOp_of

/-! ### xs[lo:hi] -/
abbrev FO := Ev → Ws → Oc (Option Int)
abbrev lO (K : PySem.W.Frag) (W : WX) (f : FO) : TO := lX K W (fun _ (b c : Option Int) => b = c) f
theorem po_imp {o : Option Expr} {t t' : TO} (h : PO X o t) (i : ∀ σ H Q, t' σ H Q → t σ H Q) : PO X o t' := ⟨fun pins s σ H Q I q => h.run pins s σ H Q I (i σ H Q q)⟩
def oN : FO := fun _ w => .ok none w
def oS (f : FE) : FO := fun ρ w => (f ρ w).bind fun d w1 => match d with
  | .int i => .ok (some i) w1
  | _ => .no
theorem pof_none : PO X none (lO X.K W oN) := po_imp po_none fun σ H Q ⟨g, ρ, w, hK, r, e, q⟩ => q _ H g (Xt.refl g) r rfl
theorem pof_some {e : Expr} {f : FE} (h : PF X W e f) : PO X (some e) (lO X.K W (oS f)) := by
  refine po_imp (po_some h) fun σ H Q ⟨g, ρ, w, hK, r, e, q⟩ => ?_
  refine lX_bind hK r e q fun v H1 g1 d w1 x r1 e1 dv z => ?_
  cases dv with
  | int i => exact ⟨i, rfl, z _ _ _ (Xt.refl _) r1 rfl⟩
  | _ => exact z.elim
def cutL {α : Type} (xs : List α) (lo hi : Option Int) : List α := (xs.drop (HT.sIx xs.length 0 lo)).take (HT.sIx xs.length xs.length hi - HT.sIx xs.length 0 lo)
def cutD (w : Ws) (d : PyData) (lo hi : Option Int) : Option PyData := match d with
  | .str z => if szOk z.length then some (.str (cutS z lo hi)) else none
  | .tuple ds => some (.tuple (cutL ds lo hi))
  | d => match lstOf w d with
    | some ds => some (.list (cutL ds lo hi))
    | none => none
theorem DqA.cut {g : Gd} {vs : List V} {ds : List PyData} (h : DqA g vs ds) (lo hi : Option Int) : DqA g (cutV vs lo hi) (cutL ds lo hi) := by
  unfold cutV cutL
  rw [h.length]
  exact (h.drop _).take _
def rCut (K : PySem.W.Frag) : V → Option Int → Option Int → Hp → VK → Prop := fun x lo hi H Q => ∃ g w d z, g.K = K ∧ Rp g H w ∧ Dq g x d ∧ cutD w d lo hi = some z ∧ ∀ v H' g', Xt g g' → Rp g' H' w → Dq g' v z → Q v H'
theorem sl_D : SlR X (rCut X.K) := by
  intro pins s σ H x v vl vu lo hi sl Q I rx hs pl pu ⟨g, w, d, z, hK, r, dx, hz, q⟩
  unfold cutD at hz
  split at hz
  · cases dx
    split at hz
    · rename_i hs'
      cases hz
      exact sl_str pins s σ H _ v vl vu lo hi sl Q I rx hs pl pu ⟨_, rfl, of_decide_eq_true hs', q _ H g (Xt.refl g) r (.str _)⟩
    · cases hz
  · cases dx
    cases hz
    rename_i a1 b1 s1 d1
    refine sl_tupA pins s σ H _ v vl vu lo hi sl Q I rx hs pl pu ⟨_, _, rfl, hK ▸ r.sqT s1, fun hw => ?_, fun _ p hp => ?_⟩
    · refine q _ H g (Xt.refl g) r (.tup s1 ?_)
      rw [d1.length] at hw
      unfold cutL
      rw [hw.1, hw.2, List.drop_zero, Nat.sub_zero, List.take_length]
      exact d1
    · exact q _ _ _ (Xt.put (r.fnone hp)) (r.put hp) (newT r hp (d1.cut lo hi))
  · split at hz
    · rename_i ds hl
      cases hz
      obtain ⟨a, xs, rfl, sq, da⟩ := lstOf_ok r dx hl
      exact sl_list pins s σ H _ v vl vu lo hi sl Q I rx hs pl pu ⟨_, _, rfl, hK ▸ sq, fun p hp => q _ _ _ (Xt.put (r.fnone hp)) (r.put hp) (newL r hp (da.cut lo hi))⟩
    · cases hz
def eSl (f : FE) (fl fh : FO) : FE := fun ρ w => (f ρ w).bind fun d w1 => (fl ρ w1).bind fun l w2 => (fh ρ w2).bind fun h w3 => Oc.of (cutD w3 d l h) w3
theorem pf_slice {e : Expr} {lo hi : Option Expr} {p2 pos : Pos} {f : FE} {fl fh : FO} (he : PF X W e f) (hl : PO X lo (lO X.K W fl)) (hh : PO X hi (lO X.K W fh)) : PF X W (.Subscript e (.Slice lo hi none p2) pos) (eSl f fl fh) := by
  refine pe_imp (pe_slice sl_D he hl hh) fun σ H Q ⟨g, ρ, w, hK, r, e, q⟩ => ?_
  refine lX_bind hK r e q fun v H1 g1 d w1 x r1 e1 dv z => ?_
  refine lX_bind (x.k.trans hK) r1 e1 z fun l H2 g2 l' w2 x2 r2 e2 hl2 z2 => ?_
  refine lX_bind (x2.k.trans (x.k.trans hK)) r2 e2 z2 fun h H3 g3 h' w3 x3 r3 e3 hh3 z3 => ?_
  subst hl2 hh3
  cases hz : cutD w3 d l h with
  | none => rw [hz] at z3; exact z3.elim
  | some y =>
    rw [hz] at z3
    exact ⟨g3, w3, d, y, x3.k.trans (x2.k.trans (x.k.trans hK)), r3, dv.mono (x2.trans x3) _ _, hz, z3⟩

/-! ### calls of what is built in -/
def rDN (K : PySem.W.Frag) (f : Ws → List PyData → Option PyData) : List V → Hp → VK → Prop := fun vs H Q =>
  ∃ g w ds z, g.K = K ∧ Rp g H w ∧ DqA g vs ds ∧ f w ds = some z ∧ ∀ v H' g', Xt g g' → Rp g' H' w → Dq g' v z → Q v H'
def eCb (f : Ws → List PyData → Option PyData) (fa : FA) : FE := fun ρ w => (fa ρ w).bind fun ds w1 => Oc.of (f w1 ds) w1
theorem tCB_of {f : Ws → List PyData → Option PyData} {fa : FA} {K : PySem.W.Frag} : ∀ σ H Q, lE K W (eCb f fa) σ H Q → tCB (rDN K f) (lA K W fa) σ H Q := fun σ H Q ⟨g, ρ, w, hK, r, e, q⟩ => by
  refine lX_bind hK r e q fun v H1 g1 d w1 x r1 e1 dv z => ?_
  cases hz : f w1 d with
  | none => rw [hz] at z; exact z.elim
  | some y =>
    rw [hz] at z
    exact ⟨g1, w1, d, y, x.k.trans hK, r1, dv, hz, z⟩
theorem pf_callB {f : Ws → List PyData → Option PyData} {id : String} {x : Str} {e : Expr} {es : List Expr} {fa : FA} {p pos : Pos} (hc : CallR X (.builtin id) (rDN X.K f)) (hg : Gl X x) (hm : X.mg x = none) (hv : bootBuiltins x = some (.builtin id)) (ha : PAf X W (e :: es) fa)
    (hn : x ≠ "__name__" := by decide) (hdb : (x == ("__debug__" : Str)) = false := by decide) (hs : starEach (e :: es) X.env = (false, eval e X.env) :: starEach es X.env := by rfl) (hpl : (backTo pos (starEach es X.env)).any (·.1) = false := by rfl) :
    PF X W (.Call (.Name x p) (e :: es) [] pos) (eCb f fa) := pe_imp (pe_callB hc hg hm hv ha hn hdb hs hpl) tCB_of
theorem pf_callTy {f : Ws → List PyData → Option PyData} {id : String} {x : Str} {e : Expr} {es : List Expr} {fa : FA} {p pos : Pos} (hc : CallR X (.type id) (rDN X.K f)) (hg : Gl X x) (hm : X.mg x = none) (hv : bootBuiltins x = some (.type id)) (ha : PAf X W (e :: es) fa)
    (hn : x ≠ "__name__" := by decide) (hdb : (x == ("__debug__" : Str)) = false := by decide) (hs : starEach (e :: es) X.env = (false, eval e X.env) :: starEach es X.env := by rfl) (hpl : (backTo pos (starEach es X.env)).any (·.1) = false := by rfl) :
    PF X W (.Call (.Name x p) (e :: es) [] pos) (eCb f fa) := pe_imp (pe_callTy hc hg hm hv ha hn hdb hs hpl) tCB_of

def lenD (w : Ws) : List PyData → Option PyData
  | [.str z] => if szOk z.length then some (.int z.length) else none
  | [.tuple ds] => some (.int ds.length)
  | [d] => (lstOf w d).map fun ds => .int ds.length
  | _ => none
theorem call_lenX : CallR X (.builtin "len") (rDN X.K lenD) := by
  intro pins s σ H xs us Q I rv ⟨g, w, ds, z, hK, r, dx, hz, q⟩
  unfold lenD at hz
  split at hz
  · cases dx with
    | cons d0 dn =>
      cases dn; cases d0
      split at hz
      · rename_i hs
        cases hz
        exact call_len pins s σ H _ us Q I rv ⟨_, _, rfl, ⟨of_decide_eq_true hs, rfl⟩, q _ H g (Xt.refl g) r (.int _)⟩
      · cases hz
  · cases dx with
    | cons d0 dn =>
      cases dn
      cases d0 with
      | tup s1 d1 =>
        cases hz
        exact call_len pins s σ H _ us Q I rv ⟨_, _, rfl, .inr ⟨_, hK ▸ r.sqT s1, rfl⟩, by rw [d1.length]; exact q _ H g (Xt.refl g) r (.int _)⟩
  · cases dx with
    | cons d0 dn =>
      cases dn
      obtain ⟨l, hl, rfl⟩ := Option.map_eq_some_iff.mp hz
      obtain ⟨a, xs, rfl, sq, da⟩ := lstOf_ok r d0 hl
      exact call_len pins s σ H _ us Q I rv ⟨_, _, rfl, .inl ⟨_, hK ▸ sq, rfl⟩, by rw [da.length]; exact q _ H g (Xt.refl g) r (.int _)⟩
  · cases hz
/-- all, any of a list of True, False -/
def boolsOf : List PyData → Option (List Bool)
  | [] => some []
  | .bool b :: r => (boolsOf r).map (b :: ·)
  | _ :: _ => none
theorem boolsOf_ok {g : Gd} : ∀ {vs : List V} {ds : List PyData} {bs : List Bool}, DqA g vs ds → boolsOf ds = some bs → vs = bs.map V.bl
  | _, _, _, .nil, e => by cases e; rfl
  | _, _, _, .cons h t, e => by
    cases h with
    | bl b =>
      obtain ⟨bs, hb, rfl⟩ := Option.map_eq_some_iff.mp e
      rw [boolsOf_ok t hb]
      rfl
    | _ => cases e
def qD (f : List Bool → Bool) (w : Ws) : List PyData → Option PyData
  | [d] => ((lstOf w d).bind boolsOf).map fun bs => .bool (f bs)
  | _ => none
abbrev allD := qD (fun bs => bs.all id)
abbrev anyD := qD (fun bs => bs.any id)
theorem call_qX {fn : Value} {f : List Bool → Bool} (h : CallR X fn (fun vs H Q => ∃ (a : Addr) (bs : List Bool), vs = [V.ref a] ∧ SqL X.K H a (bs.map V.bl) ∧ Q (.bl (f bs)) H)) : CallR X fn (rDN X.K (qD f)) := by
  intro pins s σ H xs us Q I rv ⟨g, w, ds, z, hK, r, dx, hz, q⟩
  unfold qD at hz
  split at hz
  · cases dx with
    | cons d0 dn =>
      cases dn
      obtain ⟨bs, hb, rfl⟩ := Option.map_eq_some_iff.mp hz
      obtain ⟨l, hl, hb⟩ := Option.bind_eq_some_iff.mp hb
      obtain ⟨a, xs, rfl, sq, da⟩ := lstOf_ok r d0 hl
      have e := boolsOf_ok da hb
      subst e
      exact h pins s σ H _ us Q I rv ⟨a, bs, rfl, hK ▸ sq, q _ H g (Xt.refl g) r (.bl _)⟩
  · cases hz
theorem call_allX (hc : X.calm = true) : CallR X (.builtin "all") (rDN X.K allD) := call_qX (cr_all hc)
theorem call_anyX (hc : X.calm = true) : CallR X (.builtin "any") (rDN X.K anyD) := call_qX (cr_any hc)
/-- list(x), tuple(x) -/
def listD (w : Ws) : List PyData → Option PyData
  | [.tuple ds] => some (.list ds)
  | [d] => (lstOf w d).map fun ds => .list ds
  | _ => none
theorem call_listX : CallR X (.type "list") (rDN X.K listD) := by
  intro pins s σ H xs us Q I rv ⟨g, w, ds, z, hK, r, dx, hz, q⟩
  unfold listD at hz
  split at hz
  · cases dx with
    | cons d0 dn =>
      cases dn
      cases d0 with
      | tup s1 d1 =>
        cases hz
        exact call_list_of pins s σ H _ us Q I rv ⟨_, _, rfl, .inr (hK ▸ r.sqT s1), fun p hp => q _ _ _ (Xt.put (r.fnone hp)) (r.put hp) (newL r hp d1)⟩
  · cases dx with
    | cons d0 dn =>
      cases dn
      obtain ⟨l, hl, rfl⟩ := Option.map_eq_some_iff.mp hz
      obtain ⟨a, xs, rfl, sq, da⟩ := lstOf_ok r d0 hl
      exact call_list_of pins s σ H _ us Q I rv ⟨_, _, rfl, .inl (hK ▸ sq), fun p hp => q _ _ _ (Xt.put (r.fnone hp)) (r.put hp) (newL r hp da)⟩
  · cases hz
def tupleD (w : Ws) : List PyData → Option PyData
  | [.tuple ds] => some (.tuple ds)
  | [d] => (lstOf w d).map fun ds => .tuple ds
  | _ => none
theorem call_tupleX : CallR X (.type "tuple") (rDN X.K tupleD) := by
  intro pins s σ H xs us Q I rv ⟨g, w, ds, z, hK, r, dx, hz, q⟩
  unfold tupleD at hz
  split at hz
  · cases dx with
    | cons d0 dn =>
      cases dn
      cases d0 with
      | tup s1 d1 =>
        cases hz
        exact call_tuple_of pins s σ H _ us Q I rv ⟨_, _, rfl, .inr ⟨hK ▸ r.sqT s1, q _ H g (Xt.refl g) r (.tup s1 d1)⟩⟩
  · cases dx with
    | cons d0 dn =>
      cases dn
      obtain ⟨l, hl, rfl⟩ := Option.map_eq_some_iff.mp hz
      obtain ⟨a, xs, rfl, sq, da⟩ := lstOf_ok r d0 hl
      exact call_tuple_of pins s σ H _ us Q I rv ⟨_, _, rfl, .inl ⟨hK ▸ sq, fun p hp => q _ _ _ (Xt.put (r.fnone hp)) (r.put hp) (newT r hp da)⟩⟩
  · cases hz
/-- int(n), str(n) -/
def toInt (_ : Ws) : List PyData → Option PyData
  | [.int i] => some (.int i)
  | [.bool b] => some (.int (if b = true then 1 else 0))
  | _ => none
theorem call_intX : CallR X (.type "int") (rDN X.K toInt) := by
  intro pins s σ H xs us Q I rv ⟨g, w, ds, z, hK, r, dx, hz, q⟩
  unfold toInt at hz
  split at hz
  · cases dx with
    | cons d0 dn =>
      cases dn; cases d0; cases hz
      exact call_int1 pins s σ H _ us Q I rv (.inl ⟨_, rfl, q _ H g (Xt.refl g) r (.int _)⟩)
  · cases dx with
    | cons d0 dn =>
      cases dn; cases d0; cases hz
      exact call_int1 pins s σ H _ us Q I rv (.inr ⟨_, rfl, q _ H g (Xt.refl g) r (.int _)⟩)
  · cases hz
def toStr (_ : Ws) : List PyData → Option PyData
  | [.int i] => if decide (i.natAbs.log2 < 1920) then some (.str (toString i)) else none
  | [.bool b] => some (.str (if b then "True" else "False"))
  | _ => none
theorem call_strX : CallR X (.type "str") (rDN X.K toStr) := by
  intro pins s σ H xs us Q I rv ⟨g, w, ds, z, hK, r, dx, hz, q⟩
  unfold toStr at hz
  split at hz
  · cases dx with
    | cons d0 dn =>
      cases dn; cases d0
      split at hz
      · rename_i hs
        cases hz
        exact call_str_int pins s σ H _ us Q I rv ⟨_, rfl, of_decide_eq_true hs, q _ H g (Xt.refl g) r (.str _)⟩
      · cases hz
  · cases dx with
    | cons d0 dn =>
      cases dn; cases d0
      cases hz
      obtain ⟨u, rfl, rb⟩ := vals1 rv
      cases rb
      exact PySem.P.str_of_bool ⟨.str _, H, I.tok _, ⟨_, rfl⟩, q _ H g (Xt.refl g) r (.str _)⟩
  · cases hz
/-- isinstance(x, T), T built in -/
def tyD (w : Ws) : PyData → Option String
  | .none => some "NoneType"
  | .bool _ => some "bool"
  | .int _ => some "int"
  | .str _ => some "str"
  | .list _ => some "list"
  | .tuple _ => some "tuple"
  | d => match dkOf w d with
    | some _ => some "dict"
    | none => (lstOf w d).map fun _ => "list"
theorem tyD_ok {g : Gd} {H : Hp} {w : Ws} (r : Rp g H w) {v : V} {d : PyData} (h : Dq g v d) {T : String} (e : tyD w d = some T) : TyX g.K H v (.type T) := by
  cases h with
  | non => cases e; exact .base (.non)
  | bl => cases e; exact .base (.bl _)
  | int => cases e; exact .base (.int _)
  | str => cases e; exact .base (.str _)
  | lst a da =>
    cases e
    rcases r.sqL a with (h | ⟨o, h⟩) | ⟨o, _, _, h, hc, _⟩
    · exact .base (.lst h)
    · exact .base (.frz h)
    · exact .kList h hc
  | tup a da =>
    cases e
    rcases r.sqT a with (h | ⟨o, h⟩) | ⟨o, _, _, h, hc, _⟩
    · exact .base (.tup h)
    · exact .fTuple h
    · exact .kTuple h hc
  | @ref l hl =>
    unfold tyD at e
    split at e <;> (try (rename_i hq; cases hq; done))
    split at e
    · rename_i ks hk
      cases e
      obtain ⟨l', xs, e1, _, _, _, hH, _⟩ := dkOf_ok r (.ref hl) hk
      rw [e1]
      exact .base (.dK hH)
    · obtain ⟨l2, hl2, rfl⟩ := Option.map_eq_some_iff.mp e
      obtain ⟨a, xs, e1, sq, da⟩ := lstOf_ok r (.ref hl) hl2
      rw [e1]
      rcases sq with (h | ⟨o, h⟩) | ⟨o, _, _, h, hc, _⟩
      · exact .base (.lst h)
      · exact .base (.frz h)
      · exact .kList h hc
def eIsi (T : String) (fa : FE) : FE := fun ρ w => (fa ρ w).bind fun d w1 => match (tyD w1 d).bind fun t => kitB t T with
  | some b => .ok (.bool b) w1
  | none => .no
theorem pf_isi {T : String} {x : Str} {a : Expr} {fa : FE} {p p2 pos : Pos} (ha : PF X W a fa) (hg : Gl X "isinstance") (hm : X.mg "isinstance" = none) (hgT : Gl X x) (hmT : X.mg x = none) (hv : bootBuiltins x = some (.type T)) (hn : x ≠ "__name__" := by decide) (hd : (x == ("__debug__" : Str)) = false := by decide)
    (hs1 : starEach [a, .Name x p2] X.env = (false, eval a X.env) :: starEach [.Name x p2] X.env := by rfl) (hs2 : starEach [.Name x p2] X.env = (false, eval (.Name x p2) X.env) :: starEach [] X.env := by rfl) (hpl : (backTo pos (starEach [.Name x p2] X.env)).any (·.1) = false := by rfl) :
    PF X W (.Call (.Name "isinstance" p) [a, .Name x p2] [] pos) (eIsi T fa) := by
  refine pe_imp (pe_callB call_isi hg hm (by decide +kernel) (pa_cons ha (pa_cons (pe_bltn (v := .ty T) hgT hmT hv rfl hn hd) pa_nil hs2) hs1) (by decide) (by decide) hs1 hpl) fun σ H Q ⟨g, ρ, w, hK, r, e, q⟩ => ?_
  refine lX_bind hK r e q fun v H1 g1 d w1 y r1 e1 dv z => ?_
  split at z
  · rename_i b hb
    obtain ⟨t, ht, hk⟩ := Option.bind_eq_some_iff.mp hb
    exact ⟨v, .ty T, .type t, .type T, b, rfl, .ty T, hK ▸ y.k ▸ tyD_ok r1 dv ht, kit_ty hk, z _ _ _ (Xt.refl _) r1 (.bl _)⟩
  · exact z.elim
end
end Td

set_option Elab.async false
set_option linter.all false
set_option maxRecDepth 100000
set_option maxHeartbeats 4000000
namespace Td
open PySem L2
/-! ### statements -/
def oSt (W : WX) (g : Gd) (D : Ends) : Os → Prop
  | .nx ρ w => ∀ σ H g', Xt g g' → Rp g' H w → EnR g' σ ρ → D.nx σ H
  | .rt d w => ∀ v H g', Xt g g' → Rp g' H w → Dq g' v d → D.rt v H
  | .bk ρ w => ∀ σ H g', Xt g g' → Rp g' H w → EnR g' σ ρ → D.bk σ H
  | .ct ρ w => ∀ σ H g', Xt g g' → Rp g' H w → EnR g' σ ρ → D.ct σ H
  | .ex ρ c fs w => ∀ dd σ H g', Xt g g' → Rp g' H w → EnR g' σ ρ → XdR g' H fs dd → W c dd σ H
  | .no => False
def lS (K : PySem.W.Frag) (W : WX) (f : FS) : TS := fun D σ H => ∃ g ρ w, g.K = K ∧ Rp g H w ∧ EnR g σ ρ ∧ oSt W g D (f ρ w)
abbrev PSf (X : Cx) (W : WX) (st : Stmt) (f : FS) : Prop := PS X st (lS X.K W f)
abbrev PSsf (X : Cx) (W : WX) (st : List Stmt) (f : FS) : Prop := PSs X st (lS X.K W f)
theorem oSt.mono {W : WX} {g g' : Gd} {D : Ends} (x : Xt g g') : ∀ {o : Os}, oSt W g D o → oSt W g' D o
  | .nx _ _, h => fun σ H g2 y r e => h σ H g2 (x.trans y) r e
  | .rt _ _, h => fun σ H g2 y r e => h σ H g2 (x.trans y) r e
  | .bk _ _, h => fun σ H g2 y r e => h σ H g2 (x.trans y) r e
  | .ct _ _, h => fun σ H g2 y r e => h σ H g2 (x.trans y) r e
  | .ex _ _ _ _, h => fun d σ H g2 y r e q => h d σ H g2 (x.trans y) r e q
  | .no, h => h
/-- an expression first -/
def Oc.thenS {α : Type} (x : Oc α) (ρ : Ev) (k : α → Ws → Os) : Os := match x with
  | .ok a w => k a w
  | .ex c fs w => .ex ρ c fs w
  | .no => .no
theorem lX_then {α β : Type} {W : WX} {R : Gd → β → α → Prop} {f : Ev → Ws → Oc α} {k : α → Ws → Os} {σ : St} {H : Hp} {g : Gd} {ρ : Ev} {w : Ws} {D : Ends} {T : β → Hp → Prop}
    {K : PySem.W.Frag} (hK : g.K = K) (r : Rp g H w) (e : EnR g σ ρ) (h : oSt W g D ((f ρ w).thenS ρ k))
    (hT : ∀ v H1 g1 d w1, Xt g g1 → Rp g1 H1 w1 → EnR g1 σ ρ → R g1 v d → oSt W g1 D (k d w1) → T v H1) : lX K W R f σ H T := by
  refine ⟨g, ρ, w, hK, r, e, ?_⟩
  cases q : f ρ w with
  | ok d w1 =>
    rw [q] at h
    exact fun v H1 g1 x r1 z => hT v H1 g1 d w1 x r1 (e.mono x) z (oSt.mono x h)
  | ex c fs w1 =>
    rw [q] at h
    exact fun dd H1 g1 x r1 z => h dd σ H1 g1 x r1 (e.mono x) z
  | no =>
    rw [q] at h
    exact h
section
variable {X : Cx} {W : WX}
def sNil : FS := fun ρ w => .nx ρ w
def sSeq (f k : FS) : FS := fun ρ w => match f ρ w with
  | .nx ρ1 w1 => k ρ1 w1
  | o => o
theorem pssf_nil : PSsf X W [] sNil := pss_imp pss_nil fun D σ H ⟨g, ρ, w, hK, r, e, q⟩ => q σ H g (Xt.refl g) r e
theorem pssf_cons {st : Stmt} {rest : List Stmt} {f k : FS} (h1 : PSf X W st f) (h2 : PSsf X W rest k) : PSsf X W (st :: rest) (sSeq f k) := by
  refine pss_imp (pss_cons h1 h2) fun D σ H ⟨g, ρ, w, hK, r, e, q⟩ => ?_
  refine ⟨g, ρ, w, hK, r, e, ?_⟩
  unfold sSeq at q
  cases z : f ρ w with
  | nx ρ1 w1 =>
    rw [z] at q
    exact fun σ' H' g' x r' e' => ⟨g', ρ1, w1, x.k.trans hK, r', e', oSt.mono x q⟩
  | rt d w1 => rw [z] at q; exact q
  | bk ρ1 w1 => rw [z] at q; exact q
  | ct ρ1 w1 => rw [z] at q; exact q
  | ex ρ1 c fs w1 => rw [z] at q; exact q
  | no => rw [z] at q; exact q
theorem pssf_one {st : Stmt} {f : FS} (h1 : PSf X W st f) : PSsf X W [st] f := pss_one h1
def sRet (f : FE) : FS := fun ρ w => (f ρ w).thenS ρ fun d w1 => .rt d w1
theorem psf_ret {e : Expr} {pos : Pos} {f : FE} (he : PF X W e f) : PSf X W (.Return (some e) pos) (sRet f) := by
  refine ps_imp (ps_ret he) fun D σ H ⟨g, ρ, w, hK, r, e, q⟩ => ?_
  exact lX_then hK r e q fun v H1 g1 d w1 x r1 e1 dv z => z v H1 g1 (Xt.refl _) r1 dv
def sExp (f : FE) : FS := fun ρ w => (f ρ w).thenS ρ fun _ w1 => .nx ρ w1
theorem psf_expr {e : Expr} {pos : Pos} {f : FE} (he : PF X W e f) (hs : swapsWith e none pos.line X.env = pure false := by rfl) : PSf X W (.Expr e pos) (sExp f) := by
  refine ps_imp (ps_expr he hs) fun D σ H ⟨g, ρ, w, hK, r, e, q⟩ => ?_
  exact lX_then hK r e q fun v H1 g1 d w1 x r1 e1 dv z => z σ H1 g1 (Xt.refl _) r1 e1
def sPass : FS := fun ρ w => .nx ρ w
theorem psf_pass {pos : Pos} : PSf X W (.Pass pos) sPass := ps_imp ps_pass fun D σ H ⟨g, ρ, w, hK, r, e, q⟩ => q σ H g (Xt.refl g) r e
def sBrk : FS := fun ρ w => .bk ρ w
theorem psf_break {pos : Pos} : PSf X W (.Break pos) sBrk := ps_imp ps_break fun D σ H ⟨g, ρ, w, hK, r, e, q⟩ => q σ H g (Xt.refl g) r e
def sCnt : FS := fun ρ w => .ct ρ w
theorem psf_continue {pos : Pos} : PSf X W (.Continue pos) sCnt := ps_imp ps_continue fun D σ H ⟨g, ρ, w, hK, r, e, q⟩ => q σ H g (Xt.refl g) r e
def sIf (t : FT) (f k : FS) : FS := fun ρ w => (t ρ w).thenS ρ fun b w1 => cond b (f ρ w1) (k ρ w1)
theorem psf_if {c : Expr} {a b : List Stmt} {pos : Pos} {t : FT} {f k : FS} (hc : PTf X W c t) (ha : PSsf X W a f) (hb : PSsf X W b k) : PSf X W (.If c a b pos) (sIf t f k) := by
  refine ps_imp (ps_if hc ha hb) fun D σ H ⟨g, ρ, w, hK, r, e, q⟩ => ?_
  refine lX_then hK r e q fun v H1 g1 d w1 x r1 e1 dv z => ?_
  subst dv
  cases v with
  | true => exact iteT ⟨g1, ρ, w1, x.k.trans hK, r1, e1, z⟩
  | false => exact iteF ⟨g1, ρ, w1, x.k.trans hK, r1, e1, z⟩

/-! ### targets -/
abbrev FG := PyData → Ev → Ws → Oc Ev
def Sm (is : List Nat) (σ σ' : St) : Prop := σ'.length = σ.length ∧ ∀ j, j ∉ is → σ'[j]? = σ[j]?
theorem Sm.refl (is : List Nat) (σ : St) : Sm is σ σ := ⟨rfl, fun _ _ => rfl⟩
theorem Sm.trans {is js : List Nat} {σ σ1 σ2 : St} (a : Sm is σ σ1) (b : Sm js σ1 σ2) : Sm (is ++ js) σ σ2 :=
  ⟨b.1.trans a.1, fun j h => (b.2 j fun z => h (List.mem_append_right _ z)).trans (a.2 j fun z => h (List.mem_append_left _ z))⟩
def lG (K : PySem.W.Frag) (is : List Nat) (f : FG) : TG := fun v σ H Q => ∃ g ρ w d, g.K = K ∧ Rp g H w ∧ EnR g σ ρ ∧ Dq g v d ∧ match f d ρ w with
  | .ok ρ' w' => ∀ σ' H' g', Xt g g' → Rp g' H' w' → EnR g' σ' ρ' → Sm is σ σ' → Q σ' H'
  | _ => False
theorem pg_imp {e : Expr} {t t' : TG} (h : PG X e t) (i : ∀ v σ H Q, t' v σ H Q → t v σ H Q) : PG X e t' := ⟨fun pins s σ H v u Q I r q => h.run pins s σ H v u Q I r (i v σ H Q q)⟩
abbrev PGf (X : Cx) (is : List Nat) (tg : Expr) (f : FG) : Prop := PG X tg (lG X.K is f)
def gN (i : Nat) : FG := fun d ρ w => .ok (ρ.set i (some d)) w
theorem pgf_name {i : Nat} {x : Str} {pos : Pos} (hN : X.N.Nodup) (hi : X.N[i]? = some x) (hx : Loc X.env.scope x) (hf : X.fn x = true ∨ X.env.scope.names.lookup x = some .local := by first | exact .inl rfl | exact .inr rfl) : PGf X [i] (.Name x pos) (gN i) := by
  refine pg_imp (pg_name hN hi hx hf) fun v σ H Q ⟨g, ρ, w, d, hK, r, e, dv, q⟩ => ?_
  refine q _ H g (Xt.refl g) r (e.set i dv) ⟨List.length_set, fun j hj => ?_⟩
  rw [List.getElem?_set_ne]
  exact fun z => hj (by rw [z]; exact List.mem_singleton.mpr rfl)
/-- a, b = .. : a tuple taken apart -/
abbrev FGs := List PyData → Ev → Ws → Oc Ev
def lGs (K : PySem.W.Frag) (is : List Nat) (f : FGs) : TGs := fun vs σ H Q => ∃ g ρ w ds, g.K = K ∧ Rp g H w ∧ EnR g σ ρ ∧ DqA g vs ds ∧ match f ds ρ w with
  | .ok ρ' w' => ∀ σ' H' g', Xt g g' → Rp g' H' w' → EnR g' σ' ρ' → Sm is σ σ' → Q σ' H'
  | _ => False
def gZ : FGs := fun ds ρ w => match ds with
  | [] => .ok ρ w
  | _ => .no
def gC (f : FG) (k : FGs) : FGs := fun ds ρ w => match ds with
  | d :: r => (f d ρ w).bind fun ρ1 w1 => k r ρ1 w1
  | [] => .no
def gT (n : Nat) (f : FGs) : FG := fun d ρ w => match d with
  | .tuple ds => if ds.length = n then f ds ρ w else .no
  | _ => .no
theorem pgs_imp {e : List Expr} {t t' : TGs} (h : PGs X e t) (i : ∀ v σ H Q, t' v σ H Q → t v σ H Q) : PGs X e t' := ⟨fun pins s σ H v u Q I r q => h.run pins s σ H v u Q I r (i v σ H Q q)⟩

theorem pgsf_nil : PGs X [] (lGs X.K [] gZ) := by
  refine pgs_imp pgs_nil fun vs σ H Q ⟨g, ρ, w, ds, hK, r, e, dv, q⟩ => ?_
  cases dv with
  | nil => exact ⟨rfl, q σ H g (Xt.refl g) r e (Sm.refl _ _)⟩
  | cons a b => exact q.elim
theorem pgsf_cons {e : Expr} {es : List Expr} {is js : List Nat} {f : FG} {k : FGs} (h1 : PGf X is e f) (h2 : PGs X es (lGs X.K js k))
    (hs : List.map (fun x => x.snd) (assignEach (e :: es) X.env) = assign e X.env :: List.map (fun x => x.snd) (assignEach es X.env) := by rfl) : PGs X (e :: es) (lGs X.K (is ++ js) (gC f k)) := by
  refine pgs_imp (pgs_cons h1 h2 hs) fun vs σ H Q ⟨g, ρ, w, ds, hK, r, e, dv, q⟩ => ?_
  cases dv with
  | nil => exact q.elim
  | @cons v vs d ds a b =>
    refine ⟨v, vs, rfl, g, ρ, w, d, hK, r, e, a, ?_⟩
    simp only [gC] at q
    cases z : f d ρ w with
    | ok ρ1 w1 =>
      rw [z] at q
      refine fun σ' H' g' x r' e' sm => ⟨g', ρ1, w1, ds, x.k.trans hK, r', e', b.mono x _ _, ?_⟩
      have q : (match k ds ρ1 w1 with
        | .ok ρ' w' => ∀ σ' H' g', Xt g g' → Rp g' H' w' → EnR g' σ' ρ' → Sm (is ++ js) σ σ' → Q σ' H'
        | _ => False) := q
      split at q
      · exact fun σ2 H2 g2 x2 r2 e2 sm2 => q σ2 H2 g2 (x.trans x2) r2 e2 (sm.trans sm2)
      · exact q.elim
    | ex c fs w1 => rw [z] at q; exact q.elim
    | no => rw [z] at q; exact q.elim
theorem pgf_tup {es : List Expr} {k n : Nat} {pos : Pos} {is : List Nat} {f : FGs} (hc : X.calm = true) (h : PGs X es (lGs X.K is f)) (hl : (assignEach es X.env).length = n := by rfl) (hf : List.findIdx? (fun x => x.fst) (assignEach es X.env) = none := by rfl) : PGf X is (.Tuple es k pos) (gT n f) := by
  refine pg_imp (pg_tup hc h hl hf) fun v σ H Q ⟨g, ρ, w, d, hK, r, e, dv, q⟩ => ?_
  unfold gT at q
  cases dv with
  | @tup a xs ds sq da =>
    by_cases hn : ds.length = n
    · simp only [if_pos hn] at q
      exact ⟨_, _, rfl, hK ▸ r.sqT sq, by rw [da.length]; exact hn, g, ρ, w, _, hK, r, e, da, q⟩
    · simp only [if_neg hn] at q
  | _ => exact q.elim
/-! ### assignments -/
def sAsg (f : FE) (gt : FG) : FS := fun ρ w => (f ρ w).thenS ρ fun d w1 => match gt d ρ w1 with
  | .ok ρ' w' => .nx ρ' w'
  | _ => .no
theorem asg_of {f : FE} {gt : FG} {is : List Nat} {K : PySem.W.Frag} : ∀ D σ H, lS K W (sAsg f gt) D σ H → tAsg (lE K W f) (lG K is gt) D σ H := fun D σ H ⟨g, ρ, w, hK, r, e, q⟩ => by
  refine lX_then hK r e q fun v H1 g1 d w1 x r1 e1 dv z => ?_
  refine ⟨g1, ρ, w1, d, x.k.trans hK, r1, e1, dv, ?_⟩
  cases y : gt d ρ w1 with
  | ok ρ' w' =>
    rw [y] at z
    exact fun σ' H' g' x' r' e' _ => z σ' H' g' x' r' e'
  | ex c fs w2 => rw [y] at z; exact z.elim
  | no => rw [y] at z; exact z.elim
theorem psf_asg {tg e : Expr} {pos : Pos} {f : FE} {gt : FG} {is : List Nat} (he : PF X W e f) (hg : PGf X is tg gt) (hs : swapsWithSole [tg] e pos.line X.env = pure false := by rfl) (hw : swappedStores [tg] e X.env = pure none := by rfl) (h1 : (assignEach [tg] X.env).map (·.2) = [assign tg X.env] := by rfl) : PSf X W (.Assign [tg] e pos) (sAsg f gt) :=
  ps_imp (ps_asg he hg hs hw h1) asg_of
theorem psf_set {i : Nat} {x : Str} {e : Expr} {pos' pos : Pos} {f : FE} (hN : X.N.Nodup) (hi : X.N[i]? = some x) (hx : Loc X.env.scope x) (he : PF X W e f) (hs : swapsWith e (some (.Name x pos')) pos.line X.env = pure false := by rfl) (hf : X.fn x = true ∨ X.env.scope.names.lookup x = some .local := by first | exact .inl rfl | exact .inr rfl) :
    PSf X W (.Assign [.Name x pos'] e pos) (sAsg f (gN i)) := by
  refine ps_imp (ps_set hN hi hx he hs hf) fun D σ H ⟨g, ρ, w, hK, r, e, q⟩ => ?_
  exact lX_then hK r e q fun v H1 g1 d w1 x r1 e1 dv z => z _ H1 g1 (Xt.refl _) r1 (e1.set i dv)
/-- a, b = e1, e2 -/
def sPar (i j : Nat) (fa : FA) : FS := fun ρ w => (fa ρ w).thenS ρ fun ds w1 => match ds with
  | [a, b] => .nx ((ρ.set i (some a)).set j (some b)) w1
  | _ => .no
theorem par_of {i j : Nat} {fa : FA} {K : PySem.W.Frag} : ∀ D σ H, lS K W (sPar i j fa) D σ H → tPar i j (lA K W fa) D σ H := fun D σ H ⟨g, ρ, w, hK, r, e, q⟩ => by
  refine lX_then hK r e q fun v H1 g1 d w1 x r1 e1 dv z => ?_
  split at z
  · cases dv with
    | cons d0 dn =>
      cases dn with
      | cons d1 dn =>
        cases dn
        exact ⟨_, _, rfl, z _ H1 g1 (Xt.refl _) r1 ((e1.set i d0).set j d1)⟩
  · exact z.elim

/-! ### what is walked -/
structure WkD (J : It) (g : Gd) (ds : List PyData) : Prop where
  stop : ∀ g' H w, Xt0 g g' → Rp g' H w → J.stop ds.length H
  go : ∀ g' H w i, Xt0 g g' → Rp g' H w → i < ds.length → J.go i H
  yld : ∀ g' H w i x H2, Xt0 g g' → Rp g' H w → i < ds.length → J.yld i H x H2 → ∃ g2 d, ds[i]? = some d ∧ Xt g' g2 ∧ Rp g2 H2 w ∧ Dq g2 x d
theorem WkD.mono {J : It} {g g' : Gd} {ds : List PyData} (k : WkD J g ds) (x : Xt0 g g') : WkD J g' ds :=
  ⟨fun a b c y r => k.stop a b c (x.trans y) r, fun a b c i y r h => k.go a b c i (x.trans y) r h, fun a b c i v d y r h z => k.yld a b c i v d (x.trans y) r h z⟩
def lI (K : PySem.W.Frag) (W : WX) (f : FA) : TI := lX K W (fun g J ds => WkD J g ds) f
theorem pi_imp {tg e : Expr} {t t' : TI} (h : PI X tg e t) (i : ∀ σ H R, t' σ H R → t σ H R) : PI X tg e t' := ⟨fun pins s σ H R I q => h.run pins s σ H R I (i σ H R q)⟩
abbrev PIf (X : Cx) (W : WX) (tg e : Expr) (f : FA) : Prop := PI X tg e (lI X.K W f)
theorem wk_list {g : Gd} {a : Addr} {xs : List V} {ds : List PyData} (h : SqL g.K g.F a xs) (d : DqA g xs ds) : WkD (Itl g.K a) g ds where
  stop := fun g' H w x r => ⟨xs, x.k ▸ r.sqL (x.sqL h), by rw [d.length]; exact Nat.le_refl _⟩
  go := fun g' H w i x r hi => by
    have hi' : i < xs.length := by rw [d.length]; exact hi
    exact ⟨xs, xs[i], x.k ▸ r.sqL (x.sqL h), List.getElem?_eq_getElem hi'⟩
  yld := fun g' H w i v H2 x r hi y => by
    obtain ⟨e, y⟩ := y
    subst e
    have hv := y xs (x.k ▸ r.sqL (x.sqL h))
    obtain ⟨v', h1, h2⟩ := d.get (List.getElem?_eq_getElem hi)
    rw [hv] at h1
    cases h1
    exact ⟨g', ds[i], List.getElem?_eq_getElem hi, Xt.refl _, r, h2.mono x _ _⟩
theorem wk_tup {g : Gd} {a : Addr} {xs : List V} {ds : List PyData} (h : SqT g.K g.F a xs) (d : DqA g xs ds) : WkD (Itt g.K a) g ds where
  stop := fun g' H w x r => ⟨xs, x.k ▸ r.sqT (x.sqT h), by rw [d.length]; exact Nat.le_refl _⟩
  go := fun g' H w i x r hi => by
    have hi' : i < xs.length := by rw [d.length]; exact hi
    exact ⟨xs, xs[i], x.k ▸ r.sqT (x.sqT h), List.getElem?_eq_getElem hi'⟩
  yld := fun g' H w i v H2 x r hi y => by
    obtain ⟨e, y⟩ := y
    subst e
    have hv := y xs (x.k ▸ r.sqT (x.sqT h))
    obtain ⟨v', h1, h2⟩ := d.get (List.getElem?_eq_getElem hi)
    rw [hv] at h1
    cases h1
    exact ⟨g', ds[i], List.getElem?_eq_getElem hi, Xt.refl _, r, h2.mono x _ _⟩
def chD (z : Str) : List PyData := z.cps.toList.map fun c => .str ⟨#[c]⟩
theorem wk_str {g : Gd} {z : Str} : WkD (Its z) g (chD z) where
  stop := fun g' H w x r => by show z.cps.size ≤ _; simp [chD]
  go := fun g' H w i x r hi => by show i < z.cps.size; simpa [chD] using hi
  yld := fun g' H w i v H2 x r hi y => by
    obtain ⟨e, c, hc, rfl⟩ := y
    subst e
    exact ⟨g', .str ⟨#[c]⟩, by simp [chD, hc], Xt.refl _, r, .str _⟩
theorem walk_zipT {K : PySem.W.Frag} {a b : Addr} {xs ys : List V} : Walk (RZ.ItzT K a b) (min xs.length ys.length) (fun H => SqT K H a xs ∧ SqT K H b ys) (YPair (fun i => xs[i]?) (fun i => ys[i]?)) where
  goes := fun i H hi g => ⟨xs, ys, xs[i]'(by omega), ys[i]'(by omega), g.1, g.2, List.getElem?_eq_getElem (by omega), List.getElem?_eq_getElem (by omega)⟩
  stops := fun H g => ⟨xs, ys, g.1, g.2, by omega⟩
  yields := fun i H x H' hi g y => by
    obtain ⟨T, u, v, e, hT, e2, h1, h2⟩ := y
    exact ⟨T, u, v, e, hT, e2, h1 xs g.1, h2 ys g.2⟩
/-- for x in e: a list, a tuple, a text -/
def itD : PyData → Option (List PyData)
  | .list ds => some ds
  | .tuple ds => some ds
  | .str z => some (chD z)
  | _ => none
def iE (f : FE) : FA := fun ρ w => (f ρ w).bind fun d w1 => Oc.of (itD d) w1
def iAny (K : PySem.W.Frag) (te : TE) : TI := fun σ H R => te σ H fun x H1 => (∃ a xs, x = .ref a ∧ SqL K H1 a xs ∧ R (Itl K a) H1) ∨ (∃ a xs, x = .ref a ∧ SqT K H1 a xs ∧ R (Itt K a) H1) ∨ ∃ z, x = .str z ∧ R (Its z) H1
theorem pi_any {tg e : Expr} {te : TE} (he : PE X e te) : PI X tg e (iAny X.K te) := by
  refine ⟨fun pins s σ H R I h => thn (he.run pins s σ H _ I h) fun v s1 ⟨y, H1, I1, r1, q⟩ => ?_⟩
  rcases q with ⟨a, xs, rfl, sq, q⟩ | ⟨a, xs, rfl, sq, q⟩ | ⟨z, rfl, q⟩
  · cases r1
    obtain ⟨its, _, pl, _⟩ := I1.list sq
    exact wpAny_pyIter_list pl.isList (pi_one (tk := s1.toks) I1 _ (turn_list a _) ⟨_, Heap.get?_push_size _ rfl, rfl, rfl⟩ q)
  · cases r1
    obtain ⟨its, _, pl, _⟩ := I1.tuple sq
    exact wpAny_pyIter_tuple pl (pi_one (tk := s1.toks) I1 _ (turn_tuple a _) ⟨_, Heap.get?_push_size _ rfl, rfl, rfl⟩ q)
  · obtain ⟨t, rfl⟩ := r1
    cases hq : z.cps.all fun c => c < 128 with
    | false => exact wpAny_pyIter_wide hq (pi_one (tk := s1.toks) I1 _ (turn_str _ z t "str_iterator" (Or.inr rfl)) ⟨_, Heap.get?_push_size _ rfl, rfl, rfl⟩ q)
    | true => exact wpAny_pyIter_ascii hq (pi_one (tk := s1.toks) I1 _ (turn_str _ z t "str_ascii_iterator" (Or.inl rfl)) ⟨_, Heap.get?_push_size _ rfl, rfl, rfl⟩ q)
theorem pif_any {tg e : Expr} {f : FE} (he : PF X W e f) : PIf X W tg e (iE f) := by
  refine pi_imp (pi_any he) fun σ H R ⟨g, ρ, w, hK, r, e, q⟩ => ?_
  refine lX_bind hK r e q fun v H1 g1 d w1 x r1 e1 dv z => ?_
  have hK1 := x.k.trans hK
  cases dv with
  | lst sq da => exact .inl ⟨_, _, rfl, hK1 ▸ r1.sqL sq, hK1 ▸ z _ H1 g1 (Xt.refl _) r1 (wk_list sq da)⟩
  | tup sq da => exact .inr (.inl ⟨_, _, rfl, hK1 ▸ r1.sqT sq, hK1 ▸ z _ H1 g1 (Xt.refl _) r1 (wk_tup sq da)⟩)
  | str y => exact .inr (.inr ⟨_, rfl, z _ H1 g1 (Xt.refl _) r1 wk_str⟩)
  | _ => exact z.elim
/-- range(n), range(a, b) -/
def rgD (lo hi : Int) : List PyData := (List.range (hi - lo).toNat).map fun i => .int (lo + (i : Nat))
theorem wk_rng {g : Gd} {lo hi : Int} : WkD (Itr lo (hi - lo).toNat) g (rgD lo hi) where
  stop := fun g' H w x r => by show (hi - lo).toNat ≤ _; simp [rgD]
  go := fun g' H w i x r hi' => by show i < (hi - lo).toNat; simpa [rgD] using hi'
  yld := fun g' H w i v H2 x r hi' y => by
    obtain ⟨e, rfl⟩ := y
    subst e
    have hi2 : i < (hi - lo).toNat := by simpa [rgD] using hi'
    exact ⟨g', .int (lo + (i : Nat)), by simp [rgD, hi2], Xt.refl _, r, .int _⟩
def c62 (i : Int) : Bool := decide (i.natAbs < 2 ^ 61)
def iR1 (fa : FA) : FA := fun ρ w => (fa ρ w).bind fun ds w1 => match ds with
  | [.int j] => Oc.on (c62 j) (.ok (rgD 0 j) w1)
  | _ => .no
def iR2 (fa : FA) : FA := fun ρ w => (fa ρ w).bind fun ds w1 => match ds with
  | [.int i, .int j] => Oc.on (c62 i && c62 j) (.ok (rgD i j) w1)
  | _ => .no
theorem pif_range1 {tg a : Expr} {fa : FA} {p pos : Pos} (hg : Gl X "range") (hm : X.mg "range" = none) (ha : PAf X W [a] fa) (hs : starEach [a] X.env = [(false, eval a X.env)] := by rfl) : PIf X W tg (.Call (.Name "range" p) [a] [] pos) (iR1 fa) := by
  refine pi_imp (pi_range1 hg hm ha hs) fun σ H R ⟨g, ρ, w, hK, r, e, q⟩ => ?_
  refine lX_bind hK r e q fun v H1 g1 d w1 x r1 e1 dv z => ?_
  split at z
  · cases dv with
    | cons d0 dn =>
      cases dn; cases d0
      obtain ⟨hb, z⟩ := z.on
      have hb := of_decide_eq_true hb
      refine ⟨_, rfl, by omega, by omega, ?_⟩
      have := z _ H1 g1 (Xt.refl _) r1 (wk_rng (lo := 0))
      rw [Int.sub_zero] at this
      exact this
  · exact z.elim
theorem pif_range2 {tg a b : Expr} {fa : FA} {p pos : Pos} (hg : Gl X "range") (hm : X.mg "range" = none) (ha : PAf X W [a, b] fa) (hs : starEach [a, b] X.env = [(false, eval a X.env), (false, eval b X.env)] := by rfl) (hs2 : starEach [b] X.env = [(false, eval b X.env)] := by rfl) : PIf X W tg (.Call (.Name "range" p) [a, b] [] pos) (iR2 fa) := by
  refine pi_imp (pi_range2 hg hm ha hs hs2) fun σ H R ⟨g, ρ, w, hK, r, e, q⟩ => ?_
  refine lX_bind hK r e q fun v H1 g1 d w1 x r1 e1 dv z => ?_
  split at z
  · cases dv with
    | cons d0 dn =>
      cases d0
      cases dn with
      | cons d1 dn =>
        cases dn; cases d1
        obtain ⟨hb, z⟩ := z.on
        rw [Bool.and_eq_true] at hb
        have h1 := of_decide_eq_true hb.1
        have h2 := of_decide_eq_true hb.2
        exact ⟨_, _, rfl, ⟨by omega, by omega, by omega, by omega⟩, z _ H1 g1 (Xt.refl _) r1 wk_rng⟩
  · exact z.elim
/-- zip(xs, ys): two lists, two tuples -/
def zipD : List PyData → List PyData → List PyData
  | a :: as, b :: bs => .tuple [a, b] :: zipD as bs
  | _, _ => []
theorem zipD_len : ∀ (as bs : List PyData), (zipD as bs).length = min as.length bs.length
  | [], _ => by simp [zipD]
  | _ :: _, [] => by simp [zipD]
  | _ :: as, _ :: bs => by simp [zipD, zipD_len as bs]
theorem zipD_get : ∀ {as bs : List PyData} {i : Nat} {a b : PyData}, as[i]? = some a → bs[i]? = some b → (zipD as bs)[i]? = some (.tuple [a, b])
  | [], _, _, _, _, h, _ => by simp at h
  | _ :: _, [], _, _, _, _, h => by simp at h
  | _ :: _, _ :: _, 0, _, _, h1, h2 => by simp at h1 h2; simp [zipD, h1, h2]
  | _ :: as, _ :: bs, i + 1, a, b, h1, h2 => by
    simp only [List.getElem?_cons_succ, zipD] at h1 h2 ⊢
    exact zipD_get h1 h2
theorem wk_pair {J : It} {g : Gd} {xs ys : List V} {as bs : List PyData} {G : Hp → Prop} (k : Walk J (min xs.length ys.length) G (YPair (fun i => xs[i]?) (fun i => ys[i]?))) (hG : ∀ g' H w, Xt0 g g' → Rp g' H w → G H) (da : DqA g xs as) (db : DqA g ys bs) : WkD J g (zipD as bs) where
  stop := fun g' H w x r => by
    rw [zipD_len, ← da.length, ← db.length]
    exact k.stops H (hG g' H w x r)
  go := fun g' H w i x r hi => k.goes i H (by rw [zipD_len, ← da.length, ← db.length] at hi; exact hi) (hG g' H w x r)
  yld := fun g' H w i v H2 x r hi y => by
    rw [zipD_len] at hi
    obtain ⟨T, a, b, rfl, hT, rfl, ha, hb⟩ := k.yields i H v H2 (by rw [da.length, db.length]; exact hi) (hG g' H w x r) y
    have ha' := List.getElem?_eq_getElem (show i < as.length by omega)
    have hb' := List.getElem?_eq_getElem (show i < bs.length by omega)
    obtain ⟨a', h1, h2⟩ := da.get ha'
    obtain ⟨b', h3, h4⟩ := db.get hb'
    have ha : xs[i]? = some a := ha
    have hb : ys[i]? = some b := hb
    rw [ha] at h1
    rw [hb] at h3
    cases h1
    cases h3
    exact ⟨g'.put T (.tup [a, b]), _, zipD_get ha' hb', Xt.put (r.fnone hT), r.put hT, newT r hT (.cons (h2.mono x _ _) (.cons (h4.mono x _ _) .nil))⟩
def iZ (fa : FA) : FA := fun ρ w => (fa ρ w).bind fun ds w1 => match ds with
  | [.list as, .list bs] => .ok (zipD as bs) w1
  | [.tuple as, .tuple bs] => .ok (zipD as bs) w1
  | _ => .no
theorem pif_zip {a b : Expr} {fa : FA} {p pos tpos : Pos} {elts : List Expr} {kk : Nat} (hg : Gl X "zip") (hm : X.mg "zip" = none) (ha : PAf X W [a, b] fa) (hs : starEach [a, b] X.env = (false, eval a X.env) :: starEach [b] X.env := by rfl) (hpl : (backTo pos (starEach [b] X.env)).any (·.1) = false := by rfl) :
    PIf X W (.Tuple elts kk tpos) (.Call (.Name "zip" p) [a, b] [] pos) (iZ fa) := by
  refine pi_imp (RZ.pi_zipA hg hm ha hs hpl) fun σ H R ⟨g, ρ, w, hK, r, e, q⟩ => ?_
  refine lX_bind hK r e q fun v H1 g1 d w1 x r1 e1 dv z => ?_
  have hK1 := x.k.trans hK
  split at z
  · cases dv with
    | cons d0 dn =>
      cases dn with
      | cons d1 dn =>
        cases dn
        cases d0 with
        | lst s0 a0 =>
          cases d1 with
          | lst s1 a1 =>
            refine ⟨_, _, _, _, rfl, .inl ⟨hK1 ▸ r1.sqL s0, hK1 ▸ r1.sqL s1, hK1 ▸ z _ H1 g1 (Xt.refl _) r1 (wk_pair (walk_zip rfl) (fun g' H w x r => ?_) a0 a1)⟩⟩
            exact ⟨x.k ▸ r.sqL (x.sqL s0), x.k ▸ r.sqL (x.sqL s1)⟩
  · cases dv with
    | cons d0 dn =>
      cases dn with
      | cons d1 dn =>
        cases dn
        cases d0 with
        | tup s0 a0 =>
          cases d1 with
          | tup s1 a1 =>
            refine ⟨_, _, _, _, rfl, .inr ⟨hK1 ▸ r1.sqT s0, hK1 ▸ r1.sqT s1, hK1 ▸ z _ H1 g1 (Xt.refl _) r1 (wk_pair walk_zipT (fun g' H w x r => ?_) a0 a1)⟩⟩
            exact ⟨x.k ▸ r.sqT (x.sqT s0), x.k ▸ r.sqT (x.sqT s1)⟩
  · exact z.elim

/-! ### for -/
def forL (gt : FG) (body : FS) : List PyData → Ev → Ws → Os
  | [], ρ, w => .nx ρ w
  | d :: ds, ρ, w => match gt d ρ w with
    | .ok ρ1 w1 => match body ρ1 w1 with
      | .nx ρ2 w2 => forL gt body ds ρ2 w2
      | .ct ρ2 w2 => forL gt body ds ρ2 w2
      | .bk ρ2 w2 => .nx ρ2 w2
      | o => o
    | _ => .no
def sFor (fi : FA) (gt : FG) (body : FS) : FS := fun ρ w => (fi ρ w).thenS ρ fun ds w1 => forL gt body ds ρ w1
theorem psf_for {tg iter : Expr} {body : List Stmt} {pos : Pos} {fi : FA} {gt : FG} {is : List Nat} {fb : FS} (hp : PassesOwn (model X.prog X.w) X.A X.env X.xe) (hc : X.calm = true) (hi : PIf X W tg iter fi) (hg : PGf X is tg gt) (hb : PSsf X W body fb)
    (hs : ∀ x, foldedSetIterable iter X.env x = pure x := by intro _; rfl) : PSf X W (.For tg iter body [] pos) (sFor fi gt fb) := by
  refine ps_imp (ps_for hp hc hi hg hb hs) fun D σ H ⟨g, ρ, w, hK, r, e, q⟩ => ?_
  refine lX_then hK r e q fun J H1 g1 ds w1 x r1 e1 wk z => ?_
  refine ⟨fun i m σ' H' => m = ds.length - i ∧ i ≤ ds.length ∧ ∃ g' ρ' w', Xt g1 g' ∧ Rp g' H' w' ∧ EnR g' σ' ρ' ∧ oSt W g' D (forL gt fb (ds.drop i) ρ' w'), ⟨ds.length, by simp, Nat.zero_le _, g1, ρ, w1, Xt.refl _, r1, e1, z⟩, ?_⟩
  rintro i m σ' H' ⟨rfl, hi, g', ρ', w', x', r', e', z'⟩
  by_cases hlt : i < ds.length
  · refine .inr ⟨wk.go g' H' w' i x'.toXt0 r' hlt, fun σ2 H2 => i + 1 ≤ ds.length ∧ ∃ g2 ρ2 w2, Xt g1 g2 ∧ Rp g2 H2 w2 ∧ EnR g2 σ2 ρ2 ∧ oSt W g2 D (forL gt fb (ds.drop (i + 1)) ρ2 w2), fun σ2 H2 n => ⟨ds.length - (i + 1), by omega, rfl, n⟩, fun v H2 y => ?_⟩
    obtain ⟨g2, d, hd, x2, r2, dv⟩ := wk.yld g' H' w' i v H2 x'.toXt0 r' hlt y
    have ed : ds.drop i = d :: ds.drop (i + 1) := by
      rw [List.drop_eq_getElem_cons hlt]
      rw [List.getElem?_eq_getElem hlt] at hd
      rw [Option.some.inj hd]
    rw [ed, forL] at z'
    refine ⟨g2, ρ', w', d, x2.k.trans (x'.k.trans (x.k.trans hK)), r2, e'.mono x2, dv, ?_⟩
    cases hgt : gt d ρ' w' with
    | ok ρ1 w1' =>
      rw [hgt] at z'
      refine fun σ3 H3 g3 x3 r3 e3 _ => ⟨g3, ρ1, w1', x3.k.trans (x2.k.trans (x'.k.trans (x.k.trans hK))), r3, e3, ?_⟩
      have z' := oSt.mono (x2.trans x3) z'
      have up : Xt g1 g3 := x'.trans (x2.trans x3)
      simp only at z'
      cases hb' : fb ρ1 w1' with
      | nx ρ2 w2 =>
        rw [hb'] at z'
        exact fun σ4 H4 g4 x4 r4 e4 => ⟨hlt, g4, ρ2, w2, up.trans x4, r4, e4, oSt.mono x4 z'⟩
      | ct ρ2 w2 =>
        rw [hb'] at z'
        exact fun σ4 H4 g4 x4 r4 e4 => ⟨hlt, g4, ρ2, w2, up.trans x4, r4, e4, oSt.mono x4 z'⟩
      | bk ρ2 w2 => rw [hb'] at z'; exact z'
      | rt d w2 => rw [hb'] at z'; exact z'
      | ex ρ2 c fs w2 => rw [hb'] at z'; exact z'
      | no => rw [hb'] at z'; exact z'
    | ex c fs w2 => rw [hgt] at z'; exact z'.elim
    | no => rw [hgt] at z'; exact z'.elim
  · have ei : i = ds.length := by omega
    subst ei
    rw [List.drop_length, forL] at z'
    exact .inl ⟨wk.stop g' H' w' x'.toXt0 r', z' σ' H' g' (Xt.refl _) r' e'⟩
end
end Td

set_option Elab.async false
set_option linter.all false
set_option maxRecDepth 100000
set_option maxHeartbeats 4000000
namespace Td
open PySem L2
/-! ### comprehensions -/
def wipeE (ρ : Ev) : List Nat → Ev
  | [] => ρ
  | v :: vs => (wipeE ρ vs).set v none
theorem wipeE_len (ρ : Ev) : ∀ vs, (wipeE ρ vs).length = ρ.length
  | [] => rfl
  | v :: vs => by unfold wipeE; rw [List.length_set, wipeE_len ρ vs]
theorem wipe_get (σ : St) (j : Nat) : ∀ vs, j ∉ vs → (wipe σ vs)[j]? = σ[j]?
  | [], _ => rfl
  | v :: vs, h => by
    unfold wipe
    rw [List.getElem?_set_ne (fun e => h (by rw [e]; exact List.mem_cons_self))]
    exact wipe_get σ j vs fun z => h (List.mem_cons_of_mem _ z)
theorem wipe_at (σ : St) (j : Nat) : ∀ vs, j ∈ vs → j < σ.length → (wipe σ vs)[j]? = some none
  | v :: vs, h, hl => by
    unfold wipe
    by_cases e : v = j
    · subst e
      rw [List.getElem?_set_self (by rw [wipe_length]; exact hl)]
    · rw [List.getElem?_set_ne e]
      rcases List.mem_cons.mp h with z | z
      · exact absurd z.symm e
      · exact wipe_at σ j vs z hl
theorem EnR.wipe {g : Gd} {σ : St} {ρ : Ev} (e : EnR g σ ρ) : ∀ vs, EnR g (wipe σ vs) (wipeE ρ vs)
  | [] => e
  | v :: vs => by
    have h := EnR.wipe e vs
    refine ⟨by unfold L2.wipe wipeE; rw [List.length_set, List.length_set]; exact h.len, fun j c hj => ?_⟩
    unfold wipeE at hj
    by_cases q : v = j
    · subst q
      by_cases z : v < (wipeE ρ vs).length
      · rw [List.getElem?_set_self z] at hj; cases hj
      · rw [List.getElem?_eq_none (by rw [List.length_set]; omega)] at hj; cases hj
    · rw [List.getElem?_set_ne q] at hj
      unfold L2.wipe
      rw [List.getElem?_set_ne q]
      exact h.at_ j c hj
theorem wipe_of_sm {is vs : List Nat} {σ σ' : St} (h : Sm is (wipe σ vs) σ') (hs : ∀ i ∈ is, i ∈ vs) : wipe σ' vs = wipe σ vs := by
  have hl : σ'.length = σ.length := h.1.trans (wipe_length σ vs)
  refine List.ext_getElem? fun j => ?_
  by_cases hj : j ∈ vs
  · by_cases hb : j < σ.length
    · rw [wipe_at σ' j vs hj (by omega), wipe_at σ j vs hj hb]
    · rw [List.getElem?_eq_none (by rw [wipe_length]; omega), List.getElem?_eq_none (by rw [wipe_length]; omega)]
  · rw [wipe_get σ' j vs hj, h.2 j fun z => hj (hs j z)]
def lcL (gt : FG) (tt : FT) (fe : FE) (ρ : Ev) : List PyData → Ws → List PyData → Oc (List PyData)
  | [], w, acc => .ok acc w
  | d :: ds, w, acc => match gt d ρ w with
    | .ok ρ1 w1 => match tt ρ1 w1 with
      | .ok true w2 => match fe ρ1 w2 with
        | .ok y w3 => if acc.length < sizeLine then lcL gt tt fe ρ ds w3 (acc ++ [y]) else .no
        | _ => .no
      | .ok false w2 => lcL gt tt fe ρ ds w2 acc
      | _ => .no
    | _ => .no
def eLc (fi : FA) (gt : FG) (tt : FT) (fe : FE) (vs : List Nat) : FE := fun ρ w => (fi ρ w).bind fun ds w1 => (lcL gt tt fe (wipeE ρ vs) ds w1 []).bind fun acc w2 => .ok (.list acc) w2
def W0 : WX := fun _ _ _ _ => False
def Gd.pn (g : Gd) (P : Hp) : Gd := { g with P := P }
theorem Gd.pn_xt (g : Gd) (P : Hp) : Xt0 g (g.pn P) := ⟨rfl, fun _ _ h => h, fun _ _ => rfl, Nat.le_refl _⟩
theorem Gd.pn_xt' (g : Gd) (P : Hp) : Xt0 (g.pn P) g := ⟨rfl, fun _ _ h => h, fun _ _ => rfl, Nat.le_refl _⟩
theorem tests_imp {X : Cx} {e : List Expr} {t t' : TT} (h : PTs X e t) (i : ∀ σ H Q, t' σ H Q → t σ H Q) : PTs X e t' := ⟨fun pins s σ H Q I q => h.run pins s σ H Q I (i σ H Q q)⟩
def tYs : FT := fun _ w => .ok true w
section
variable {X : Cx} {W : WX}
theorem ptsf_nil : PTs X [] (lT X.K W tYs) := tests_imp pts_nil fun σ H Q ⟨g, ρ, w, hK, r, e, q⟩ => q true H g (Xt.refl g) r rfl
theorem ptsf_one {e : Expr} {t : FT} (h : PTf X W e t) : PTs X [e] (lT X.K W t) := pts_one h
/-- the new list at D, which others hold -/
theorem pin_new {g : Gd} {H : Hp} {w : Ws} (r : Rp g H w) {D : Addr} (hD : H D = none) (o : HO) : Rp (g.pn (upd g.P D o)) (upd H D o) w where
  fro := fun a u e => by
    have e : g.F a = some u := e
    rw [upd_ne (ne_of_none e (r.fnone hD))]
    exact r.fro a u e
  len := r.len
  cell := fun l ob e => (r.cell l ob e).new (g.pn_xt _) fun b hb => by
    have nb : b ≠ D := fun z => by subst z; rw [hD] at hb; cases hb
    exact ⟨rfl, upd_ne nb⟩
  inj := r.inj
  pin := fun a u e => by
    have e : upd g.P D o a = some u := e
    by_cases q : a = D
    · subst q
      rw [upd_same] at e ⊢
      refine ⟨e, r.fnone hD, fun l hl z => ?_⟩
      have hlw : l < w.length := by rw [← r.len]; exact hl
      obtain ⟨o', ho⟩ := (r.cell l _ (List.getElem?_eq_getElem hlw)).there
      have z : g.μ l = a := z
      rw [z, hD] at ho
      cases ho
    · rw [upd_ne q] at e ⊢
      exact r.pin a u e
/-- it grows -/
theorem pin_set {g : Gd} {H : Hp} {w : Ws} {P : Hp} {D : Addr} {o o' : HO} (r : Rp g H w) (hP : g.P = upd P D o) (hno : ∀ a, o ≠ .own a) : Rp (g.pn (upd P D o')) (upd H D o') w := by
  obtain ⟨h1, h2, h3⟩ := r.pin D o (by rw [hP]; exact upd_same)
  refine ⟨fun a u e => ?_, r.len, fun l ob e => ?_, r.inj, fun a u e => ?_⟩
  · have e : g.F a = some u := e
    rw [upd_ne (ne_of_none e h2)]
    exact r.fro a u e
  · have hl : l < g.n := by rw [r.len]; exact (List.getElem?_eq_some_iff.mp e).1
    have nD := h3 l hl
    have c := r.cell l ob e
    cases ob with
    | lst ds =>
      obtain ⟨hn, xs, h, d⟩ := c
      exact ⟨hn, xs, (upd_ne nD).trans h, d.mono (g.pn_xt _) _ _⟩
    | dK kvs =>
      obtain ⟨hn, ks, h, d⟩ := c
      exact ⟨hn, ks, (upd_ne nD).trans h, d.mono (g.pn_xt _)⟩
    | ins C fs =>
      obtain ⟨hn, dx, gs, ⟨C', hC, h⟩, hd, hn2, d⟩ := c
      have nx : dx ≠ D := fun z => by rw [z, h1] at hd; exact hno _ (Option.some.inj hd)
      exact ⟨hn, dx, gs, ⟨C', hC, (upd_ne nD).trans h⟩, (upd_ne nx).trans hd, hn2, d.mono (g.pn_xt _)⟩
    | dead =>
      obtain ⟨o2, h⟩ := c
      exact ⟨o2, (upd_ne nD).trans h⟩
  · have e : upd P D o' a = some u := e
    by_cases q : a = D
    · subst q
      rw [upd_same] at e ⊢
      exact ⟨e, h2, h3⟩
    · rw [upd_ne q] at e ⊢
      exact r.pin a u (by rw [hP, upd_ne q]; exact e)
/-- it is given out -/
theorem pin_out {g : Gd} {H : Hp} {w : Ws} {P : Hp} {D : Addr} {o : HO} (r : Rp g H w) (hP : g.P = upd P D o) (hno : ∀ a, o ≠ .own a) (hD : P D = none) : Rp { g with P := P, F := upd g.F D o } H w := by
  obtain ⟨h1, h2, h3⟩ := r.pin D o (by rw [hP]; exact upd_same)
  have x : Xt0 g { g with P := P, F := upd g.F D o } := ⟨rfl, fun a u e => (upd_ne (ne_of_none e h2)).trans e, fun _ _ => rfl, Nat.le_refl _⟩
  refine ⟨fun a u e => ?_, r.len, fun l ob e => ?_, r.inj, fun a u e => ?_⟩
  · have e : upd g.F D o a = some u := e
    by_cases q : a = D
    · subst q
      rw [upd_same] at e
      exact h1.trans e
    · rw [upd_ne q] at e
      exact r.fro a u e
  · have hl : l < g.n := by rw [r.len]; exact (List.getElem?_eq_some_iff.mp e).1
    have nD := h3 l hl
    have c := r.cell l ob e
    cases ob with
    | lst ds =>
      obtain ⟨hn, xs, h, d⟩ := c
      exact ⟨(upd_ne nD).trans hn, xs, h, d.mono x _ _⟩
    | dK kvs =>
      obtain ⟨hn, ks, h, d⟩ := c
      exact ⟨(upd_ne nD).trans hn, ks, h, d.mono x⟩
    | ins C fs =>
      obtain ⟨hn, dx, gs, ⟨C', hC, h⟩, hd, hn2, d⟩ := c
      have nx : dx ≠ D := fun z => by rw [z, h1] at hd; exact hno _ (Option.some.inj hd)
      exact ⟨(upd_ne nD).trans hn, dx, gs, ⟨C', hC, h⟩, hd, (upd_ne nx).trans hn2, d.mono x⟩
    | dead =>
      obtain ⟨o2, h⟩ := c
      exact ⟨o2, h⟩
  · have e : P a = some u := e
    have na : a ≠ D := fun z => by rw [z, hD] at e; cases e
    obtain ⟨q1, q2, q3⟩ := r.pin a u (by rw [hP, upd_ne na]; exact e)
    exact ⟨q1, (upd_ne na).trans q2, q3⟩
theorem lc_of {fi : FA} {gt : FG} {tt : FT} {fe : FE} {vs is : List Nat} {K : PySem.W.Frag} (hs : ∀ i ∈ is, i ∈ vs) : ∀ σ H Q, lE K W (eLc fi gt tt fe vs) σ H Q → tLc (lI K W fi) (lG K is gt) (lT K W0 tt) (lE K W0 fe) vs σ H Q := fun σ H Q ⟨g, ρ, w, hK, r, e, q⟩ => by
  refine lX_bind hK r e q fun J H1 g1 ds w1 x r1 e1 wk z => ?_
  intro D hD
  have hK1 := x.k.trans hK
  have pD : g1.P D = none := by
    cases h : g1.P D with
    | none => rfl
    | some o => rw [(r1.pin D o h).1] at hD; cases hD
  have r0 := pin_new r1 hD (.lst [])
  refine ⟨fun i m H' => m = ds.length - i ∧ i ≤ ds.length ∧ ∃ g' w' acc dacc, Xt0 g1 g' ∧ g'.P = upd g1.P D (.lst acc) ∧ Rp g' H' w' ∧ DqA g' acc dacc ∧ lcL gt tt fe (wipeE ρ vs) (ds.drop i) w' dacc = lcL gt tt fe (wipeE ρ vs) ds w1 [],
    ⟨ds.length, by simp, Nat.zero_le _, _, w1, [], [], g1.pn_xt _, rfl, r0, .nil, rfl⟩, ?_⟩
  rintro i m H' ⟨rfl, hi, g', w', acc, dacc, x', hP, r', da, z'⟩
  by_cases hlt : i < ds.length
  · refine .inr ⟨wk.go g' H' w' i x' r' hlt, fun H2 => i + 1 ≤ ds.length ∧ ∃ g' w' acc dacc, Xt0 g1 g' ∧ g'.P = upd g1.P D (.lst acc) ∧ Rp g' H2 w' ∧ DqA g' acc dacc ∧ lcL gt tt fe (wipeE ρ vs) (ds.drop (i + 1)) w' dacc = lcL gt tt fe (wipeE ρ vs) ds w1 [],
      fun H2 n => ⟨ds.length - (i + 1), by omega, rfl, n⟩, fun v H2 y => ?_⟩
    obtain ⟨g2, d, hd, x2, r2, dv⟩ := wk.yld g' H' w' i v H2 x' r' hlt y
    have ed : ds.drop i = d :: ds.drop (i + 1) := by
      rw [List.drop_eq_getElem_cons hlt]
      rw [List.getElem?_eq_getElem hlt] at hd
      rw [Option.some.inj hd]
    rw [ed, lcL] at z'
    rw [← z'] at z
    refine ⟨g2, wipeE ρ vs, w', d, x2.k.trans (x'.k.trans hK1), r2, (e1.mono (x'.trans x2.toXt0)).wipe vs, dv, ?_⟩
    cases hgt : gt d (wipeE ρ vs) w' with
    | ok ρ1 w1' =>
      rw [hgt] at z z'
      refine fun σ3 H3 g3 x3 r3 e3 sm => ⟨wipe_of_sm sm hs, g3, ρ1, w1', x3.k.trans (x2.k.trans (x'.k.trans hK1)), r3, e3, ?_⟩
      simp only at z z'
      cases htt : tt ρ1 w1' with
      | ok b w2 =>
        rw [htt] at z z'
        intro b' H4 g4 x4 r4 eb
        subst eb
        have P4 : g4.P = upd g1.P D (.lst acc) := x4.p.trans (x3.p.trans (x2.p.trans hP))
        have y4 : Xt0 g1 g4 := x'.trans (x2.toXt0.trans (x3.toXt0.trans x4.toXt0))
        have da4 : DqA g4 acc dacc := da.mono (x2.toXt0.trans (x3.toXt0.trans x4.toXt0)) _ _
        cases b' with
        | false => exact iteF ⟨hlt, g4, w2, acc, dacc, y4, P4, r4, da4, z'⟩
        | true =>
          refine iteT ⟨g4, ρ1, w2, y4.k.trans hK1, r4, e3.mono x4.toXt0, ?_⟩
          simp only at z z'
          cases hfe : fe ρ1 w2 with
          | ok d5 w3 =>
            rw [hfe] at z z'
            intro v5 H5 g5 x5 r5 dv5
            simp only at z z'
            have P5 : g5.P = upd g1.P D (.lst acc) := x5.p.trans P4
            by_cases hsz : dacc.length < sizeLine
            · rw [if_pos hsz] at z'
              have pD5 := r5.pin D (.lst acc) (by rw [P5]; exact upd_same)
              refine ⟨acc, pD5.1, by rw [da.length]; exact hsz, hlt, g5.pn (upd g1.P D (.lst (acc ++ [v5]))), w3, acc ++ [v5], dacc ++ [d5], (y4.trans x5.toXt0).trans (g5.pn_xt _), rfl, pin_set r5 P5 (fun a z => nomatch z), ?_, z'⟩
              exact (da4.mono (x5.toXt0.trans (g5.pn_xt _)) _ _).append (.cons (dv5.mono (g5.pn_xt _) _ _) .nil)
            · rw [if_neg hsz] at z
              exact z.elim
          | ex c fs w3 => rw [hfe] at z; exact z.elim
          | no => rw [hfe] at z; exact z.elim
      | ex c fs w2 => rw [htt] at z; exact z.elim
      | no => rw [htt] at z; exact z.elim
    | ex c fs w2 => rw [hgt] at z; exact z.elim
    | no => rw [hgt] at z; exact z.elim
  · have ei : i = ds.length := by omega
    subst ei
    rw [List.drop_length, lcL] at z'
    rw [← z'] at z
    refine .inl ⟨wk.stop g' H' w' x' r', ?_⟩
    have pD' := r'.pin D (.lst acc) (by rw [hP]; exact upd_same)
    have xo : Xt0 g' { g' with P := g1.P, F := upd g'.F D (.lst acc) } := ⟨rfl, fun a u e => (upd_ne (ne_of_none e pD'.2.1)).trans e, fun _ _ => rfl, Nat.le_refl _⟩
    exact z _ H' { g' with P := g1.P, F := upd g'.F D (.lst acc) } ⟨x'.trans xo, rfl⟩ (pin_out r' hP (fun a z => nomatch z) pD) (.lst (SqL.of upd_same) (da.mono xo _ _))
theorem pf_lc {elt tg iter : Expr} {ifs : List Expr} {scope : Scope} {own : List (Str × Nat)} {pos : Pos} {fi : FA} {gt : FG} {tt : FT} {fe : FE} {is : List Nat} (hc : X.calm = true) (hN : X.N.Nodup) (hi : PIf X W tg iter fi) (ok : BlkOk X.N X.env.scope scope own)
    (hg : ∀ (s : Shared) (H : Hp) (C : Addr) (cl : List (Str × Addr)) (fp : List Addr), PGf (X.blk s H scope (compEnvC scope cl C X.env) fp) is tg gt)
    (ht : ∀ (s : Shared) (H : Hp) (C : Addr) (cl : List (Str × Addr)) (fp : List Addr), PTs (X.blk s H scope (compEnvC scope cl C X.env) fp) ifs (lT X.K W0 tt))
    (he : ∀ (s : Shared) (H : Hp) (C : Addr) (cl : List (Str × Addr)) (fp : List Addr), PF (X.blk s H scope (compEnvC scope cl C X.env) fp) W0 elt fe)
    (hs : ∀ x, foldedSetIterable iter X.env x = pure x := by intro _; rfl) (his : ∀ i ∈ is, i ∈ own.map (·.2) := by decide) :
    PF X W (.ListComp elt [⟨tg, iter, ifs, 0⟩] scope pos) (eLc fi gt tt fe (own.map (·.2))) := pe_imp (pe_lc hc hN hi ok hg ht he hs) (lc_of his)
theorem psf_setLc {i : Nat} {y : Str} {py : Pos} {elt tg iter : Expr} {ifs : List Expr} {scope : Scope} {own : List (Str × Nat)} {pos spos : Pos} {fi : FA} {gt : FG} {tt : FT} {fe : FE} {is : List Nat} (hc : X.calm = true) (hN : X.N.Nodup) (hy : X.N[i]? = some y) (hyl : X.env.scope.names.lookup y = some .local)
    (hsw : swapsWith (.ListComp elt [⟨tg, iter, ifs, 0⟩] scope pos) (some (.Name y py)) spos.line X.env = pure true) (hi : PIf X W tg iter fi) (ok : BlkOk X.N X.env.scope scope own)
    (hg : ∀ (s : Shared) (H : Hp) (C : Addr) (cl : List (Str × Addr)) (fp : List Addr), PGf (X.blk s H scope (compEnvC scope cl C X.env) fp) is tg gt)
    (ht : ∀ (s : Shared) (H : Hp) (C : Addr) (cl : List (Str × Addr)) (fp : List Addr), PTs (X.blk s H scope (compEnvC scope cl C X.env) fp) ifs (lT X.K W0 tt))
    (he : ∀ (s : Shared) (H : Hp) (C : Addr) (cl : List (Str × Addr)) (fp : List Addr), PF (X.blk s H scope (compEnvC scope cl C X.env) fp) W0 elt fe)
    (hs : ∀ x, foldedSetIterable iter X.env x = pure x := by intro _; rfl) (his : ∀ i ∈ is, i ∈ own.map (·.2) := by decide) :
    PSf X W (.Assign [.Name y py] (.ListComp elt [⟨tg, iter, ifs, 0⟩] scope pos) spos) (sAsg (eLc fi gt tt fe (own.map (·.2))) (gN i)) := by
  refine ps_imp (ps_setLc (g := lG X.K is gt) (tt := lT X.K W0 tt) (te := lE X.K W0 fe) hc hN hy hyl hsw hi ok hg ht he hs) fun D σ H q => ?_
  obtain ⟨g, ρ, w, hK, r, e, q⟩ := q
  refine lc_of (W := W) his σ H _ ?_
  exact lX_then hK r e q fun v H1 g1 d w1 x r1 e1 dv z => z _ H1 g1 (Xt.refl _) r1 (e1.set i dv)
end
end Td

set_option Elab.async false
set_option linter.all false
set_option maxRecDepth 100000
set_option maxHeartbeats 4000000
namespace Td
open PySem L2
/-! ### dicts of the store -/
def valD (kvs : List (Key × PyData)) (k : Key) : Option PyData := (kvs.find? fun kv => decide (kv.1 = k)).map (·.2)
def putD (kvs : List (Key × PyData)) (k : Key) (v : PyData) : List (Key × PyData) :=
  if (kvs.any fun kv => decide (kv.1 = k)) = true then kvs.map (fun kv => if kv.1 = k then (kv.1, v) else kv) else kvs ++ [(k, v)]
def mergeD (kvs more : List (Key × PyData)) : List (Key × PyData) := more.foldl (fun acc kv => putD acc kv.1 kv.2) kvs
def keyD : PyData → Option Key
  | .int i => some (.inl i)
  | .str x => some (.inr x)
  | _ => none
theorem keyD_ok {g : Gd} {v : V} {d : PyData} (h : Dq g v d) {k : Key} (e : keyD d = some k) : v = kV k := by
  cases h <;> cases e <;> rfl
theorem KvR.val {g : Gd} : ∀ {ks : List (Key × V)} {kvs : List (Key × PyData)} {k : Key} {d : PyData}, KvR g ks kvs → valD kvs k = some d → ∃ v, valV ks k = some v ∧ Dq g v d
  | _, _, _, _, .nil, e => by simp [valD] at e
  | p :: ks, q :: kvs, k, d, .cons h t, e => by
    have hk : p.1 = q.1 := h.1
    by_cases z : q.1 = k
    · have e' : some q.2 = some d := by simpa [valD, List.find?_cons, z] using e
      cases e'
      exact ⟨p.2, valV_pos (hk.trans z), h.2⟩
    · have e' : valD kvs k = some d := by simpa [valD, List.find?_cons, z] using e
      obtain ⟨v, h1, h2⟩ := KvR.val t e'
      exact ⟨v, by rw [valV_neg (by rw [hk]; exact z)]; exact h1, h2⟩
theorem KvR.any {g : Gd} {k : Key} : ∀ {ks : List (Key × V)} {kvs : List (Key × PyData)}, KvR g ks kvs → (ks.any fun kv => decide (kv.1 = k)) = kvs.any fun kv => decide (kv.1 = k)
  | _, _, .nil => rfl
  | _, _, .cons h t => by rw [List.any_cons, List.any_cons, h.1, KvR.any t]
theorem KvR.map_set {g : Gd} {k : Key} {v : V} {d : PyData} (hd : Dq g v d) : ∀ {ks : List (Key × V)} {kvs : List (Key × PyData)}, KvR g ks kvs → KvR g (ks.map (fun kv => if kv.1 = k then (kv.1, v) else kv)) (kvs.map (fun kv => if kv.1 = k then (kv.1, d) else kv))
  | _, _, .nil => .nil
  | p :: ks, q :: kvs, .cons h t => by
    refine .cons ?_ (KvR.map_set hd t)
    have hk : p.1 = q.1 := h.1
    dsimp only
    by_cases z : q.1 = k
    · rw [if_pos (hk.trans z), if_pos z]; exact ⟨hk, hd⟩
    · rw [if_neg (by rw [hk]; exact z), if_neg z]; exact h
theorem KvR.append {g : Gd} {κ : Type} : ∀ {ks ls : List (κ × V)} {kvs lvs : List (κ × PyData)}, KvR g ks kvs → KvR g ls lvs → KvR g (ks ++ ls) (kvs ++ lvs)
  | _, _, _, _, .nil, s => s
  | _, _, _, _, .cons h t, s => .cons h (KvR.append t s)
theorem KvR.length {g : Gd} {κ : Type} {ks : List (κ × V)} {kvs : List (κ × PyData)} (h : KvR g ks kvs) : ks.length = kvs.length := Paired.length h
theorem KvR.put {g : Gd} {k : Key} {v : V} {d : PyData} {ks : List (Key × V)} {kvs : List (Key × PyData)} (h : KvR g ks kvs) (hd : Dq g v d) : KvR g (putK ks k v) (putD kvs k d) := by
  unfold putK putD
  rw [h.any]
  split
  · exact h.map_set hd
  · exact h.append (.cons ⟨rfl, hd⟩ .nil)
theorem KvR.merge {g : Gd} : ∀ {more : List (Key × V)} {mores : List (Key × PyData)} {ks : List (Key × V)} {kvs : List (Key × PyData)}, KvR g more mores → KvR g ks kvs → KvR g (mergeK ks more) (mergeD kvs mores)
  | _, _, _, _, .nil, s => s
  | p :: _, q :: _, _, _, .cons h t, s => by
    unfold mergeK mergeD
    rw [List.foldl_cons, List.foldl_cons]
    have hk : p.1 = q.1 := h.1
    rw [hk]
    exact KvR.merge t (s.put h.2)
section
variable {X : Cx} {W : WX}
def eDg (fa fb : FE) : FE := fun ρ w => (fa ρ w).bind fun d w1 => (fb ρ w1).bind fun e w2 => Oc.of ((dkOf w2 d).bind fun kvs => (keyD e).bind fun k => valD kvs k) w2
theorem pf_dget {o i : Expr} {pos : Pos} {fa fb : FE} (hu : X.A.units + 1 < cLine) (ho : PF X W o fa) (hi : PF X W i fb) (hs : NoSl i := by exact fun _ _ => rfl) : PF X W (.Subscript o i pos) (eDg fa fb) := by
  refine pe_imp (pe_dget hu ho hi hs) fun σ H Q ⟨g, ρ, w, hK, r, e, q⟩ => ?_
  refine lX_bind hK r e q fun v H1 g1 d w1 x r1 e1 dv z => ?_
  refine lX_bind (x.k.trans hK) r1 e1 z fun u H2 g2 c w2 x2 r2 e2 du z2 => ?_
  cases hz : (dkOf w2 d).bind fun kvs => (keyD c).bind fun k => valD kvs k with
  | none => rw [hz] at z2; exact z2.elim
  | some y =>
    rw [hz] at z2
    obtain ⟨kvs, h1, hz⟩ := Option.bind_eq_some_iff.mp hz
    obtain ⟨k, h2, h3⟩ := Option.bind_eq_some_iff.mp hz
    obtain ⟨l, xs, rfl, _, _, _, hH, kv⟩ := dkOf_ok r2 (dv.mono x2.toXt0 _ _) h1
    obtain ⟨v', h4, h5⟩ := kv.val h3
    have ek := keyD_ok du h2
    subst ek
    refine ⟨_, v', rfl, ?_, z2 _ H2 g2 (Xt.refl _) r2 h5⟩
    rw [← h4]
    exact DGet.k hH
/-- the store's cell l is written -/
theorem Rp.write {g : Gd} {H : Hp} {w : Ws} (r : Rp g H w) {l : Nat} {ob ob' : Ob} {o : HO} (hl : w[l]? = some ob) (hn : g.F (g.μ l) = none) (hno : ∀ a b, H (g.μ l) = some b → b ≠ .own a) (ho : ObR g (upd H (g.μ l) o) (g.μ l) ob') : Rp g (upd H (g.μ l) o) (w.set l ob') := by
  have hlt : l < g.n := by rw [r.len]; exact (List.getElem?_eq_some_iff.mp hl).1
  obtain ⟨o0, h0⟩ := (r.cell l ob hl).there
  refine ⟨fun a u e => ?_, by rw [List.length_set]; exact r.len, fun m ob2 e => ?_, r.inj, fun a u e => ?_⟩
  · rw [upd_ne (ne_of_none e hn)]
    exact r.fro a u e
  · by_cases q : l = m
    · subst q
      rw [List.getElem?_set_self (by rw [← r.len]; exact hlt)] at e
      cases e
      exact ho
    · rw [List.getElem?_set_ne q] at e
      have hm : m < g.n := by rw [r.len]; exact (List.getElem?_eq_some_iff.mp e).1
      have nm : g.μ m ≠ g.μ l := fun z => q (r.inj m l hm hlt z).symm
      have c := r.cell m ob2 e
      cases ob2 with
      | lst ds =>
        obtain ⟨hn, xs, h, d⟩ := c
        exact ⟨hn, xs, (upd_ne nm).trans h, d⟩
      | dK kvs =>
        obtain ⟨hn, ks, h, d⟩ := c
        exact ⟨hn, ks, (upd_ne nm).trans h, d⟩
      | ins C fs =>
        obtain ⟨hn, dx, gs, ⟨C', hC, h⟩, hd, hn2, d⟩ := c
        have nx : dx ≠ g.μ l := fun z => by rw [z] at hd; exact hno _ _ hd rfl
        exact ⟨hn, dx, gs, ⟨C', hC, (upd_ne nm).trans h⟩, (upd_ne nx).trans hd, hn2, d⟩
      | dead =>
        obtain ⟨o2, h⟩ := c
        exact ⟨o2, (upd_ne nm).trans h⟩
  · obtain ⟨q1, q2, q3⟩ := r.pin a u e
    exact ⟨(upd_ne (fun z => q3 l hlt z.symm)).trans q1, q2, q3⟩
/-- d[k] = v -/
def locOf : PyData → Option Nat
  | .dict [(.int l, .none)] => some l.toNat
  | _ => none
def sDp (fa fb fv : FE) : FS := fun ρ w => (fv ρ w).thenS ρ fun v w1 => (fa ρ w1).thenS ρ fun d w2 => (fb ρ w2).thenS ρ fun e w3 =>
  match dkOf w3 d, keyD e, locOf d with
  | some kvs, some k, some l => if kvs.length < sizeLine then .nx ρ (w3.set l (.dK (putD kvs k v))) else .no
  | _, _, _ => .no
theorem psf_dput {o i value : Expr} {pos pos' : Pos} {fa fb fv : FE} (hu : X.A.units + 1 < cLine) (ho : PF X W o fa) (hi : PF X W i fb) (hv : PF X W value fv) (hs : swapsWith value (some (.Subscript o i pos')) pos.line X.env = pure false := by rfl) : PSf X W (.Assign [.Subscript o i pos'] value pos) (sDp fa fb fv) := by
  refine ps_imp (ps_dput hu ho hi hv hs) fun D σ H ⟨g, ρ, w, hK, r, e, q⟩ => ?_
  refine lX_then hK r e q fun v H1 g1 dv w1 x r1 e1 hv' z => ?_
  refine lX_then (x.k.trans hK) r1 e1 z fun a H2 g2 d w2 x2 r2 e2 hd z2 => ?_
  refine lX_then (x2.k.trans (x.k.trans hK)) r2 e2 z2 fun u H3 g3 c w3 x3 r3 e3 hc z3 => ?_
  split at z3
  · rename_i kvs k l h1 h2 h3
    split at z3
    · rename_i hsz
      obtain ⟨l', xs, rfl, hd', hw, hn, hH, kv⟩ := dkOf_ok r3 (hd.mono x3.toXt0 _ _) h1
      have el : l = l' := by rw [hd'] at h3; simp [locOf] at h3; exact h3.symm
      subst el
      have ek := keyD_ok hc h2
      subst ek
      have kv2 := kv.put (k := k) (hv'.mono (x2.toXt0.trans x3.toXt0) _ _)
      refine ⟨_, _, rfl, DPut.k hH (by rw [kv.length]; exact hsz), ?_⟩
      refine z3 σ _ g3 (Xt.refl _) (r3.write hw hn (fun a b hb z => ?_) ⟨hn, _, upd_same, kv2⟩) e3
      rw [hH] at hb
      cases hb
      cases z
    · exact z3.elim
  · exact z3.elim
end
end Td

set_option Elab.async false
set_option linter.all false
set_option maxRecDepth 100000
set_option maxHeartbeats 4000000
namespace Td
open PySem L2
theorem lX_w0 {α β : Type} {K : PySem.W.Frag} {W : WX} {R : Gd → β → α → Prop} {f : Ev → Ws → Oc α} : ∀ σ H Q, lX K W0 R f σ H Q → lX K W R f σ H Q := fun σ H Q ⟨g, ρ, w, hK, r, e, q⟩ => by
  refine ⟨g, ρ, w, hK, r, e, ?_⟩
  cases z : f ρ w with
  | ok d w1 => rw [z] at q; exact q
  | ex c fs w1 =>
    rw [z] at q
    intro dd H1 g1 x r1 y
    exact (q dd H1 g1 x r1 y).elim
  | no => rw [z] at q; exact q.elim
theorem pf_w0 {X : Cx} {W : WX} {e : Expr} {f : FE} (h : PF X W e f) : PF X W0 e f := pe_imp h lX_w0
/-- what others hold goes into the store -/
theorem pin_alloc {g : Gd} {H : Hp} {w : Ws} {P : Hp} {D : Addr} {o o' : HO} {ob : Ob} (r : Rp g H w) (hP : g.P = upd P D o) (hno : ∀ a, o ≠ .own a) (hD : P D = none)
    (ho : ObR { g with P := P, μ := fun l => if l = g.n then D else g.μ l, n := g.n + 1 } (upd H D o') D ob) :
    Rp { g with P := P, μ := fun l => if l = g.n then D else g.μ l, n := g.n + 1 } (upd H D o') (w ++ [ob]) := by
  obtain ⟨h1, h2, h3⟩ := r.pin D o (by rw [hP]; exact upd_same)
  have x : Xt0 g { g with P := P, μ := fun l => if l = g.n then D else g.μ l, n := g.n + 1 } := ⟨rfl, fun a u e => e, fun l hl => if_neg (by omega), Nat.le_succ _⟩
  refine ⟨fun a u e => ?_, ?_, fun l ob2 e => ?_, fun l m hl hm e => ?_, fun a u e => ?_⟩
  · rw [upd_ne (ne_of_none e h2)]
    exact r.fro a u e
  · show g.n + 1 = _
    rw [List.length_append, r.len]
    rfl
  · by_cases q : l = g.n
    · subst q
      rw [List.getElem?_append_right (by rw [r.len]; exact Nat.le_refl _), r.len, Nat.sub_self] at e
      cases e
      show ObR _ _ (if g.n = g.n then D else g.μ g.n) ob
      rw [if_pos rfl]
      exact ho
    · have hl : l < w.length := by
        have := (List.getElem?_eq_some_iff.mp e).1
        rw [List.length_append, List.length_singleton] at this
        rw [← r.len] at this ⊢
        omega
      rw [List.getElem?_append_left hl] at e
      have c := r.cell l ob2 e
      have nD := h3 l (by rw [r.len]; exact hl)
      show ObR _ _ (if l = g.n then D else g.μ l) ob2
      rw [if_neg q]
      cases ob2 with
      | lst ds =>
        obtain ⟨hn, xs, h, d⟩ := c
        exact ⟨hn, xs, (upd_ne nD).trans h, d.mono x _ _⟩
      | dK kvs =>
        obtain ⟨hn, ks, h, d⟩ := c
        exact ⟨hn, ks, (upd_ne nD).trans h, d.mono x⟩
      | ins C fs =>
        obtain ⟨hn, dx, gs, ⟨C', hC, h⟩, hd, hn2, d⟩ := c
        have nx : dx ≠ D := fun z => by rw [z, h1] at hd; exact hno _ (Option.some.inj hd)
        exact ⟨hn, dx, gs, ⟨C', hC, (upd_ne nD).trans h⟩, (upd_ne nx).trans hd, hn2, d.mono x⟩
      | dead =>
        obtain ⟨o2, h⟩ := c
        exact ⟨o2, (upd_ne nD).trans h⟩
  · have hl : l < g.n + 1 := hl
    have hm : m < g.n + 1 := hm
    have e : (if l = g.n then D else g.μ l) = (if m = g.n then D else g.μ m) := e
    by_cases q1 : l = g.n
    · by_cases q2 : m = g.n
      · rw [q1, q2]
      · rw [if_pos q1, if_neg q2] at e
        exact absurd e.symm (h3 m (by omega))
    · by_cases q2 : m = g.n
      · rw [if_neg q1, if_pos q2] at e
        exact absurd e (h3 l (by omega))
      · rw [if_neg q1, if_neg q2] at e
        exact r.inj l m (by omega) (by omega) e
  · have e : P a = some u := e
    have na : a ≠ D := fun z => by rw [z, hD] at e; cases e
    obtain ⟨q1, q2, q3⟩ := r.pin a u (by rw [hP, upd_ne na]; exact e)
    refine ⟨(upd_ne na).trans q1, q2, fun l hl z => ?_⟩
    have hl : l < g.n + 1 := hl
    have z : (if l = g.n then D else g.μ l) = a := z
    by_cases q : l = g.n
    · rw [if_pos q] at z
      exact na z.symm
    · rw [if_neg q] at z
      exact q3 l (by omega) z
theorem alloc_xt {g : Gd} {P : Hp} {D : Addr} : Xt0 g { g with P := P, μ := fun l => if l = g.n then D else g.μ l, n := g.n + 1 } := ⟨rfl, fun a u e => e, fun l hl => if_neg (by omega), Nat.le_succ _⟩
theorem alloc_ref {g : Gd} {P : Hp} {D : Addr} : Dq { g with P := P, μ := fun l => if l = g.n then D else g.μ l, n := g.n + 1 } (.ref D) (rf g.n) := by
  have h : Dq { g with P := P, μ := fun l => if l = g.n then D else g.μ l, n := g.n + 1 } (.ref ((fun l => if l = g.n then D else g.μ l) g.n)) (rf g.n) := .ref (Nat.lt_succ_self _)
  simpa using h
/-! ### {k: v, ..} -/
def pairsF : List (FE × FE) → Ev → Ws → Oc (List (PyData × PyData))
  | [], _, w => .ok [] w
  | (fk, fv) :: r, ρ, w => (fk ρ w).bind fun k w1 => (fv ρ w1).bind fun v w2 => (pairsF r ρ w2).bind fun ps w3 => .ok ((k, v) :: ps) w3
def PrR (g : Gd) : List (V × V) → List (PyData × PyData) → Prop := Paired fun p q => Dq g p.1 q.1 ∧ Dq g p.2 q.2
theorem PrR.mono {g g' : Gd} (x : Xt0 g g') : ∀ {ps : List (V × V)} {qs : List (PyData × PyData)}, PrR g ps qs → PrR g' ps qs
  | _, _, .nil => .nil
  | _, _, .cons h t => .cons ⟨h.1.mono x _ _, h.2.mono x _ _⟩ (PrR.mono x t)
theorem pairs_of {K : PySem.W.Frag} {W : WX} : ∀ (fps : List (FE × FE)) σ H Q, lX K W PrR (pairsF fps) σ H Q → tPairs (fps.map fun p => (lE K W p.1, lE K W p.2)) σ H Q
  | [], σ, H, Q, ⟨g, ρ, w, hK, r, e, q⟩ => q [] H g (Xt.refl g) r .nil
  | (fk, fv) :: rest, σ, H, Q, ⟨g, ρ, w, hK, r, e, q⟩ => by
    refine lX_bind hK r e q fun k H1 g1 dk w1 x1 r1 e1 hk z1 => ?_
    refine lX_bind (x1.k.trans hK) r1 e1 z1 fun v H2 g2 dv w2 x2 r2 e2 hv z2 => ?_
    refine pairs_of rest σ H2 _ ?_
    refine lX_bind (x2.k.trans (x1.k.trans hK)) r2 e2 z2 fun ps H3 g3 dps w3 x3 r3 e3 hps z3 => ?_
    exact z3 _ H3 g3 (Xt.refl _) r3 (.cons ⟨hk.mono (x2.toXt0.trans x3.toXt0) _ _, hv.mono x3.toXt0 _ _⟩ hps)
def keysOf : List (PyData × PyData) → Option (List (Key × PyData))
  | [] => some []
  | (k, v) :: r => match keyD k, keysOf r with
    | some k, some kvs => some ((k, v) :: kvs)
    | _, _ => none
theorem keysOf_ok {g : Gd} : ∀ {ps : List (V × V)} {qs : List (PyData × PyData)} {kvs : List (Key × PyData)}, PrR g ps qs → keysOf qs = some kvs → ∃ ks : List (Key × V), ps = ks.map (fun kv => (kV kv.1, kv.2)) ∧ KvR g ks kvs
  | _, _, _, .nil, e => by cases e; exact ⟨[], rfl, .nil⟩
  | (a, b) :: _, (c, d) :: _, _, .cons h t, e => by
    unfold keysOf at e
    split at e
    · rename_i k kvs h1 h2
      cases e
      obtain ⟨ks, rfl, hk⟩ := keysOf_ok t h2
      have ek := keyD_ok h.1 h1
      have ek : a = kV k := ek
      subst ek
      exact ⟨(k, b) :: ks, rfl, .cons ⟨rfl, h.2⟩ hk⟩
    · cases e
def eDisp (fps : List (FE × FE)) : FE := fun ρ w => match pairsF fps ρ w with
  | .ok ps w1 => match keysOf ps with
    | some kvs => if kvs.length ≤ 15 then .ok (rf w1.length) (w1 ++ [.dK (mergeD [] kvs)]) else .no
    | none => .no
  | _ => .no
theorem pf_disp {X : Cx} {W : WX} {pos : Pos} {keys : List (Option Expr)} {values : List Expr} {fps : List (FE × FE)} (h : PPs X pos keys values (fps.map fun p => (lE X.K W0 p.1, lE X.K W0 p.2))) (hall : keys.all (·.isSome) = true := by rfl) (hl : keys.length = values.length := by rfl) (h0 : keys ≠ [] := by exact fun z => by cases z)
    (h15 : keys.length ≤ 15 := by decide) : PF X W (.Dict keys values pos) (eDisp fps) := by
  refine pe_imp (pe_disp h hall hl h0 h15) fun σ H Q ⟨g, ρ, w, hK, r, e, q⟩ => ?_
  intro p hp
  have pP : g.P p = none := by
    cases h : g.P p with
    | none => rfl
    | some o => rw [(r.pin p o h).1] at hp; cases hp
  have r0 := pin_new r hp (.dK [])
  refine pairs_of fps σ _ _ ⟨g.pn (upd g.P p (.dK [])), ρ, w, hK, r0, e.mono (g.pn_xt _), ?_⟩
  unfold eDisp at q
  cases hz : pairsF fps ρ w with
  | ok ps w1 =>
    rw [hz] at q
    intro vs H1 g1 x r1 hps
    simp only at q
    split at q
    · rename_i kvs hk
      split at q
      · rename_i hlen
        obtain ⟨ks, rfl, kv⟩ := keysOf_ok hps hk
        have hP1 : g1.P = upd g.P p (.dK []) := x.p
        refine ⟨(r1.pin p _ (by rw [hP1]; exact upd_same)).1, ks, rfl, by rw [kv.length]; exact hlen, ?_⟩
        have hn := (r1.pin p _ (by rw [hP1]; exact upd_same)).2.1
        have ra := pin_alloc (o' := .dK (mergeK [] ks)) (ob := .dK (mergeD [] kvs)) r1 hP1 (fun a z => nomatch z) pP ⟨hn, _, upd_same, (KvR.merge kv .nil).mono alloc_xt⟩
        refine q _ _ _ ⟨((g.pn_xt _).trans x.toXt0).trans alloc_xt, rfl⟩ ra ?_
        rw [← r1.len]
        exact alloc_ref
      · exact q.elim
    · exact q.elim
  | ex c fs w1 => rw [hz] at q; exact q.elim
  | no => rw [hz] at q; exact q.elim
theorem ppsf_nil {X : Cx} {pos : Pos} : PPs X pos [] [] (([] : List (FE × FE)).map fun p => (lE X.K W0 p.1, lE X.K W0 p.2)) := pps_nil
theorem ppsf_cons {X : Cx} {pos : Pos} {k v : Expr} {ks : List (Option Expr)} {vs : List Expr} {fk fv : FE} {fps : List (FE × FE)} (hk : PF X W0 k fk) (hv : PF X W0 v fv) (hr : PPs X pos ks vs (fps.map fun p => (lE X.K W0 p.1, lE X.K W0 p.2))) :
    PPs X pos (some k :: ks) (v :: vs) (((fk, fv) :: fps).map fun p => (lE X.K W0 p.1, lE X.K W0 p.2)) := pps_cons hk hv hr

/-! ### repr -/
section
variable {X : Cx} {W : WX}
def reprD (_ : Ws) : List PyData → Option PyData
  | [d] => if SeqAt.shaped d && d.showable && szOk d.shown.length then some (.str d.shown) else none
  | _ => none
theorem call_reprX (hg : X.A.guards = some []) (hu : X.A.units + 70 < cLine) : CallR X (.builtin "repr") (rDN X.K reprD) := by
  intro pins s σ H xs us Q I rv ⟨g, w, ds, z, hK, r, dx, hz, q⟩
  unfold reprD at hz
  split at hz
  · rename_i d
    split at hz
    · rename_i hs
      cases hz
      rw [Bool.and_eq_true, Bool.and_eq_true] at hs
      obtain ⟨⟨h1, h2⟩, h3⟩ := hs
      have h3 := of_decide_eq_true h3
      cases dx with
      | cons d0 dn =>
        cases dn
        cases rv with
        | cons rv0 rvn =>
          cases rvn
          have fin : ∀ t tk, EP X pins σ Q (.str d.shown t) { s with toks := tk } := fun t tk => ⟨.str d.shown, H, I.tok tk, ⟨t, rfl⟩, q _ H g (Xt.refl g) r (.str _)⟩
          cases d0 with
          | non => cases rv0; exact PySem.P.repr_of_none (fin _ _)
          | bl b => cases rv0; exact PySem.P.repr_of_bool (fin _ _)
          | int i =>
            obtain ⟨t, rfl⟩ := rv0
            exact PySem.P.repr_of_int (by simpa [PyData.showable] using h2) (fin _ _)
          | str y =>
            obtain ⟨t, rfl⟩ := rv0
            exact PySem.P.repr_of_str (fin _ _) h3
          | lst sq da =>
            obtain ⟨as, rd⟩ := Dp.reads I _ _ _ (hK ▸ (Dq.lst sq da).dp r.fro _ _ (shaped_lay h1)) rv0
            cases rv0
            have hdep : PyData.depth _ ≤ 64 := of_decide_eq_true ((Bool.and_eq_true _ _).mp h1).2
            refine repr_of_reads' rd h2 (PyData.noDict_hsm (PyData.hasDict_of_canLay _ (shaped_lay h1))) hg (by omega) (fun _ _ e => e) (fun h' u tk hk => ?_) h3
            exact ⟨.str _, H, I.kept hk, ⟨u, rfl⟩, q _ H g (Xt.refl g) r (.str _)⟩
          | tup sq da =>
            obtain ⟨as, rd⟩ := Dp.reads I _ _ _ (hK ▸ (Dq.tup sq da).dp r.fro _ _ (shaped_lay h1)) rv0
            cases rv0
            have hdep : PyData.depth _ ≤ 64 := of_decide_eq_true ((Bool.and_eq_true _ _).mp h1).2
            refine repr_of_reads' rd h2 (PyData.noDict_hsm (PyData.hasDict_of_canLay _ (shaped_lay h1))) hg (by omega) (fun _ _ e => e) (fun h' u tk hk => ?_) h3
            exact ⟨.str _, H, I.kept hk, ⟨u, rfl⟩, q _ H g (Xt.refl g) r (.str _)⟩
          | ref hl =>
            have := shaped_lay h1
            simp [PyData.canLay0] at this
    · cases hz
  · cases hz
end
end Td

set_option Elab.async false
set_option linter.all false
set_option maxRecDepth 100000
set_option maxHeartbeats 4000000
namespace Td
open PySem L2 PySem.Spec PyProof.Rows
/-! ### what leaves a call: objects that nobody sees any more are dropped -/
mutual
def bnd (n : Nat) : PyData → Bool
  | .list xs => bndA n xs
  | .tuple xs => bndA n xs
  | .dict kvs => bndK n kvs
  | _ => true
def bndA (n : Nat) : List PyData → Bool
  | [] => true
  | x :: xs => bnd n x && bndA n xs
def bndK (n : Nat) : List (PyData × PyData) → Bool
  | [(.int l, .none)] => decide (l < n)
  | _ => false
end
def bndO (n : Nat) : Ob → Bool
  | .lst xs => bndA n xs
  | .dK kvs => bndA n (kvs.map (·.2))
  | .ins _ fs => bndA n (fs.map (·.2))
  | .dead => true
def Gd.cut (g : Gd) (n : Nat) : Gd := { g with n := n }
mutual
theorem Dq.cut {g : Gd} {n : Nat} : ∀ (d : PyData) (v : V), bnd n d = true → Dq g v d → Dq (g.cut n) v d
  | .none, _, _, h => by cases h; exact .non
  | .bool _, _, _, h => by cases h; exact .bl _
  | .int _, _, _, h => by cases h; exact .int _
  | .str _, _, _, h => by cases h; exact .str _
  | .list ds, _, c, h => by
    cases h with
    | lst a b => exact .lst a (DqA.cutA ds _ (by simpa [bnd] using c) b)
  | .tuple ds, _, c, h => by
    cases h with
    | tup a b => exact .tup a (DqA.cutA ds _ (by simpa [bnd] using c) b)
  | .dict _, _, c, h => by
    cases h with
    | @ref l hl =>
      have : l < n := by simpa [bnd, bndK] using c
      exact Dq.ref (g := g.cut n) this
theorem DqA.cutA {g : Gd} {n : Nat} : ∀ (ds : List PyData) (vs : List V), bndA n ds = true → DqA g vs ds → DqA (g.cut n) vs ds
  | [], _, _, h => by cases h; exact .nil
  | d :: ds, _, c, h => by
    have c' : bnd n d = true ∧ bndA n ds = true := by simpa [bndA] using c
    cases h with
    | cons a b => exact .cons (Dq.cut d _ c'.1 a) (DqA.cutA ds _ c'.2 b)
end
theorem KvR.cut {κ : Type} {g : Gd} {n : Nat} : ∀ {ks : List (κ × V)} {kvs : List (κ × PyData)}, bndA n (kvs.map (·.2)) = true → KvR g ks kvs → KvR (g.cut n) ks kvs
  | _, _, _, .nil => .nil
  | _, _, c, .cons h t => by
    have c' := c
    simp only [List.map_cons, bndA, Bool.and_eq_true] at c'
    exact .cons ⟨h.1, h.2.cut _ _ c'.1⟩ (KvR.cut c'.2 t)
theorem ObR.cut {g : Gd} {n : Nat} {H : Hp} {a : Addr} {ob : Ob} (c : bndO n ob = true) (h : ObR g H a ob) : ObR (g.cut n) H a ob := by
  cases ob with
  | lst ds =>
    obtain ⟨hn, xs, h, d⟩ := h
    exact ⟨hn, xs, h, d.cutA _ _ c⟩
  | dK kvs =>
    obtain ⟨hn, ks, h, d⟩ := h
    exact ⟨hn, ks, h, d.cut c⟩
  | ins C fs =>
    obtain ⟨hn, dx, gs, h, hd, hn2, d⟩ := h
    exact ⟨hn, dx, gs, h, hd, hn2, d.cut c⟩
  | dead => exact h
theorem Rp.cut {g : Gd} {H : Hp} {w : Ws} {n : Nat} (r : Rp g H w) (hn : n ≤ w.length) (c : (w.take n).all (bndO n) = true) : Rp (g.cut n) H (w.take n) where
  fro := r.fro
  len := by show n = _; rw [List.length_take]; omega
  cell := fun l ob e => by
    have hl : l < n := by
      have := (List.getElem?_eq_some_iff.mp e).1
      rw [List.length_take] at this
      omega
    have e' := e
    rw [List.getElem?_take_of_lt hl] at e
    exact (r.cell l ob e).cut (List.all_eq_true.mp c ob (List.mem_of_getElem? e'))
  inj := fun l m hl hm e => r.inj l m (by rw [r.len]; exact Nat.lt_of_lt_of_le hl hn) (by rw [r.len]; exact Nat.lt_of_lt_of_le hm hn) e
  pin := fun a u e => let ⟨h1, h2, h3⟩ := r.pin a u e; ⟨h1, h2, fun l hl => h3 l (by rw [r.len]; exact Nat.lt_of_lt_of_le hl hn)⟩
abbrev FF := List PyData → Ws → Oc PyData
def trimW (n : Nat) (w : Ws) : Bool := decide (n ≤ w.length) && (w.take n).all (bndO n)
def leave (n : Nat) : Os → Oc PyData
  | .nx _ w => if trimW n w then .ok .none (w.take n) else .ok .none w
  | .rt d w => if trimW n w && bnd n d then .ok d (w.take n) else .ok d w
  | .ex _ c fs w => if trimW n w && bndA n (fs.map (·.2)) then .ex c fs (w.take n) else .ex c fs w
  | _ => .no
def startE (m : Nat) (ds : List PyData) : Ev := ds.map some ++ List.replicate (m - ds.length) none
def defF (m : Nat) (n : Nat) (bf : FS) : FF := fun ds w => if ds.length = n then leave w.length (bf (startE m ds) w) else .no

/-! ### what a def promises -/
def oF (g : Gd) (Q : VK) (E : XK) : Oc PyData → Prop
  | .ok d w => ∀ v H g', Xt g g' → Rp g' H w → Dq g' v d → Q v H
  | .ex c fs w => ∀ dd H g', Xt g g' → Rp g' H w → XdR g' H fs dd → E c dd H
  | .no => False
def spF (K : PySem.W.Frag) (n : Nat) (gf : FF) : Sp := fun vs H Q E => ∃ g w ds, g.K = K ∧ Rp g H w ∧ DqA g vs ds ∧ vs.length = n ∧ oF g Q E (gf ds w)
structure FnG (P : Program) (w : World) (K : PySem.W.Frag) (mg : Str → Option Value) (base : Heap) (k : Nat) (f : Addr) (fd : FuncData) (ps : List Str) (gf : FF) : Prop where
  run : ∀ (A : Around) (outer : List Env) (s : Shared) (H : Hp) (args : Args) (us : List Value) (vs : List V) (Q : VK) (E : XK), Room k A → A.guards = some [] → Env0 P w K mg base A outer s H → BindsTo s fd args (ps.zip us) → Vals vs us → spF K ps.length gf vs H Q E →
    codeAny (model P w) A (.call (.ref f) args) (CR (CX P w) outer P w H s Q E) s
theorem FnG.mono {P : Program} {w : World} {K : PySem.W.Frag} {mg : Str → Option Value} {base : Heap} {j k : Nat} {f : Addr} {fd : FuncData} {ps : List Str} {gf : FF} (F : FnG P w K mg base j f fd ps gf) (h : j ≤ k) : FnG P w K mg base k f fd ps gf :=
  ⟨fun A outer s H args us vs Q E hr => F.run A outer s H args us vs Q E (hr.mono h)⟩
theorem FnG.eq {P : Program} {w : World} {K : PySem.W.Frag} {mg : Str → Option Value} {base : Heap} {k : Nat} {f : Addr} {fd : FuncData} {ps : List Str} {gf gf' : FF} (F : FnG P w K mg base k f fd ps gf) (h : ∀ ds w, gf' ds w = .no ∨ gf ds w = gf' ds w) : FnG P w K mg base k f fd ps gf' :=
  ⟨fun A outer s H args us vs Q E hr hg e0 hb hv ⟨g, w', ds, hK, r, da, hl, q⟩ => F.run A outer s H args us vs Q E hr hg e0 hb hv ⟨g, w', ds, hK, r, da, hl, by
    rcases h ds w' with h | h
    · rw [h] at q; exact q.elim
    · rw [h]; exact q⟩⟩
theorem EnR.begin {g : Gd} {N : List Str} {vs : List V} {ds : List PyData} (h : DqA g vs ds) : EnR g (L2.start N vs) (startE N.length ds) := by
  refine ⟨by unfold L2.start startE; simp [h.length], fun i d e => ?_⟩
  unfold startE at e
  unfold L2.start
  by_cases hi : i < ds.length
  · rw [List.getElem?_append_left (by simpa using hi), List.getElem?_map] at e
    obtain ⟨d', h1, h2⟩ := Option.map_eq_some_iff.mp e
    cases h2
    obtain ⟨v, h3, h4⟩ := h.get h1
    exact ⟨v, by rw [List.getElem?_append_left (by simpa [h.length] using hi), List.getElem?_map, h3]; rfl, h4⟩
  · rw [List.getElem?_append_right (by simpa using hi), List.getElem?_replicate] at e
    split at e <;> cases e
theorem XdR.cut {g : Gd} {n : Nat} {H : Hp} {fs : List (Str × PyData)} {dd : Option Addr} (hn : n ≤ g.n) (c : bndA n (fs.map (·.2)) = true) (h : XdR g H fs dd) : XdR (g.cut n) H fs dd := by
  cases dd with
  | none => exact h
  | some d =>
    obtain ⟨h1, h2, gs, h3, h4⟩ := h
    exact ⟨h1, fun l hl => h2 l (Nat.lt_of_lt_of_le hl hn), gs, h3, h4.cut c⟩
theorem Xt.cut {g g' : Gd} (x : Xt g g') : Xt g (g'.cut g.n) := ⟨⟨x.k, x.ex, x.at_, Nat.le_refl _⟩, x.p⟩
section
variable {P : Program} {w : World} {K : PySem.W.Frag} {mg : Str → Option Value} {base : Heap}
theorem leave_ok {g : Gd} {Q : VK} {E : XK} {H : Hp} {ws : Ws} (r : Rp g H ws) {o : Os} (h : oF g Q E (leave ws.length o)) : oSt (fun c d _ H => E c d H) g { nx := fun _ H' => Q .non H', rt := Q } o := by
  have hn := r.len
  cases o with
  | nx ρ w' =>
    intro σ H' g' x r' e'
    simp only [leave] at h
    split at h
    · rename_i ht
      rw [trimW, Bool.and_eq_true] at ht
      have := h .non H' (g'.cut g.n) x.cut (by rw [hn]; exact r'.cut (of_decide_eq_true ht.1) ht.2) .non
      exact this
    · exact h .non H' g' x r' .non
  | rt d w' =>
    intro v H' g' x r' dv
    simp only [leave] at h
    split at h
    · rename_i ht
      rw [trimW, Bool.and_eq_true, Bool.and_eq_true] at ht
      exact h v H' (g'.cut g.n) x.cut (by rw [hn]; exact r'.cut (of_decide_eq_true ht.1.1) ht.1.2) (by rw [hn]; exact dv.cut _ _ ht.2)
    · exact h v H' g' x r' dv
  | ex ρ c fs w' =>
    intro dd σ H' g' x r' e' xd
    simp only [leave] at h
    split at h
    · rename_i ht
      rw [trimW, Bool.and_eq_true, Bool.and_eq_true] at ht
      exact h dd H' (g'.cut g.n) x.cut (by rw [hn]; exact r'.cut (of_decide_eq_true ht.1.1) ht.1.2) (by rw [hn]; exact xd.cut (by rw [← hn]; exact x.le) ht.2)
    · exact h dd H' g' x r' xd
  | bk ρ w' => exact h.elim
  | ct ρ w' => exact h.elim
  | no => exact h.elim
/-- THE RULE for a def, by its body -/
theorem fnG_of {x qual : Str} {st : Stmt} {f : Addr} {fd : FuncData} {N ps : List Str} {k : Nat} {bf : FS} (F : Fun K x qual st f fd) (S : FnScope N ps (defScope st))
    (hbody : ∀ (cdv : Value) (A : Around) (outer : List Env) (s : Shared) (H : Hp) (E : XK), Room k (A.deeper (envOfC qual (defScope st) s.heap.objs.size f cdv)) → A.guards = some [] →
      PSsf (cxOf (CX P w) P w K mg base N qual (defScope st) f cdv A outer s H E) (fun c d _ H => E c d H) (defBody st) bf) : FnG P w K mg base (k + 1) f fd ps (defF N.length ps.length bf) := by
  obtain ⟨oc, od, kV, doc, pm, an, cdv, ct, osl, rfl, lk, hcd⟩ := F.ex
  refine ⟨fun A outer s H args us vs Q E hr hg e0 hb hv hsp => ?_⟩
  obtain ⟨g, ws, ds, hK, r, da, hl, q⟩ := hsp
  have inK : K.In s.heap := e0.mod.kin.keeps fun b ob z => (e0.bs b ob z).1
  have noLim : s.heap.NoLimit := e0.mod.nolimit.keeps fun b ob z => (e0.bs b ob z).1
  have kinds : ∀ y ∈ ps.zip us, (defScope st).names.lookup y.1 = some .local ∨ ((defScope st).names.lookup y.1 = some .cell ∧ ((cellsFrom (s.heap.objs.size + 1) (defScope st).names []).lookup y.1).isSome = true) := by
    rintro ⟨nm, vl⟩ hy
    rcases S.par nm (List.of_mem_zip hy).1 with z | z
    · exact Or.inl z
    · exact Or.inr ⟨z, PySem.W.cellsFrom_some _ _ _ (Or.inl z)⟩
  refine codeAny_call_function hr.depth (inK _ _ lk) rfl S.co S.gen rfl (PySem.W.codeRec_of inK hcd) (hb _ _ _ _ ?_)
  refine wpAny_newFunctionEnv_cells S.kind kinds ?_
  rintro env rfl s1 nw
  refine ⟨noLim.keeps nw.toInCall.keep, codeAny_func ?_⟩
  have body := hbody cdv A outer s H E (hr.deeper _) hg
  have J0 : Inv (cxOf (CX P w) P w K mg base N qual (defScope st) f cdv A outer s H E) [] (L2.start N vs) H s1 := inv_start S hr.hd e0 hl hv nw
  have want : lS K (fun c d _ H => E c d H) bf { nx := fun _ H' => Q .non H', rt := Q } (L2.start N vs) H := by
    refine ⟨g, startE N.length ds, ws, hK, r, EnR.begin da, leave_ok r ?_⟩
    have hd : ds.length = ps.length := by rw [← da.length]; exact hl
    rw [defF, if_pos hd] at q
    exact q
  refine wpAny_mono (body.run [] s1 _ H _ J0 want) ?_ fun _ _ z => z
  intro fl s' hs
  cases fl with
  | brk => exact hs.elim fun _ z => z.elim fun _ z => z.2.elim
  | cont => exact hs.elim fun _ z => z.elim fun _ z => z.2.elim
  | next =>
    obtain ⟨_, H', J, z⟩ := hs
    exact ⟨.non, H', J.os, J.bare, J.base, J.hok, rfl, z⟩
  | ret u =>
    obtain ⟨v, _, H', J, rv, z⟩ := hs
    exact ⟨v, H', J.os, J.bare, J.base, J.hok, rv, z⟩
end
end Td

set_option Elab.async false
set_option linter.all false
set_option maxRecDepth 100000
set_option maxHeartbeats 4000000
namespace Td
open PySem L2 PySem.Spec PyProof.Rows
section
variable {X : Cx} {W : WX} {k : Nat} {f : Addr} {fd : FuncData} {ps : List Str} {gf : FF} {ds : List Value} {dvs : List V} {des : List PyData}
/-- the callee runs -/
theorem run_G {pins : List (Addr × Obj)} {σ : L2.St} {H : Hp} {s : Shared} {Q : VK} {us : List Value} {vs : List V} (F : FnG X.prog X.w X.K X.mg X.base k f fd ps gf) (hr : Room k X.A) (hgu : X.A.guards = some []) (hb : Binds X.K fd ps ds) (hd : Vals dvs ds) (tk : Takes X W)
    (I : Inv X pins σ H s) (r : Vals vs us) (h : spF X.K ps.length gf (vs ++ dvs) H Q (fun c d H' => W c d σ H')) : wpAny (model X.prog X.w) X.A (call (.ref f) us) (EP X pins σ Q) X.xe s := by
  have all : Vals (vs ++ dvs) (us ++ ds) := r.append hd
  have many : (us ++ ds).length = ps.length := by
    obtain ⟨_, _, _, _, _, _, hl, _⟩ := h
    rw [← all.length]
    exact hl
  refine wpAny_call (codeAny_mono (F.run X.A X.stack s H ⟨us, []⟩ _ _ Q _ hr hgu I.env0 (hb s us I.kIn many) all h) ?_)
  intro res s' hq
  match res, hq with
  | .error e, hq => exact tk e s' (XE.of_call I (fun _ _ _ z => z) hq)
  | .ok (.ret u), hq => exact I.after hq
def eCall (gf : FF) (des : List PyData) (fa : FA) : FE := fun ρ w => (fa ρ w).bind fun as w1 => gf (as ++ des) w1
theorem call_want {σ : L2.St} {H : Hp} {Q : VK} {fa : FA} {K : PySem.W.Frag} {n : Nat} (hdd : ∀ g : Gd, DqA g dvs des) (hlen : ∀ as : List PyData, (as ++ des).length = n ∨ ∀ w, gf (as ++ des) w = .no) (h : lE K W (eCall gf des fa) σ H Q) :
    lA K W fa σ H fun vs H1 => spF K n gf (vs ++ dvs) H1 Q (fun c d H' => W c d σ H') := by
  obtain ⟨g, ρ, w, hK, r, e, q⟩ := h
  refine lX_bind hK r e q fun vs H1 g1 as w1 x r1 e1 dv z => ?_
  have dal : DqA g1 (vs ++ dvs) (as ++ des) := dv.append (hdd g1)
  refine ⟨g1, w1, as ++ des, x.k.trans hK, r1, dal, ?_, ?_⟩
  · rw [dal.length]
    rcases hlen as with h | h
    · exact h
    · rw [h] at z; exact z.elim
  · cases hz : gf (as ++ des) w1 with
    | ok d w2 => rw [hz] at z; exact z
    | ex c fs w2 => rw [hz] at z; exact z
    | no => rw [hz] at z; exact z
/-- f(a, ..), the defaults dvs behind -/
theorem pf_callD {x : Str} {p pos : Pos} {e : Expr} {es : List Expr} {fa : FA} (F : FnG X.prog X.w X.K X.mg X.base k f fd ps gf) (hr : Room k X.A) (hgu : X.A.guards = some []) (hg : Gl X x) (hm : X.mg x = some (.ref f)) (hk : PySem.W.keepIn X.K (.ref f) = true) (hb : Binds X.K fd ps ds) (hd : Vals dvs ds) (hdd : ∀ g : Gd, DqA g dvs des)
    (hlen : ∀ as : List PyData, (as ++ des).length = ps.length ∨ ∀ w, gf (as ++ des) w = .no) (tk : Takes X W) (ha : PAf X W (e :: es) fa) (hdb : (x == ("__debug__" : Str)) = false := by decide) (he : starEach (e :: es) X.env = (false, eval e X.env) :: starEach es X.env := by rfl) (hpl : (backTo pos (starEach es X.env)).any (·.1) = false := by rfl) :
    PF X W (.Call (.Name x p) (e :: es) [] pos) (eCall gf des fa) := by
  refine ⟨fun pins s σ H Q I h => ?_⟩
  have want := call_want hdd hlen h
  refine wpAny_Call_Name_kw (ld_glob I hg hm ?_ hdb)
  refine PySem.W.callWith_K (h₀ := X.base) I.ok.mod.kin hk ?_ he hpl
  exact thn (ha.run pos pins s σ H _ I want) fun us s1 ⟨vs, H1, I1, rv, q⟩ => ⟨I1.kIn, run_G F hr hgu hb hd tk I1 rv q⟩
theorem pf_call {x : Str} {p pos : Pos} {e : Expr} {es : List Expr} {fa : FA} {m : Nat} {bf : FS} (F : FnG X.prog X.w X.K X.mg X.base k f fd ps (defF m ps.length bf)) (hr : Room k X.A) (hgu : X.A.guards = some []) (hg : Gl X x) (hm : X.mg x = some (.ref f)) (hk : PySem.W.keepIn X.K (.ref f) = true) (hb : Binds X.K fd ps [])
    (tk : Takes X W) (ha : PAf X W (e :: es) fa) (hdb : (x == ("__debug__" : Str)) = false := by decide) (he : starEach (e :: es) X.env = (false, eval e X.env) :: starEach es X.env := by rfl) (hpl : (backTo pos (starEach es X.env)).any (·.1) = false := by rfl) :
    PF X W (.Call (.Name x p) (e :: es) [] pos) (eCall (defF m ps.length bf) [] fa) :=
  pf_callD F hr hgu hg hm hk hb .nil (fun _ => .nil) (fun as => by
    by_cases h : (as ++ []).length = ps.length
    · exact Or.inl h
    · exact Or.inr fun w => if_neg h) tk ha hdb he hpl
theorem pf_call0 {x : Str} {p pos : Pos} {m : Nat} {bf : FS} (F : FnG X.prog X.w X.K X.mg X.base k f fd ps (defF m ps.length bf)) (hr : Room k X.A) (hgu : X.A.guards = some []) (hg : Gl X x) (hm : X.mg x = some (.ref f)) (hk : PySem.W.keepIn X.K (.ref f) = true) (hb : Binds X.K fd ps [])
    (tk : Takes X W) (hdb : (x == ("__debug__" : Str)) = false := by decide) :
    PF X W (.Call (.Name x p) [] [] pos) (eCall (defF m ps.length bf) [] aN) := by
  refine ⟨fun pins s σ H Q I h => ?_⟩
  have want := call_want (dvs := []) (des := []) (n := ps.length) (fun _ => .nil) (fun as => by
    by_cases h : (as ++ []).length = ps.length
    · exact Or.inl h
    · exact Or.inr fun w => if_neg h) h
  refine wpAny_Call_Name_kw (ld_glob I hg hm ?_ hdb)
  obtain ⟨g, ρ, w, hK, r, e, q⟩ := want
  exact PySem.W.callWith_K0 I.kIn hk (run_G (us := []) (vs := []) F hr hgu hb .nil tk I .nil (q [] H g (Xt.refl g) r .nil))
end
end Td

set_option Elab.async false
set_option linter.all false
set_option maxRecDepth 100000
set_option maxHeartbeats 4000000
namespace Td
open PySem L2 PySem.Spec PyProof.Rows
/-! ### the law's own call -/
def intsD (ns : List Int) : PyData := .list (ns.map .int)
theorem dqa_ints {g : Gd} : ∀ ns : List Int, DqA g (ns.map V.int) (ns.map PyData.int)
  | [] => .nil
  | n :: ns => .cons (.int n) (dqa_ints ns)
/-- the abstract heap at the law's entry: the script, as it stands, if it is none of the module's own -/
def H00 (K : PySem.W.Frag) (a : Addr) (o : Obj) (ns : List Int) : Hp := fun b => if b = a ∧ K.lookup a = none then some (.frz o (.lst (ns.map V.int))) else none
theorem H00_some {K : PySem.W.Frag} {a b : Addr} {o : Obj} {ns : List Int} {u : HO} (h : H00 K a o ns b = some u) : b = a ∧ K.lookup a = none ∧ u = .frz o (.lst (ns.map V.int)) := by
  unfold H00 at h
  split at h
  · rename_i c
    exact ⟨c.1, c.2, (Option.some.inj h).symm⟩
  · cases h
theorem lawG {P : Program} {w : World} {K : PySem.W.Frag} {mg mb : Str → Option Value} {k : Nat} {fa a : Addr} {fd : FuncData} {x : Str} {gf : FF} {s1 : Shared} {vs : List Value} {ns : List Int} {wf : Ws}
    (inK : K.In s1.heap) (nsG : s1.heap.Ns mainGlobals mg) (nsB : s1.heap.Ns builtinsNs mb) (boot : ∀ y : Str, y ≠ "__name__" → mb y = bootBuiltins y) (lim : s1.heap.NoLimit) (noGen : s1.gens = #[])
    (at_a : s1.heap.get? a = some { cls := .type "list", data := .seq vs.toArray }) (hi : IntsAre vs ns) (hl : ns.length ≤ sizeLine) (hr : Room k callerA)
    (F : ∀ base : Heap, K.In base → base.Ns mainGlobals mg → FnG P w K mg base k fa fd [x] gf) (hbind : ∀ (s : Shared) (u : Value), BindsTo s fd ⟨[u], []⟩ [(x, u)])
    (hv : gf [intsD ns] [] = .ok (.bool true) wf) :
    codeAny (model P w) callerA (.call (.ref fa) ⟨[.ref a], []⟩) (fun r s' => r = .ok (.ret (.bool true)) ∧ OldK s1.heap s'.heap ∧ s'.os = s1.os ∧ AllBare s'.gens) s1 := by
  obtain ⟨ob, hob⟩ : ∃ ob : Obj, ob = { cls := .type "list", data := .seq vs.toArray } := ⟨_, rfl⟩
  rw [← hob] at at_a
  obtain ⟨H, hH⟩ : ∃ H, H = H00 K a ob ns := ⟨_, rfl⟩
  have rv : Vals (ns.map V.int) vs := vals_ints hi
  have who : ∀ {b u}, H b = some u → b = a ∧ K.lookup a = none ∧ u = .frz ob (.lst (ns.map V.int)) := fun h => H00_some (hH ▸ h)
  have sq : SqL K H a (ns.map V.int) := by
    cases q : K.lookup a with
    | none => exact .inl (.inr ⟨ob, by rw [hH, H00, if_pos ⟨rfl, q⟩]⟩)
    | some o =>
      have z := (inK a o q).symm.trans at_a
      cases z
      subst hob
      exact .inr ⟨_, vs.toArray, _, q, rfl, rfl, rfl, by rw [List.size_toArray, hi.length]; exact hl, by simpa using rv⟩
  have hok : HOk P w H s1.heap := fun b u h => by
    obtain ⟨rfl, _, rfl⟩ := who h
    refine ⟨at_a, by rw [List.length_map]; exact hl, vs, 0, rv, at_a.trans ?_⟩
    rw [hob]
  have clear : ∀ {b o}, s1.heap.get? b = some o → (∀ its n, o.data ≠ .seq its n) → H b = none := fun {b o} h nd => by
    cases q : H b with
    | none => rfl
    | some u =>
      obtain ⟨rfl, _, _⟩ := who q
      have z := h.symm.trans at_a
      cases z
      exact absurd (by rw [hob]) (nd vs.toArray _)
  have nsH : ∀ {b m}, s1.heap.Ns b m → (hidT s1.heap H).Ns b m := fun {b m} ⟨o, es, ep, h1, h2, h3⟩ => ⟨o, es, ep, hidT_get h1 (clear h1 fun _ _ z => by rw [h2] at z; cases z), h2, h3⟩
  have inH : K.In (hidT s1.heap H) := fun b o h => by
    refine hidT_get (inK b o h) ?_
    cases q : H b with
    | none => rfl
    | some u =>
      obtain ⟨rfl, z, _⟩ := who q
      rw [z] at h
      cases h
  obtain ⟨mc, l1, l2⟩ := lim
  have e0 : Env0 P w K mg (hidT s1.heap H) callerA [] s1 H := {
    frames := rfl
    mod := ⟨inH, nsH nsG, ⟨mb, nsH nsB, boot⟩, ⟨mc, nsH l1, l2⟩⟩
    bs := fun b o h => of_hidT h
    bsz := Nat.le_of_eq (hidT_size _ _)
    funs := trivial
    frf := fun b h => nomatch h
    hok := hok
    bare := .of_eq noGen }
  have want : spF K 1 gf [.ref a] H (fun v _ => v = .bl true) fun _ _ _ => False := by
    refine ⟨⟨K, H, fun _ => none, fun _ => 0, 0⟩, [], [intsD ns], rfl, ⟨fun _ _ z => z, rfl, fun l ob e => by simp at e, fun l m hl _ _ => absurd hl (Nat.not_lt_zero _), fun a o z => by cases z⟩, .cons (.lst sq (dqa_ints ns)) .nil, rfl, ?_⟩
    rw [hv]
    intro v H' g' _ _ dv
    cases dv
    rfl
  refine codeAny_mono ((F _ inH (nsH nsG)).run callerA [] s1 H ⟨[.ref a], []⟩ [.ref a] [.ref a] _ _ hr rfl e0 (hbind s1 (.ref a)) (.cons rfl .nil) want) ?_
  intro res s' hq
  match res, hq with
  | .error e, hq =>
    obtain ⟨_, _, _, _, _, _, _, _, _, _, _, _, z⟩ := hq
    exact z.elim
  | .ok (.ret u), hq =>
    obtain ⟨v, H', os, bare, un, hok', rr, rfl⟩ := hq
    cases rr
    refine ⟨rfl, OldK.of_keep fun b o h => ?_, os, bare⟩
    cases q : H b with
    | none => exact un.keep b o h q (fun z => nomatch z) (fun z => nomatch z)
    | some u =>
      obtain ⟨rfl, _, rfl⟩ := who q
      have h2 := (hok' _ _ (un.frzs _ _ _ q)).1
      rw [at_a] at h
      cases h
      exact h2
/-- the goal that k_head leaves -/
theorem walkG {l : PySem.W.OpenLaw} {n k : Nat} {q : Program} {loose : List Str} {XP : (Str → Option Value) → Heap → Prop} {YP : World → Heap → Prop} {d : DefRec} {K : Params → PySem.W.Frag} {gf : FF} {x : Str}
    (hn : l.most = some n) (hn2 : n ≤ sizeLine) (hdf : d.params.defaults = []) (hr : Room k callerA) (hY : ∀ (w : World) (h : Heap), YP w h → (K w.params).In h)
    (F : ∀ (w : World) (mg : Str → Option Value) (fa : Addr) (h : Heap), (K w.params).In h → h.Ns mainGlobals mg → mg d.name = some (.ref fa) →
      ∃ fd : FuncData, (∀ (s : Shared) (u : Value), BindsTo s fd ⟨[u], []⟩ [(x, u)]) ∧ ∀ base : Heap, (K w.params).In base → base.Ns mainGlobals mg → FnG l.prog w (K w.params) mg base k fa fd [x] gf)
    (hv : ∀ ns : List Int, ns.length ≤ n → ∃ wf, gf [intsD ns] [] = .ok (.bool true) wf) :
    PySem.W.WalkO q loose XP YP l.row.toRowW d [] (fun f vs => PySem.call f vs) := by
  refine Att.attach_call hn hdf fun w s0 s1 mg mb fa o pm cd doc a vs ns G Y ho hd hcd hmg hobj hints hlen hg => ?_
  obtain ⟨fd, hb, hF⟩ := F w mg fa _ (hY w _ Y) G.T.g hmg
  obtain ⟨wf, hwf⟩ := hv ns hlen
  exact lawG (hY w _ Y) G.T.g G.T.b G.T.builtins G.T.nolimit hg hobj hints (Nat.le_trans hlen hn2) hr hF hb hwf
end Td

set_option Elab.async false
set_option linter.all false
set_option maxRecDepth 100000
set_option maxHeartbeats 4000000
namespace Td
open PySem L2 PySem.Spec PyProof.Rows
theorem hu1 {k : Nat} {A : Around} (hr : Room k A) : A.units + 1 < cLine := by have := hr.un; omega
theorem hu64 {k : Nat} {A : Around} (hr : Room k A) : A.units + 64 < cLine := by have := hr.un; omega
theorem hu65 {k : Nat} {A : Around} (hr : Room k A) : A.units + 65 < cLine := by have := hr.un; omega
theorem hu70 {k : Nat} {A : Around} (hr : Room k A) : A.units + 70 < cLine := by have := hr.un; omega
theorem takesW0 {X : Cx} : Takes X W0 := fun _ _ x => by
  obtain ⟨_, _, _, _, _, _, _, _, _, _, _, _, _, _, _, _, z⟩ := x
  exact z.elim
/-- a def of the text, where it stands -/
structure DefAt (K : PySem.W.Frag) (mg : Str → Option Value) (x : Str) (st : Stmt) (ps : List Str) where
  f : Addr
  fd : FuncData
  fn : Fun K x x st f fd
  at_ : mg x = some (.ref f)
  bd : Binds K fd ps []
structure Gx (P : Program) (w : World) (K : PySem.W.Frag) (mg : Str → Option Value) (base : Heap) (k : Nat) {x : Str} {st : Stmt} {ps : List Str} (D : DefAt K mg x st ps) (gf : FF) : Prop where
  fn : FnG P w K mg base k D.f D.fd ps gf
  len : ∀ as w, as.length ≠ ps.length → gf as w = .no
section
variable {X : Cx} {W : WX} {k : Nat} {ps : List Str} {gf : FF} {x : Str} {st : Stmt} {p pos : Pos}
theorem pf_callR {D : DefAt X.K X.mg x st ps} {e : Expr} {es : List Expr} {fa : FA} (G : Gx X.prog X.w X.K X.mg X.base k D gf) (hr : Room k X.A) (hgu : X.A.guards = some []) (hgl : Gl X x) (tk : Takes X W) (ha : PAf X W (e :: es) fa)
    (hdb : (x == ("__debug__" : Str)) = false := by decide) (he : starEach (e :: es) X.env = (false, eval e X.env) :: starEach es X.env := by rfl) (hpl : (backTo pos (starEach es X.env)).any (·.1) = false := by rfl) :
    PF X W (.Call (.Name x p) (e :: es) [] pos) (eCall gf [] fa) :=
  pf_callD G.fn hr hgu hgl D.at_ D.fn.kp D.bd .nil (fun _ => .nil) (fun as => by
    by_cases h : (as ++ []).length = ps.length
    · exact Or.inl h
    · exact Or.inr fun w => G.len _ w h) tk ha hdb he hpl
theorem pf_callR0 {D : DefAt X.K X.mg x st ps} (G : Gx X.prog X.w X.K X.mg X.base k D gf) (hr : Room k X.A) (hgu : X.A.guards = some []) (hgl : Gl X x) (tk : Takes X W)
    (hdb : (x == ("__debug__" : Str)) = false := by decide) : PF X W (.Call (.Name x p) [] [] pos) (eCall gf [] aN) := by
  refine ⟨fun pins s σ H Q I h => ?_⟩
  have want := call_want (dvs := []) (des := []) (n := ps.length) (fun _ => .nil) (fun as => by
    by_cases h : (as ++ []).length = ps.length
    · exact Or.inl h
    · exact Or.inr fun w => G.len _ w h) h
  refine wpAny_Call_Name_kw (ld_glob I hgl D.at_ ?_ hdb)
  obtain ⟨g, ρ, w, hK, r, e, q⟩ := want
  exact PySem.W.callWith_K0 I.kIn D.fn.kp (run_G (us := []) (vs := []) G.fn hr hgu D.bd .nil tk I .nil (q [] H g (Xt.refl g) r .nil))
/-- a, b = e1, e2 -/
theorem psf_par {i j : Nat} {x y : Str} {a b : Expr} {fa : FA} {px py pt : Pos} {kt k2 : Nat} {pt2 : Pos} (hc : X.calm = true) (hN : X.N.Nodup) (hi : X.N[i]? = some x) (hj : X.N[j]? = some y) (hij : i ≠ j) (hx : X.env.scope.names.lookup x = some .local) (hy : X.env.scope.names.lookup y = some .local)
    (ha : PAf X W [a, b] fa) (hw : swappedStores [.Tuple [.Name x px, .Name y py] kt pt] (.Tuple [a, b] k2 pt2) X.env = pure (some [x, y])) (hs : swapsWithSole [.Tuple [.Name x px, .Name y py] kt pt] (.Tuple [a, b] k2 pt2) pos.line X.env = pure false := by rfl) :
    PSf X W (.Assign [.Tuple [.Name x px, .Name y py] kt pt] (.Tuple [a, b] k2 pt2) pos) (sPar i j fa) := ps_imp (ps_par hc hN hi hj hij hx hy ha hw hs) par_of
/-- s.upper() -/
def upD (_ : Ws) : PyData → Option PyData
  | .str a => if decide (a.length ≤ 5592405) then some (.str (Txt.upper a)) else none
  | _ => none
theorem pf_upper {o : Expr} {fo : FE} {apos : Pos} (ho : PF X W o fo) (hbase : attributeBase o "upper" X.env (eval o X.env) = eval o X.env := by rfl) (hline : (apos.endLine == pos.line) = true := by rfl) :
    PF X W (.Call (.Attribute o "upper" apos) [] [] pos) (eU upD fo) := by
  refine pe_imp (pe_upper ho hbase hline) fun σ H Q ⟨g, ρ, w, hK, r, e, q⟩ => ?_
  refine lX_bind hK r e q fun v H1 g1 d w1 x r1 e1 dv z => ?_
  cases dv with
  | str a =>
    simp only [upD] at z
    split at z
    · rename_i hs
      exact ⟨⟨_, rfl⟩, _, rfl, rfl, of_decide_eq_true hs, z _ H1 g1 (Xt.refl _) r1 (.str _)⟩
    · exact z.elim
  | _ => exact z.elim
end
section
variable {P : Program} {w : World} {K : PySem.W.Frag} {mg : Str → Option Value} {base : Heap}
/-- a def by its body -/
theorem gx_of {x : Str} {st : Stmt} {N ps : List Str} {k : Nat} {bf : FS} (D : DefAt K mg x st ps) (S : FnScope N ps (defScope st))
    (hbody : ∀ (cdv : Value) (A : Around) (outer : List Env) (s : Shared) (H : Hp) (E : XK), Room k (A.deeper (envOfC x (defScope st) s.heap.objs.size D.f cdv)) → A.guards = some [] →
      PSsf (cxOf (CX P w) P w K mg base N x (defScope st) D.f cdv A outer s H E) (fun c d _ H => E c d H) (defBody st) bf) : Gx P w K mg base (k + 1) D (defF N.length ps.length bf) :=
  ⟨fnG_of D.fn S hbody, fun as w h => if_neg h⟩
theorem Gx.mono {x : Str} {st : Stmt} {ps : List Str} {j k : Nat} {D : DefAt K mg x st ps} {gf : FF} (G : Gx P w K mg base j D gf) (h : j ≤ k) : Gx P w K mg base k D gf := ⟨G.fn.mono h, G.len⟩
theorem gx_no {x : Str} {st : Stmt} {ps : List Str} {k : Nat} (D : DefAt K mg x st ps) : Gx P w K mg base k D (fun _ _ => .no) :=
  ⟨⟨fun A outer s H args us vs Q E hr hg e0 hb hv ⟨g, w', ds, hK, r, da, hl, q⟩ => q.elim⟩, fun _ _ _ => rfl⟩
theorem tkX {x : Str} {st : Stmt} {N : List Str} {f : Addr} {cdv : Value} {A : Around} {outer : List Env} {s : Shared} {H : Hp} {E : XK} : Takes (cxOf (CX P w) P w K mg base N x (defScope st) f cdv A outer s H E) (fun c d _ H => E c d H) := takes_of rfl rfl rfl rfl
theorem poX {x : Str} {st : Stmt} {N : List Str} {f : Addr} {cdv : Value} {A : Around} {outer : List Env} {s : Shared} {H : Hp} {E : XK} : PassesOwn (model P w) (cxOf (CX P w) P w K mg base N x (defScope st) f cdv A outer s H E).A (cxOf (CX P w) P w K mg base N x (defScope st) f cdv A outer s H E).env (cxOf (CX P w) P w K mg base N x (defScope st) f cdv A outer s H E).xe := passes_of rfl
def defAt_mk {h : Heap} {x : Str} {st : Stmt} {ps : List Str} {f : Addr} {oc : Value} {od an : Option Addr} {osl : Array (Option Value)} {kV doc pm cdv ct : Value} (X : K.In h) (G : h.Ns mainGlobals mg) (a : PySem.W.nsIn K mainGlobals x = some (some (.ref f)))
    (l : K.lookup f = some ⟨oc, od, .func (PySem.W.fnOf x x (defArgs st) (defBody st) (defScope st) .none kV doc pm an cdv ct), osl⟩) (c : PySem.W.codeIn K cdv x = true) (k : PySem.W.keepIn K (.ref f) = true)
    (hb : ∀ (kV doc pm : Value) (an : Option Addr) (cdv ct : Value) (us : List Value), us.length = ps.length → bindArgs (PySem.W.fnOf x x (defArgs st) (defBody st) (defScope st) .none kV doc pm an cdv ct) ⟨us, []⟩ = pure (ps.zip us)) : DefAt K mg x st ps :=
  ⟨f, _, fun_mk l c k, PySem.W.mg_of X G a, (fun_mk l c k).binds hb⟩
end
end Td

set_option Elab.async false
set_option linter.all false
set_option maxRecDepth 100000
set_option maxHeartbeats 4000000
namespace Td
open PySem L2 PyProof.Rows
/-! ### texts: rising, each once -/
def leS (a b : Str) : Bool := !(PySem.Spec.ltCps b.cps.toList a.cps.toList)
def putS (x : Str) : List Str → List Str
  | [] => [x]
  | y :: l => cond (leS x y) (x :: y :: l) (y :: putS x l)
def srtS (xs : List Str) : List Str := xs.foldr putS []
def addS (L : List Str) (x : Str) : List Str := cond (decide (x ∈ L)) L (L ++ [x])
def ddS (xs : List Str) : List Str := xs.foldl addS []
theorem leS_iff {a b : Str} : leS a b = true ↔ a.cps.toList ≤ b.cps.toList := by
  unfold leS
  rw [ltCps_eq, Bool.not_eq_true', decide_eq_false_iff_not]
  exact Iff.rfl
theorem leS_tot (a b : Str) : leS a b = true ∨ leS b a = true := by
  rw [leS_iff, leS_iff]
  exact List.le_total ..
theorem leS_tr {a b c : Str} (h1 : leS a b = true) (h2 : leS b c = true) : leS a c = true := by
  rw [leS_iff] at *
  exact List.le_trans h1 h2
theorem leS_anti {a b : Str} (h1 : leS a b = true) (h2 : leS b a = true) : a = b := by
  rw [leS_iff] at *
  have e := List.le_antisymm h1 h2
  obtain ⟨⟨x⟩⟩ := a
  obtain ⟨⟨y⟩⟩ := b
  cases e
  rfl
theorem putS_perm (x : Str) : ∀ l, (putS x l).Perm (x :: l)
  | [] => List.Perm.refl _
  | y :: l => by
    unfold putS
    cases leS x y with
    | true => exact List.Perm.refl _
    | false => exact ((putS_perm x l).cons y).trans (List.Perm.swap x y l)
theorem putS_srt (x : Str) : ∀ l, l.Pairwise (leS · · = true) → (putS x l).Pairwise (leS · · = true)
  | [], _ => List.pairwise_singleton ..
  | y :: l, h => by
    obtain ⟨h1, h2⟩ := List.pairwise_cons.mp h
    unfold putS
    cases c : leS x y with
    | true =>
      refine List.pairwise_cons.mpr ⟨fun z hz => ?_, h⟩
      rcases List.mem_cons.mp hz with rfl | hz
      · exact c
      · exact leS_tr c (h1 z hz)
    | false =>
      refine List.pairwise_cons.mpr ⟨fun z hz => ?_, putS_srt x l h2⟩
      rcases List.mem_cons.mp ((putS_perm x l).mem_iff.mp hz) with rfl | hz
      · rcases leS_tot z y with q | q
        · rw [c] at q; cases q
        · exact q
      · exact h1 z hz
theorem srtS_perm : ∀ l, (srtS l).Perm l
  | [] => List.Perm.refl _
  | x :: l => (putS_perm x (srtS l)).trans ((srtS_perm l).cons x)
theorem srtS_srt : ∀ l, (srtS l).Pairwise (leS · · = true)
  | [] => List.Pairwise.nil
  | x :: l => putS_srt x _ (srtS_srt l)
theorem pw_of_risingS : ∀ (p : Str) (l : List Str), risingS p l = true → (p :: l).Pairwise (leS · · = true)
  | p, [], _ => List.pairwise_singleton ..
  | p, x :: r, h => by
    have h' : (!PySem.Spec.ltCps x.cps.toList p.cps.toList && risingS x r) = true := h
    rw [Bool.and_eq_true] at h'
    have ih := pw_of_risingS x r h'.2
    refine List.pairwise_cons.mpr ⟨fun z hz => ?_, ih⟩
    rcases List.mem_cons.mp hz with rfl | hz
    · exact h'.1
    · exact leS_tr h'.1 ((List.pairwise_cons.mp ih).1 z hz)
theorem srtS_one {ys xs : List Str} (hp : ys.Perm xs) (hs : sortedS ys = true) : ys = srtS xs := by
  have h1 : ys.Pairwise (leS · · = true) := by
    cases ys with
    | nil => exact List.Pairwise.nil
    | cons p l => exact pw_of_risingS p l hs
  exact List.Perm.eq_of_pairwise (fun a b _ _ => leS_anti) h1 (srtS_srt xs) (hp.trans (srtS_perm xs).symm)
theorem ddS_snoc (xs : List Str) (x : Str) : ddS (xs ++ [x]) = addS (ddS xs) x := by
  unfold ddS
  rw [List.foldl_append]
  rfl
theorem addS_len (L : List Str) (x : Str) : (addS L x).length ≤ L.length + 1 := by
  unfold addS
  cases decide (x ∈ L) with
  | true => exact Nat.le_succ _
  | false => rw [cond_false, List.length_append]; exact Nat.le_refl _
/-! ### the set of texts in the heap -/
def keyT (e : Int × Value) : Str := strOf e.2
def Tx1 (w : World) (e : Int × Value) : Prop := ∃ k u, e = (hashStr w k, Value.str k u)
structure TxS (w : World) (h : Heap) (a : Addr) (L : List Str) : Prop where
  ex : ∃ o es ep t, h.get? a = some o ∧ o.ExactSet ∧ o.data = .set es ep t ∧ (∀ e ∈ es.toList, Tx1 w e) ∧ (es.toList.map keyT).Perm L ∧ L.Nodup ∧ es.size < scanBound ∧ t.fits es.size = true ∧ Ris t.place.toList ∧ (w.params.followText "set-order" = true ∨ t.led = true)
theorem TxS.at {w : World} {h h' : Heap} {a : Addr} {L : List Str} (R : TxS w h a L) (k : ∀ o, h.get? a = some o → h'.get? a = some o) : TxS w h' a L := by
  obtain ⟨o, es, ep, t, ho, r⟩ := R.ex
  exact ⟨⟨o, es, ep, t, k o ho, r⟩⟩
theorem TxS.new {w : World} {h : Heap} {a : Addr} (ho : h.get? a = some { cls := .type "set", dict := none, data := .set #[] 0 (.fresh 0 0 (!w.params.followText "set-order")) }) : TxS w h a [] :=
  ⟨⟨_, #[], 0, _, ho, ⟨rfl, rfl, rfl⟩, rfl, (fun e he => by simp at he), .nil, .nil, (by decide), (by rfl), List.Pairwise.nil, by
    show _ ∨ (!w.params.followText "set-order") = true
    cases w.params.followText "set-order"
    · exact .inr rfl
    · exact .inl rfl⟩⟩
section
variable {P : Program} {w : World} {A : Around} {E : Value → Shared → Prop} {s : Shared} {a : Addr} {L : List Str}
theorem tx1_key {e : Int × Value} (g : Tx1 w e) (k : Str) : (PySem.strKind P w).is k e.2 = true ↔ keyT e = k := by
  obtain ⟨k0, u, rfl⟩ := g
  show Value.isStrOf k (.str k0 u) = true ↔ k0 = k
  simp [Value.isStrOf]
theorem tx1_elems {l : List (Int × Value)} (g : ∀ e ∈ l, Tx1 w e) : ElemsOf (PySem.strKind P w) l := fun e he => by
  obtain ⟨k, u, rfl⟩ := g e he
  exact ⟨⟨k, strKind_is P w k u, rfl⟩, rfl⟩
theorem tx_tail {g : Bool → Sem Unit} (hg : ∀ (b : Bool) (s₁ : Shared) (Q' : Unit → Shared → Prop), Q' () s₁ → wpAny (model P w) A (g b) Q' E s₁)
    {o : Obj} {es : Array (Int × Value)} {ep : Nat} {t : SetTable} (ho : s.heap.get? a = some o) (hex : o.ExactSet) (hd : o.data = .set es ep t)
    {es1 : Array (Int × Value)} {t2 : SetTable} (g1 : ∀ e ∈ es1.toList, Tx1 w e) (p1 : (es1.toList.map keyT).Perm L) (nd : L.Nodup)
    (hb1 : es1.size < scanBound) (hf2 : t2.fits es1.size = true) (hr : Ris t2.place.toList) (hl : w.params.followText "set-order" = true ∨ t2.led = true) {wasDummy : Bool} {R : Option Bool → Shared → Prop}
    (hR : ∀ h', Heap.SameBut a s.heap h' → TxS w h' a L → R (some true) { s with heap := h' }) :
    wpAny (model P w) A (do
        storeSet a es1 t2
        if (!wasDummy && t2.tooFull) = true then do
            g (relayAll t2 es1 (SetTable.grown es1.size)).2.2
            storeSet a (relayAll t2 es1 (SetTable.grown es1.size)).1 (relayAll t2 es1 (SetTable.grown es1.size)).2.1
            pure (some true)
          else pure (some true)) R E s := by
  refine wpAny_bind (wpAny_storeSet_of ho hd ?_ (fits_of_scanBound hb1))
  have ho1 := store_at (es' := es1) (t' := t2) ho hd
  have sb1 := Heap.SameBut.update s.heap a (Obj.putSet es1 t2)
  split
  · obtain ⟨Z, hZ⟩ : ∃ Z, Z = relayAll t2 es1 (SetTable.grown es1.size) := ⟨_, rfl⟩
    have pm : Z.1.toList.Perm es1.toList := hZ ▸ relayAll_perm t2 es1 (SetTable.grown es1.size)
    have hf3 : Z.2.1.fits Z.1.size = true := hZ ▸ relayAll_fits t2 es1 (SetTable.grown es1.size)
    have hr3 : Ris Z.2.1.place.toList := hZ ▸ relayAll_ris t2 es1 (SetTable.grown es1.size)
    have hl3 : Z.2.1.led = t2.led := hZ ▸ relayAll_led t2 es1 (SetTable.grown es1.size)
    rw [← hZ]
    have hsz : Z.1.size = es1.size := by rw [← Array.length_toList, pm.length_eq, Array.length_toList]
    have hb2 : Z.1.size < scanBound := by rw [hsz]; exact hb1
    refine wpAny_bind (hg _ _ _ (wpAny_bind (wpAny_storeSet_of ho1 rfl ?_ (fits_of_scanBound hb2))))
    have ho2 := store_at (es' := Z.1) (t' := Z.2.1) ho1 rfl
    refine wpAny_pure (hR _ (sb1.trans (Heap.SameBut.update _ a _)) ⟨⟨_, Z.1, _, Z.2.1, ho2, hex, rfl, fun e he => g1 e (pm.mem_iff.mp he), (pm.map keyT).trans p1, nd, hb2, hf3, hr3, ?_⟩⟩)
    exact hl.imp id fun z => by rw [hl3]; exact z
  · exact wpAny_pure (hR _ sb1 ⟨⟨_, es1, _, t2, ho1, hex, rfl, g1, p1, nd, hb1, hf2, hr, hl⟩⟩)
theorem tx_add {k : Str} {u : Tok} {Q : Bool → Shared → Prop} (R : TxS w s.heap a L) (room : L.length + 1 < scanBound)
    (hQ : ∀ b h', Heap.SameBut a s.heap h' → TxS w h' a (addS L k) → Q b { s with heap := h' }) : wpAny (model P w) A (setAddHashed a (.str k u) ((PySem.strKind P w).hash k)) Q E s := by
  obtain ⟨o, es, ep, t, ho, hex, hd, g, pL, nd, hb, hf, hr, hl⟩ := R.ex
  have hkey : (PySem.strKind P w).is k (.str k u) = true := strKind_is P w k u
  have hsc : (Value.str k u).scannable = true := rfl
  have hel : ElemsOf (PySem.strKind P w) es.toList := tx1_elems g
  have hesL : es.size = L.length := by rw [← pL.length_eq, List.length_map, Array.length_toList]
  unfold setAddHashed setAddHashedIn
  refine wpAny_holding (wpAny_bind (wpAny_setState_of ho hd hf ?_))
  dsimp only
  rw [byScan_of hsc hb hel]
  simp only [↓reduceIte]
  unfold setAddByScan
  refine wpAny_bind (wpAny_bind (wpAny_rule (wpAny_bind (wpAny_setScan_of hkey ho hd hf hel ?_))))
  cases hfi : List.findIdx? (fun e => (PySem.strKind P w).is k e.2) es.toList with
  | some j =>
    dsimp only
    obtain ⟨hj, pj, _⟩ := List.findIdx?_eq_some_iff_getElem.mp hfi
    have hk : k ∈ L := pL.mem_iff.mp (List.mem_map.mpr ⟨_, List.getElem_mem hj, (tx1_key (g _ (List.getElem_mem hj)) k).mp pj⟩)
    have e : addS L k = L := by unfold addS; rw [decide_eq_true hk]; rfl
    exact wpAny_pure (wpAny_pure (hQ _ s.heap (Heap.SameBut.refl a s.heap) (by rw [e]; exact R)))
  | none =>
    dsimp only
    have hk : k ∉ L := fun z => by
      obtain ⟨e, he, q⟩ := List.mem_map.mp (pL.mem_iff.mpr z)
      have c := List.findIdx?_eq_none_iff.mp hfi e he
      rw [(tx1_key (P := P) (g e he) k).mpr q] at c
      cases c
    have eA : addS L k = L ++ [k] := by unfold addS; rw [decide_eq_false hk]; rfl
    have ndA : (L ++ [k]).Nodup := (List.perm_append_singleton k L).nodup_iff.mpr (List.nodup_cons.mpr ⟨hk, nd⟩)
    obtain ⟨Z, hZ⟩ : ∃ Z, Z = layNew t es ((PySem.strKind P w).hash k) (.str k u) := ⟨_, rfl⟩
    have pm : Z.1.toList.Perm (es.push ((PySem.strKind P w).hash k, .str k u)).toList := hZ ▸ layNew_perm t es ((PySem.strKind P w).hash k) (.str k u)
    have hf1 : Z.2.1.fits Z.1.size = true := hZ ▸ layNew_fits t es ((PySem.strKind P w).hash k) (.str k u)
    have hr1 : Ris Z.2.1.place.toList := hZ ▸ layNew_ris t es ((PySem.strKind P w).hash k) (.str k u) hr
    have hl1 : Z.2.1.led = t.led := hZ ▸ layNew_led t es ((PySem.strKind P w).hash k) (.str k u)
    rw [← hZ]
    obtain ⟨es1, t1, wasD, gave⟩ := Z
    dsimp only at pm hf1 hr1 hl1 ⊢
    rw [Array.toList_push] at pm
    have g1 : ∀ e ∈ es1.toList, Tx1 w e := fun e he => by
      rcases List.mem_append.mp (pm.mem_iff.mp he) with z | z
      · exact g e z
      · exact ⟨k, u, List.mem_singleton.mp z⟩
    have p1 : (es1.toList.map keyT).Perm (L ++ [k]) := by
      have q := pm.map keyT
      rw [List.map_append] at q
      exact q.trans (pL.append_right _)
    have hsz : es1.size = L.length + 1 := by rw [← Array.length_toList, pm.length_eq, List.length_append, Array.length_toList, hesL]; rfl
    have hb1 : es1.size < scanBound := by rw [hsz]; exact room
    have hled : w.params.followText "set-order" = true ∨ t1.led = true := hl.imp id fun z => by rw [hl1]; exact z
    have fin : ∀ h', Heap.SameBut a s.heap h' → TxS w h' a (L ++ [k]) → Q true { s with heap := h' } := fun h' sb r => hQ true h' sb (by rw [eA]; exact r)
    have hgw : ∀ (b : Bool) (s₁ : Shared) (Q' : Unit → Shared → Prop), Q' () s₁ → wpAny (model P w) A (match b with | true => rule "set.scan.the-table-gave-way" | false => pure ()) Q' E s₁ :=
      fun b s₁ Q' q => by cases b <;> first | exact wpAny_pure q | exact wpAny_rule q
    refine wpAny_bind (hgw _ _ _ ?_)
    split
    · refine wpAny_bind ?_
      rw [hashByValue_scannable 8 hsc]
      refine wpAny_pure ?_
      refine tx_tail ?_ ho hex hd g1 p1 ndA hb1 ?_ ?_ ?_ ?_
      · intro b s₁ Q' q; cases b <;> first | exact wpAny_pure q | exact wpAny_rule q
      · first | (split <;> first | exact hf1 | exact SetTable.fits_plain_off hf1) | exact hf1
      · first | (split <;> exact hr1) | exact hr1
      · first | (split <;> exact hled) | exact hled
      · intro h' sb r; dsimp only; exact wpAny_pure (fin h' sb r)
    · refine wpAny_bind (wpAny_pure ?_)
      simp only [↓reduceIte]
      refine tx_tail ?_ ho hex hd g1 p1 ndA hb1 hf1 hr1 hled ?_
      · intro b s₁ Q' q; cases b <;> first | exact wpAny_pure q | exact wpAny_rule q
      · intro h' sb r; dsimp only; exact wpAny_pure (fin h' sb r)
theorem ddS_take {xs : List Str} {i : Nat} {x : Str} (h : xs[i]? = some x) : ddS (xs.take (i + 1)) = addS (ddS (xs.take i)) x := by
  rw [List.take_add_one, h]
  exact ddS_snoc _ _
theorem ddS_len : ∀ (xs : List Str) (i : Nat), i ≤ xs.length → (ddS (xs.take i)).length ≤ i
  | xs, 0, _ => by rw [List.take_zero]; exact Nat.le_refl _
  | xs, i + 1, h => by
    rw [ddS_take (List.getElem?_eq_getElem (by omega : i < xs.length))]
    exact Nat.le_trans (addS_len _ _) (Nat.succ_le_succ (ddS_len xs i (by omega)))
/-- the adds, one by one -/
theorem tx_loop {I : Addr} {fp wr : List Addr} {G : Array GenState → Array GenState → Prop} {n : Nat} {Pv : Nat → Value → Prop} {St : Nat → Shared → Prop} {R : Result → Shared → Prop}
    (W : WalksS P w A.in1 I fp wr G n Pv St) (S : Addr) (hSf : S ∉ fp) (xs : List Str) (hn : n = xs.length) (hb : xs.length + 1 < scanBound) (hval : ∀ i v, Pv i v → ∃ k t, xs[i]? = some k ∧ v = .str k t) :
    ∀ (k i : Nat) (s : Shared), n - i = k → i ≤ n → St i s → TxS w s.heap S (ddS (xs.take i)) →
      (∀ s', Moved (S :: wr) G s s' → TxS w s'.heap S (ddS xs) → R (.ok (.ret .none)) s') →
      codeAny (model P w) A (.builtin "set.update.loop" ⟨[.ref S, .ref I], []⟩) R s := by
  have hSw : S ∉ wr := fun h => hSf (W.sub _ h)
  have hsub : ∀ b ∈ wr, b ∈ S :: wr := fun b hb => List.mem_cons_of_mem _ hb
  intro k
  induction k with
  | zero =>
    intro i s hk' hi hst hS hR
    have hin : i = n := by omega
    subst hin
    refine codeAny_builtin F.entry_set_update_loop ?_
    rw [Around.under_plainId F.plain_set_update_loop _]
    show wpAny _ A.in1 (pyNext (.ref I) >>= _) _ _ s
    refine wpAny_bind (W.done s _ _ hst fun s' hm => ?_)
    show wpAny _ A.in1 (ret Value.none) _ _ s'
    rw [List.take_of_length_le (by omega)] at hS
    exact wpAny_pure (hR s' (hm.mono hsub) (hS.at fun o e => hm.heap S o hSw e))
  | succ k ih =>
    intro i s hk' hi hst hS hR
    have hlt : i < n := by omega
    refine codeAny_builtin F.entry_set_update_loop ?_
    rw [Around.under_plainId F.plain_set_update_loop _]
    show wpAny _ A.in1 (pyNext (.ref I) >>= _) _ _ s
    refine wpAny_bind (W.item i s _ _ hlt hst fun v s' hP hst' hm => ?_)
    obtain ⟨z, t, hz, rfl⟩ := hval i v hP
    have hS' : TxS w s'.heap S (ddS (xs.take i)) := hS.at fun o e => hm.heap S o hSw e
    show wpAny _ A.in1 (holding [Value.str z t] (setAdd S (.str z t)) >>= _) _ _ s'
    refine wpAny_bind (wpAny_holding ?_)
    unfold setAdd
    refine wpAny_holding (wpAny_bind ((PySem.strKind P w).pyHash (k := z) (strKind_is _ _ _ _) ?_))
    refine tx_add (s := { s' with toks := s'.toks + 1 }) hS' (by have := ddS_len xs i (by omega); omega) fun b h' hsb hS2 => ?_
    rw [← ddS_take hz] at hS2
    refine wpAny_pure ⟨plainId_quiet F.plain_set_update_loop _, ih (i + 1) _ (by omega) hlt (W.frame _ s' _ _ hst' (Nat.le_succ _) fun b hb o e => ?_) hS2 fun s'' hm'' hS'' => ?_⟩
    · rw [hsb.2 b (fun h : b = S => hSf (by rw [← h]; exact hb))]; exact e
    · refine hR s'' (Moved.trans W.gtrans ((hm.mono hsub).then_heap (Nat.le_succ _) fun b o hb e => ?_) hm'') hS''
      rw [hsb.2 b (fun h : b = S => hb (by rw [h]; exact List.mem_cons_self))]; exact e
/-- set(xs), xs a list of texts -/
theorem tx_call {l : Addr} {its : Array Value} {xs : List Str} {Q : Value → Shared → Prop} (hh : A.handled = none) (hl : s.heap.IsList l its) (hi : StrsAre its.toList xs) (hfew : xs.length + 1 < scanBound)
    (h : ∀ (h' : Heap) (tk : Nat), TxS w h' s.heap.objs.size (ddS xs) → (∀ b o, s.heap.get? b = some o → h'.get? b = some o) → Q (.ref s.heap.objs.size) { s with heap := h', toks := tk }) :
    wpAny (model P w) A (call (.type "set") [.ref l]) Q E s := by
  obtain ⟨N0, hN0⟩ : ∃ N0 : Obj, N0 = { cls := .type "set", dict := none, data := .set #[] 0 (.fresh 0 0 (!w.params.followText "set-order")) } := ⟨_, rfl⟩
  have hisz : its.size = xs.length := by rw [← StrsAre.len_eq hi, Array.length_toList]
  obtain ⟨c, tl, hmro⟩ := F.called_set.mro
  have hmade := F.called_set.made
  have hsub := F.called_set.sub
  refine wpAny_call (codeAny_of_tree ?_)
  show wpAny _ _ (callAny (.type "set") _) _ _ _
  refine wpAny_pure ⟨Code.quiet_builtin _ (by decide +kernel), codeAny_builtin F.entry_type_call ?_⟩
  rw [Around.under_plain (weight_type_call_type "set" [.ref l] []) rfl]
  have h1 := F.called_set.notType
  have h2 := F.called_set.canCreate
  have hct := F.typeCall_set_1 (.ref l)
  repeat (any_goals (first | assumption | wp_step))
  refine codeAny_mono (code_set_led1 (.ref l) (E := E) (Q₁ := fun obj s₁ => obj = .ref s.heap.objs.size ∧ s₁ = { s with heap := s.heap.push N0 }) ⟨rfl, by rw [hN0]⟩) fun r s₁ hr => ?_
  cases r with
  | error e => exact hr
  | ok fl =>
    cases fl with
    | ret obj =>
      obtain ⟨rfl, rfl⟩ := hr
      have hS : (s.heap.push N0).get? s.heap.objs.size = some N0 := Heap.get?_push_size _ (by rw [hN0]; rfl)
      have hT : Shared.TypeIs { s with heap := s.heap.push N0 } (.ref s.heap.objs.size) "set" := ⟨_, hS, by rw [hN0]⟩
      have hli := F.called_set.init.lookup
      have hbi := F.called_set.init.bind (.ref s.heap.objs.size)
      repeat (any_goals (first | assumption | wp_step))
      refine codeAny_mono (codeAny_call_builtin (R := wants (fun r s₂ => r = .none ∧ ∃ h' tk, s₂ = { s with heap := h', toks := tk } ∧ TxS w h' s.heap.objs.size (ddS xs) ∧
          (∀ b o, s.heap.get? b = some o → h'.get? b = some o)) E) F.called_set.init.plain F.entry_set_init (check_set_init_1 hT ?_)) fun r₂ s₂ hr₂ => ?_
      · obtain ⟨ol, hol, hcl, nl, hdl⟩ := hl
        obtain ⟨ocls, odict, odata, oslots⟩ := ol
        simp only at hcl hdl
        subst hcl; subst hdl
        have hol' : (s.heap.push N0).get? l = some { cls := .type "list", dict := odict, data := .seq its nl, slots := oslots } := Heap.get?_push_of_some _ hol
        have hsls := F.sub_list_set
        have hslf := F.sub_list_frozenset
        have hne : (Value.type "list" == Value.type "dict") = false := by decide
        have hl1 : (s.heap.push N0).IsList l its := ⟨_, hol', rfl, nl, rfl⟩
        have hlS : l < s.heap.objs.size := Heap.lt_size hol
        have hh3 : A.in1.in1.in1.handled = none := by simp [hh]
        have hneI : l ≠ (s.heap.push N0).objs.size := by
          rw [Heap.size_push]; exact Nat.ne_of_lt (Nat.lt_succ_of_lt hlS)
        have hSf : s.heap.objs.size ∉ [(s.heap.push N0).objs.size, l] := by
          rw [Heap.size_push]; simp only [List.mem_cons, List.mem_singleton, List.not_mem_nil, or_false, not_or]
          exact ⟨Nat.ne_of_lt (Nat.lt_succ_self _), Nat.ne_of_gt hlS⟩
        have hval : ∀ (i : Nat) (v : Value), its[i]? = some v → ∃ k t, xs[i]? = some k ∧ v = .str k t := fun i v hv => by
          have hv' : its.toList[i]? = some v := by rw [Array.getElem?_toList]; exact hv
          have hlt : i < xs.length := by rw [← hisz, ← Array.length_toList]; exact (List.getElem?_eq_some_iff.mp hv').1
          obtain ⟨t, e⟩ := SS.strs_at hi i v hv'
          refine ⟨xs[i], t, List.getElem?_eq_getElem hlt, ?_⟩
          rw [e, List.getD_eq_getElem?_getD, List.getElem?_eq_getElem hlt]
          rfl
        have hget : ((s.heap.push N0).push { cls := .type "list_iterator", data := .fields #[.ref l, .int 0 0] }).get? s.heap.objs.size = some N0 := Heap.get?_push_of_some _ hS
        have hb2' : ∀ b, b < s.heap.objs.size → b ≠ (s.heap.push N0).objs.size := fun b hb => by
          rw [Heap.size_push]; exact Nat.ne_of_lt (Nat.lt_succ_of_lt hb)
        subst hN0
        unfold Builtin.«set.__init__» noKeywords Builtin.Frozenset.updateFrom
        generalize hPI : pyIter = PI
        wp_walk
        subst hPI
        refine wpAny_pyIter_list hl1 ?_
        refine wpAny_bind (wpAny_runValue ?_)
        refine tx_loop ((Walks.list hh3 _ l hneI its).toS) s.heap.objs.size hSf xs hisz hfew hval (its.size - 0) 0 _ (by omega) (Nat.zero_le _)
          ⟨⟨_, Heap.get?_push_size _ rfl, rfl, rfl⟩, (hl1.push _)⟩ (TxS.new hget) ?_
        intro s' hm hS'
        obtain ⟨h', g2, d', tk', os'⟩ := s'
        have eg : g2 = s.gens := hm.gens
        have ed : d' = s.drawn := hm.drawn
        have eo : os' = s.os := hm.os
        subst eg; subst ed; subst eo
        show wpAny _ _ _ _ _ _
        refine wpAny_pure ?_
        show wpAny _ _ (ret Value.none) _ _ _
        refine wpAny_pure ⟨rfl, h', tk', rfl, hS', fun b o e => ?_⟩
        have hb := Heap.lt_size e
        have hb1 : b ≠ s.heap.objs.size := Nat.ne_of_lt hb
        have hb2 := hb2' b hb
        exact hm.heap b o (by simp only [List.mem_cons, List.mem_singleton, List.not_mem_nil, or_false, not_or]; exact ⟨hb1, hb2⟩) (Heap.get?_push_of_some _ (Heap.get?_push_of_some _ e))
      · cases r₂ with
        | error e => exact hr₂
        | ok fl₂ =>
          cases fl₂ with
          | ret r =>
            obtain ⟨rfl, h', tk, rfl, hS', hk'⟩ := hr₂
            repeat (any_goals (first | assumption | wp_step))
            exact h _ _ hS' hk'
          | _ => exact hr₂.elim
    | _ => exact hr.elim
/-- sorted(found) -/
theorem tx_sorted {Q : Value → Shared → Prop} (R : TxS w s.heap a L) (hh : A.handled = none)
    (hQ : ∀ s' p (out : Array Value) (c : Nat), (∀ b o, s.heap.get? b = some o → s'.heap.get? b = some o) → s'.gens = s.gens → s'.os = s.os → s.heap.objs.size ≤ p →
      s'.heap.get? p = some (seqObj "list" out c) → StrsAre out.toList (srtS L) → Q (.ref p) s') :
    wpAny (model P w) A (call (.builtin "sorted") [.ref a]) Q E s := by
  obtain ⟨o, es, ep, t, ho, hex, hd, g, pL, nd, hb, hf, hr, hl⟩ := R.ex
  refine Calls.call_function_entry kind_sorted plain_sorted entry_sorted (args_sorted1 _) ?_
  unfold Builtin.«sorted»
  refine wpAny_bind (m := checkCount "sorted" 1 1 _) (wpAny_pure ?_)
  refine wpAny_bind (collect_set (A := A.in1) hh ⟨o, ho, hex.1, hd⟩ hf hb hr hl fun s1 vs k1 hz g1 o1 pm => ?_)
  have hS : StrsAre vs (vs.map strOf) := strsAre_map vs fun v hv => by
    obtain ⟨e, he, q⟩ := List.mem_map.mp (pm.mem_iff.mp hv)
    obtain ⟨k, u, rfl⟩ := g e he
    exact ⟨k, u, q.symm⟩
  have pk : (vs.map strOf).Perm L := by
    have q := pm.map strOf
    rw [List.map_map] at q
    exact q.trans pL
  have hvl : vs.length ≤ sizeLine := by
    rw [pm.length_eq, List.length_map, Array.length_toList]
    exact fits_of_scanBound hb
  refine wpAny_bind (wpAny_newList ?_ hvl)
  have hoL : (s1.heap.push (seqObj "list" vs.toArray 0)).get? s1.heap.objs.size = some (seqObj "list" vs.toArray 0) := Heap.get?_push_size _ rfl
  refine wpAny_bind (wpAny_holding (wpAny_call_entry slot_list_sort ⟨_, hoL, rfl⟩ entry_list_sort (list_sort_treeKAny strKind_oneLt hoL hS.keysOf (fun v₁ v₂ rest e => keyKind_strs (by rw [← e]; exact hS)) hvl fun st' hp hs => ⟨_, rfl, ?_⟩) (args_list_sort _)))
  obtain ⟨ys, q1, q2, q3⟩ := sorted_out_str hS hp hs
  obtain ⟨c, hc⟩ := sortedHeap_at (vs := vs) (out := (arrOf st').map (·.2)) hoL
  rw [srtS_one (q2.trans pk) q3] at q1
  refine wpAny_pure ⟨_, rfl, hQ _ s1.heap.objs.size _ c (fun b u e => ?_) g1 o1 hz hc q1⟩
  have q := k1 b u e
  have hlt := Heap.lt_size q
  show (sortedHeap (s1.heap.push (seqObj "list" vs.toArray 0)) s1.heap.objs.size vs _).get? b = some u
  rw [sortedHeap_old (Nat.ne_of_lt hlt) (by rw [size_push']; exact Nat.lt_succ_of_lt hlt)]
  exact Heap.get?_push_of_some _ q
end
end Td

set_option Elab.async false
set_option linter.all false
set_option maxRecDepth 100000
set_option maxHeartbeats 4000000
namespace Td
open PySem L2 PySem.Spec PyProof.Rows
/-! ### t[::-1] -/
section
variable {prog : Program} {w : World} {A : Around} {E : Value → Shared → Prop} {s : Shared}
theorem rev_adjust (n : Nat) : Builtin.Slice.sliceAdjust none none (-1) (n : Int) = ((n : Int) - 1, -1) := by
  unfold Builtin.Slice.sliceAdjust
  simp
theorem rev_places (n : Nat) : Builtin.Slice.slicePlaces ((n : Int) - 1) (-1) (-1) = n := by
  unfold Builtin.Slice.slicePlaces
  simp
  omega
theorem rev_pick (xs : Array Value) : ((List.range xs.size).filterMap fun (k : Nat) => xs[((xs.size : Int) - 1 + (k : Int) * -1).toNat]?).toArray = xs.toList.reverse.toArray := by
  have e : (List.range xs.size).filterMap (fun (k : Nat) => xs[((xs.size : Int) - 1 + (k : Int) * -1).toNat]?) = ((List.range xs.size).map fun k => xs.size - 1 - k).filterMap (fun k => xs[k]?) := by
    rw [List.filterMap_map]
    have f : (fun (k : Nat) => xs[((xs.size : Int) - 1 + (k : Int) * -1).toNat]?) = (fun k => xs[k]?) ∘ fun k => xs.size - 1 - k := by
      funext k
      show xs[((xs.size : Int) - 1 + (k : Int) * -1).toNat]? = xs[xs.size - 1 - k]?
      have : ((xs.size : Int) - 1 + (k : Int) * -1).toNat = xs.size - 1 - k := by omega
      rw [this]
    rw [f]
  rw [e, PySem.W.krv_range, List.filterMap_reverse, PySem.W.krv_all]
theorem sliceApplied_rev {sl : Addr} {t : Tok} {n : Nat} {Q : Int × Int × Nat → Shared → Prop} (hs : s.heap.IsSliceOf sl .none .none (.int (-1) t)) (h : Q ((n : Int) - 1, -1, n) s) :
    wpAny (model prog w) A (Builtin.Slice.sliceApplied (.ref sl) (pure (n : Int))) Q E s := by
  obtain ⟨os, hos, hcs, hds⟩ := id hs
  unfold Builtin.Slice.sliceApplied Builtin.Slice.sliceFields
  refine wpAny_bind (wpAny_bind (wpAny_field hos hds (x := .none) rfl ?_))
  refine wpAny_bind (wpAny_field hos hds (x := .none) rfl ?_)
  refine wpAny_bind (wpAny_field hos hds (x := .int (-1) t) rfl (wpAny_pure ?_))
  refine wpAny_bind (HT.slicePart_ (.int (-1) t) ?_)
  show wpAny _ _ (if ((-1 : Int) == 0) = true then _ else _) _ _ s
  rw [if_neg (by decide)]
  refine wpAny_bind (HT.slicePart_ .none (wpAny_bind (HT.slicePart_ .none ?_)))
  refine wpAny_bind (wpAny_pure ?_)
  show wpAny _ _ (match Builtin.Slice.sliceAdjust none none (-1) (n : Int) with | (lo, hi) => pure (lo, (-1 : Int), Builtin.Slice.slicePlaces lo hi (-1))) _ _ s
  rw [rev_adjust]
  show wpAny _ _ (pure ((n : Int) - 1, (-1 : Int), Builtin.Slice.slicePlaces ((n : Int) - 1) (-1) (-1))) _ _ s
  rw [rev_places]
  exact wpAny_pure h
theorem getItem_tuple_rev {t sl : Addr} {items : Array Value} {tk : Tok} {Q : Value → Shared → Prop} (ht : IsTup s.heap t items) (hs : s.heap.IsSliceOf sl .none .none (.int (-1) tk))
    (h : Q (.ref s.heap.objs.size) { s with heap := s.heap.push { cls := .type "tuple", data := .seq items.toList.reverse.toArray } }) (hsz : items.size ≤ sizeLine) : wpAny (model prog w) A (getItem (.ref t) (.ref sl)) Q E s := by
  obtain ⟨os, hos, hcs, hds⟩ := id hs
  have hTs : s.TypeIs (.ref sl) "slice" := ⟨os, hos, hcs⟩
  have fits : sizeOk (.seq items.toList.reverse.toArray) := by
    show items.toList.reverse.toArray.size ≤ sizeLine
    rw [List.size_toArray, List.length_reverse, Array.length_toList]
    exact hsz
  unfold getItem
  try with_reducible refine wpAny_holding ?_
  first | refine wpAny_bind (wpAny_pure ?_) | skip
  refine wpAny_bind (wpAny_sequenceKey ht.typeIs (by decide) ?_)
  refine wpAny_bind (wpAny_callSpecial?_slot (name := Str.ofString "__getitem__") ht.typeIs PyProof.Rows.slot_tuple_getitem (wpAny_call_entry PyProof.Rows.slot_tuple_getitem ht.typeIs PyProof.Rows.entry_tuple_getitem ?_ (PyProof.Rows.args_tuple_getitem _ _)))
  show wpAny _ _ (Builtin.Tuple.tupleItemsOf (.ref t) >>= _) _ _ s
  refine wpAny_bind (tupleItemsOf_ ht ?_)
  refine wpAny_bind (wpAny_typeOf hTs ?_)
  rw [if_pos (by decide)]
  refine wpAny_bind (sliceApplied_rev hs ?_)
  have hno : ¬ (((((items.size : Nat) : Int) - 1) == 0 && (-1 : Int) == 1 && items.size == items.size) = true) := by simp
  show wpAny _ _ (if ((((items.size : Nat) : Int) - 1) == 0 && (-1 : Int) == 1 && items.size == items.size) = true then _ else _) _ _ s
  rw [if_neg hno, rev_pick]
  first
    | exact wpAny_bind (m := Builtin.Tuple.tupleExact _) (wpAny_newObj_type (wpAny_pure ⟨_, rfl, wpAny_pure h⟩) fits)
    | exact wpAny_bind (m := Builtin.Tuple.tupleExact _) (wpAny_newObj_type (wpAny_bind (wpAny_pure (wpAny_pure ⟨_, rfl, wpAny_pure h⟩))) fits)
    | exact wpAny_bind (wpAny_bind (m := Builtin.Tuple.tupleExact _) (wpAny_newObj_type (wpAny_pure (wpAny_pure ⟨_, rfl, wpAny_pure h⟩)) fits))
    | exact wpAny_bind (wpAny_bind (m := Builtin.Tuple.tupleExact _) (wpAny_newObj_type (wpAny_pure ⟨_, rfl, wpAny_pure h⟩) fits))
end
section
variable {X : Cx} {W : WX}
def revD (_ : Ws) : PyData → Option PyData
  | .tuple a => some (.tuple a.reverse)
  | _ => none
theorem pf_rev {o : Expr} {fo : FE} {k : Nat} {p2 p3 p4 pos : Pos} (ho : PF X W o fo) : PF X W (.Subscript o (.Slice none none (some (.UnaryOp .USub (.Constant (.int 1) k p3) p4)) p2) pos) (eU revD fo) := by
  refine ⟨fun pins s σ H Q I h => ?_⟩
  obtain ⟨g, ρ, w, hK, r, e, q⟩ := h
  have want : lE X.K W fo σ H fun x H1 => ∃ a xs, x = .ref a ∧ SqT X.K H1 a xs ∧ ∀ p, H1 p = none → Q (.ref p) (upd H1 p (.tup xs.reverse)) := by
    refine lX_bind hK r e q fun v H1 g1 d w1 x r1 e1 dv z => ?_
    cases dv with
    | tup sq da => exact ⟨_, _, rfl, (x.k.trans hK) ▸ r1.sqT sq, fun p hp => z _ _ _ (Xt.put (r1.fnone hp)) (r1.put hp) (newT r1 hp da.reverse)⟩
    | _ => exact z.elim
  refine Subscript_ (thn (ho.run pins s σ H _ I want) fun v s1 ⟨x, H1, I1, r1, a, xs, ex, hx, qq⟩ => ?_)
  subst ex
  cases r1
  have step : PO X (some (.UnaryOp .USub (.Constant (.int 1) k p3) p4)) (tPart (tUn (rU fun i => .int (-i)) (tC (.int 1)))) := po_some (pe_un un_neg pe_int)
  refine wpAny_Slice (thn (po_none.run pins s1 σ H1 (fun o H2 => o = none ∧ H2 = H1) I1 ⟨rfl, rfl⟩) fun vl s2 ⟨l, H2, I2, pl, el, e2⟩ => ?_)
  subst el e2
  refine thn (po_none.run pins s2 σ H2 (fun o H3 => o = none ∧ H3 = H2) I2 ⟨rfl, rfl⟩) fun vu s3 ⟨u, H3, I3, pu, eu, e3⟩ => ?_
  subst eu e3
  refine thn (step.run pins s3 σ H3 (fun o H4 => o = some (-1) ∧ H4 = H3) I3 ⟨1, rfl, -1, rfl, rfl, rfl⟩) fun vs s4 ⟨o, H4, I4, ps, eo, e4⟩ => ?_
  subst eo e4
  cases pl
  cases pu
  cases ps with
  | int i t =>
    obtain ⟨h5, hh5⟩ : ∃ h5 : Heap, h5 = s4.heap.push { cls := .type "slice", data := .fields #[.none, .none, .int (-1) t] } := ⟨_, rfl⟩
    have I5 : Inv X pins σ H4 { s4 with heap := s4.heap.push { cls := .type "slice", data := .fields #[.none, .none, .int (-1) t] } } := I4.kept (t' := s4.toks) fun b ob z => Heap.get?_push_of_some _ z
    obtain ⟨its, rv, ht, hz⟩ := I5.tuple hx
    have hlen := rv.length
    show wpAny (model X.prog X.w) X.A (subscriptTail o (.Slice none none (some (.UnaryOp .USub (.Constant (.int 1) k p3) p4)) p2) (.ref a) (.ref s4.heap.objs.size)) (EP X pins σ Q) X.xe { s4 with heap := s4.heap.push { cls := .type "slice", data := .fields #[.none, .none, .int (-1) t] } }
    refine tail_any (ops := [.ref a, .ref s4.heap.objs.size]) ht.typeIs PyProof.Rows.slot_tuple_getitem.lookup ?_ (by with_unfolding_all rfl)
    refine getItem_tuple_rev ht (Heap.IsSliceOf.new _ .none .none (.int (-1) t)) ?_ (by rw [List.size_toArray]; omega)
    refine ⟨.ref _, _, I5.laid (t' := s4.toks) (o := .tup xs.reverse) (fun b ob z => Heap.get?_push_of_some _ z) (Nat.le_refl _) ?_, rfl, qq _ (I5.hok.fresh (Nat.le_refl _))⟩
    exact ⟨by rw [List.length_reverse]; exact hz, _, rv.reverse, IsTup.new _ _⟩
def strsD : List PyData → Option (List Str)
  | [] => some []
  | .str x :: r => (strsD r).map (x :: ·)
  | _ => none
def sosD (w : Ws) : List PyData → Option PyData
  | [d] => match lstOf w d with
    | some ds => match strsD ds with
      | some xs => if decide (xs.length + 1 < scanBound) then some (.list ((srtS (ddS xs)).map .str)) else none
      | none => none
    | none => none
  | _ => none
theorem strsD_ok {g : Gd} : ∀ {vs : List V} {ds : List PyData} {xs : List Str}, DqA g vs ds → strsD ds = some xs → vs = xs.map V.str
  | _, _, _, .nil, h => by cases h; rfl
  | _, _, _, .cons d0 dr, h => by
    cases d0 with
    | str x =>
      simp only [strsD] at h
      cases e : strsD _ with
      | none => rw [e] at h; cases h
      | some ys =>
        rw [e] at h
        cases h
        rw [strsD_ok dr e]
        rfl
    | _ => simp [strsD] at h
theorem dqA_strs {g : Gd} : ∀ xs : List Str, DqA g (xs.map V.str) (xs.map PyData.str)
  | [] => .nil
  | x :: xs => .cons (.str x) (dqA_strs xs)
theorem inv_strs {pins : List (Addr × Obj)} {s2 s' : Shared} {σ : L2.St} {H1 : Hp} {p : Addr} {out : Array Value} {c : Nat} {ys : List Str} (I2 : Inv X pins σ H1 s2) (k : ∀ b o, s2.heap.get? b = some o → s'.heap.get? b = some o) (gg : s'.gens = s2.gens) (oo : s'.os = s2.os) (hp : s2.heap.objs.size ≤ p)
    (hg' : s'.heap.get? p = some (PyProof.Rows.seqObj "list" out c)) (hlen : (ys.map V.str).length ≤ sizeLine) (hi : PyProof.Rows.StrsAre out.toList ys) : Inv X pins σ (upd H1 p (.lst (ys.map V.str))) s' := by
  have J : Inv X pins σ (upd H1 p (.lst (ys.map V.str))) { s2 with heap := s'.heap, gens := s'.gens, drawn := s'.drawn, toks := s'.toks } :=
    I2.call (ch := []) (Un.laid k hp (I2.hok.fresh hp)) (I2.hok.laid k hp ⟨hlen, out.toList, c, vals_of_strs hi, hg'⟩) (by rw [gg]; exact I2.bare) (fun _ z => nomatch z)
  have e : s' = { s2 with heap := s'.heap, gens := s'.gens, drawn := s'.drawn, toks := s'.toks } := by
    cases s'
    cases s2
    cases oo
    rfl
  rw [e]
  exact J
theorem pf_sortset {e : Expr} {fa : FA} {p1 p2 pos pos2 : Pos} (hc : X.calm = true) (hg : Gl X "sorted") (hm : X.mg "sorted" = none) (hg2 : Gl X "set") (hm2 : X.mg "set" = none) (ha : PAf X W [e] fa)
    (na : starEach [e] X.env = (false, eval e X.env) :: starEach [] X.env := by rfl) : PF X W (.Call (.Name "sorted" p1) [.Call (.Name "set" p2) [e] [] pos2] [] pos) (eCb sosD fa) := by
  refine ⟨fun pins s σ H Q I h => ?_⟩
  obtain ⟨g, ρ, w, hK, r, e0, q⟩ := h
  have want : lA X.K W fa σ H fun vs H1 => ∃ a xs, vs = [.ref a] ∧ SqL X.K H1 a (xs.map V.str) ∧ xs.length + 1 < scanBound ∧ ∀ p, H1 p = none → Q (.ref p) (upd H1 p (.lst ((srtS (ddS xs)).map V.str))) := by
    refine lX_bind hK r e0 q fun v H1 g1 d w1 x r1 e1 dv z => ?_
    cases hz : sosD w1 d with
    | none => rw [hz] at z; exact z.elim
    | some y =>
      rw [hz] at z
      unfold sosD at hz
      split at hz
      · split at hz
        · rename_i ds hds
          split at hz
          · rename_i xs hxs
            split at hz
            · rename_i hs
              cases hz
              cases dv with
              | cons d0 dn =>
                cases dn
                obtain ⟨a, vs, rfl, sq, da⟩ := lstOf_ok r1 d0 hds
                have ev := strsD_ok da hxs
                subst ev
                exact ⟨a, xs, rfl, (x.k.trans hK) ▸ sq, of_decide_eq_true hs, fun p hp => z _ _ _ (Xt.put (r1.fnone hp)) (r1.put hp) (newL r1 hp (dqA_strs _))⟩
            · cases hz
          · cases hz
        · cases hz
      · cases hz
  refine Call_ (ld_blt I hg hm boot_sorted ?_)
  refine PyProof.Rows.callWith_builtin1 (PyProof.Rows.args_cons ?_ rfl) rfl rfl
  refine Call_ (ld_blt I hg2 hm2 boot_set ?_)
  refine PyProof.Rows.callWith_type1 (thn (ha.run pos2 pins s σ H _ I want) fun us s1 ⟨vs, H1, I1, r1, a, xs, ev, sq, hfew, qq⟩ => ?_) na rfl
  subst ev
  rw [Vals.ref1 r1]
  obtain ⟨its, rv, pl, hz⟩ := I1.list sq
  refine tx_call (I1.ok.hd hc) pl.isList (by simpa using strsAre_of rv) hfew fun h' tk hS hk => ?_
  have I2 : Inv X pins σ H1 { s1 with heap := h', toks := tk } := I1.kept hk
  refine PyProof.Rows.args_nil ?_
  refine tx_sorted (s := { s1 with heap := h', toks := tk }) hS (I2.ok.hd hc) fun s' p out c k gg oo hp hg' hi => ?_
  have hn : H1 p = none := I2.hok.fresh hp
  have hlen : ((srtS (ddS xs)).map V.str).length ≤ sizeLine := by
    have h1 := (srtS_perm (ddS xs)).length_eq
    have h2 := ddS_len xs xs.length (Nat.le_refl _)
    rw [List.take_length] at h2
    rw [List.length_map, h1]
    exact Nat.le_trans h2 (fits_of_scanBound (Nat.lt_of_succ_lt hfew))
  exact ⟨.ref p, _, inv_strs I2 k gg oo hp hg' hlen hi, rfl, qq p hn⟩
end
end Td

set_option Elab.async false
set_option linter.all false
set_option maxRecDepth 100000
set_option maxHeartbeats 4000000
namespace Td
open PySem L2
/-! ### what a reading comes to: a small logic -/
inductive wO {α : Type} (Q : α → Ws → Prop) : Oc α → Prop
  | mk {a : α} {w : Ws} (h : Q a w) : wO Q (.ok a w)
/-- N: goes on, R: returns -/
inductive wS (N : Ev → Ws → Prop) (R : PyData → Ws → Prop) : Os → Prop
  | nx {ρ : Ev} {w : Ws} (h : N ρ w) : wS N R (.nx ρ w)
  | rt {d : PyData} {w : Ws} (h : R d w) : wS N R (.rt d w)
theorem wO_ok {α : Type} {Q : α → Ws → Prop} {a : α} {w : Ws} : wO Q (.ok a w) = Q a w := propext ⟨fun h => by cases h; assumption, .mk⟩
theorem wO_xc {α : Type} {Q : α → Ws → Prop} {c : Value} {fs : List (Str × PyData)} {w : Ws} : wO Q (.ex c fs w) = False := propext ⟨fun h => (by cases h), False.elim⟩
theorem wO_no {α : Type} {Q : α → Ws → Prop} : wO Q .no = False := propext ⟨fun h => (by cases h), False.elim⟩
theorem wS_nx {N : Ev → Ws → Prop} {R : PyData → Ws → Prop} {ρ : Ev} {w : Ws} : wS N R (.nx ρ w) = N ρ w := propext ⟨fun h => by cases h; assumption, .nx⟩
theorem wS_rt {N : Ev → Ws → Prop} {R : PyData → Ws → Prop} {d : PyData} {w : Ws} : wS N R (.rt d w) = R d w := propext ⟨fun h => by cases h; assumption, .rt⟩
theorem wS_xc {N : Ev → Ws → Prop} {R : PyData → Ws → Prop} {ρ : Ev} {c : Value} {fs : List (Str × PyData)} {w : Ws} : wS N R (.ex ρ c fs w) = False := propext ⟨fun h => (by cases h), False.elim⟩
theorem wS_no {N : Ev → Ws → Prop} {R : PyData → Ws → Prop} : wS N R .no = False := propext ⟨fun h => (by cases h), False.elim⟩
theorem wO_bind {α β : Type} {Q : β → Ws → Prop} {x : Oc α} {f : α → Ws → Oc β} : wO Q (x.bind f) = wO (fun a w => wO Q (f a w)) x := by cases x <;> simp only [Oc.bind, wO_ok, wO_xc, wO_no]
theorem wO_mono {α : Type} {Q Q' : α → Ws → Prop} {x : Oc α} (h : wO Q x) (i : ∀ a w, Q a w → Q' a w) : wO Q' x := by
  cases h with
  | mk h => exact .mk (i _ _ h)
theorem wO_some {α : Type} {Q : α → Ws → Prop} {a : α} {w : Ws} : wO Q (Oc.of (some a) w) = Q a w := wO_ok
theorem wO_on {α : Type} {Q : α → Ws → Prop} {b : Bool} {x : Oc α} (hb : b = true) (h : wO Q x) : wO Q (Oc.on b x) := by subst hb; exact h
theorem wO_ex {α : Type} {Q : α → Ws → Prop} {x : Oc α} : wO Q x ↔ ∃ a w, x = .ok a w ∧ Q a w := by
  exact ⟨fun h => by cases h with | mk h => exact ⟨_, _, rfl, h⟩, fun ⟨_, _, e, q⟩ => by subst e; exact .mk q⟩
variable {Q : PyData → Ws → Prop} {QA : List PyData → Ws → Prop} {QT : Bool → Ws → Prop} {N : Ev → Ws → Prop} {R : PyData → Ws → Prop} {ρ : Ev} {w : Ws}
theorem wE_C {d : PyData} : wO Q (eC d ρ w) = Q d w := wO_ok
theorem wE_V {i : Nat} {d : PyData} (h : ρ[i]? = some (some d)) : wO Q (eV i ρ w) = Q d w := by unfold eV; rw [h]; exact wO_ok
theorem wE_B {f : Ws → PyData → PyData → Option PyData} {a b : FE} : wO Q (eB f a b ρ w) = wO (fun d w1 => wO (fun e w2 => wO Q (Oc.of (f w2 d e) w2)) (b ρ w1)) (a ρ w) := by simp only [eB, wO_bind]
theorem wE_U {f : Ws → PyData → Option PyData} {a : FE} : wO Q (eU f a ρ w) = wO (fun d w1 => wO Q (Oc.of (f w1 d) w1)) (a ρ w) := by simp only [eU, wO_bind]
theorem wE_Cb {f : Ws → List PyData → Option PyData} {a : FA} : wO Q (eCb f a ρ w) = wO (fun d w1 => wO Q (Oc.of (f w1 d) w1)) (a ρ w) := by simp only [eCb, wO_bind]
theorem wE_Call {f : FF} {ds : List PyData} {a : FA} : wO Q (eCall f ds a ρ w) = wO (fun as w1 => wO Q (f (as ++ ds) w1)) (a ρ w) := by simp only [eCall, wO_bind]
theorem wA_N : wO QA (aN ρ w) = QA [] w := wO_ok
theorem wA_C {f : FE} {k : FA} : wO QA (aC f k ρ w) = wO (fun d w1 => wO (fun ds w2 => QA (d :: ds) w2) (k ρ w1)) (f ρ w) := by simp only [aC, wO_bind, wO_ok]
theorem wE_Tup {a : FA} : wO Q (eTup a ρ w) = wO (fun ds w1 => wO Q (Oc.on (szOk ds.length) (.ok (.tuple ds) w1))) (a ρ w) := by simp only [eTup, wO_bind]
theorem wE_Lst {a : FA} : wO Q (eLst a ρ w) = wO (fun ds w1 => wO Q (Oc.on (szOk ds.length) (.ok (.list ds) w1))) (a ρ w) := by simp only [eLst, wO_bind]
theorem wE_Sl {f : FE} {l h : FO} : wO Q (eSl f l h ρ w) = wO (fun d w1 => wO (fun l w2 => wO (fun h w3 => wO Q (Oc.of (cutD w3 d l h) w3)) (h ρ w2)) (l ρ w1)) (f ρ w) := by simp only [eSl, wO_bind]
theorem wO_N {QO : Option Int → Ws → Prop} : wO QO (oN ρ w) = QO none w := wO_ok
theorem wO_S {QO : Option Int → Ws → Prop} {f : FE} : wO QO (oS f ρ w) = wO (fun d w1 => match d with | .int i => QO (some i) w1 | _ => False) (f ρ w) := by
  simp only [oS, wO_bind]
  congr 1
  funext d w1
  cases d <;> first | exact wO_ok | exact wO_no
theorem wT_B {f : FE} : wO QT (tB' f ρ w) = wO (fun d w1 => match d with | .bool b => QT b w1 | _ => False) (f ρ w) := by
  simp only [tB', wO_bind]
  congr 1
  funext d w1
  cases d <;> first | exact wO_ok | exact wO_no
theorem wT_An {t u : FT} : wO QT (tAn t u ρ w) = wO (fun b w1 => cond b (wO QT (u ρ w1)) (QT false w1)) (t ρ w) := by
  simp only [tAn, wO_bind]
  congr 1
  funext b w1
  cases b <;> first | exact wO_ok | rfl
theorem wT_Or {t u : FT} : wO QT (tOr' t u ρ w) = wO (fun b w1 => cond b (QT true w1) (wO QT (u ρ w1))) (t ρ w) := by
  simp only [tOr', wO_bind]
  congr 1
  funext b w1
  cases b <;> first | exact wO_ok | rfl
theorem wT_No {t : FT} : wO QT (tNo t ρ w) = wO (fun b w1 => QT (!b) w1) (t ρ w) := by simp only [tNo, wO_bind, wO_ok]
theorem wT_Tr {f : FE} : wO QT (tTr f ρ w) = wO (fun d w1 => wO QT (Oc.of (truD d w1) w1)) (f ρ w) := by simp only [tTr, wO_bind]
theorem wS_then {α : Type} {x : Oc α} {k : α → Ws → Os} : wS N R (x.thenS ρ k) = wO (fun a w1 => wS N R (k a w1)) x := by cases x <;> simp only [Oc.thenS, wO_ok, wO_xc, wO_no, wS_xc, wS_no]
theorem wS_Seq {f k : FS} (h : wS (fun ρ1 w1 => wS N R (k ρ1 w1)) R (f ρ w)) : wS N R (sSeq f k ρ w) := by
  unfold sSeq
  cases e : f ρ w with
  | nx ρ1 w1 => rw [e, wS_nx] at h; exact h
  | rt d w1 => rw [e, wS_rt] at h; exact .rt h
  | _ => rw [e] at h; cases h
theorem wS_Nil : wS N R (sNil ρ w) = N ρ w := wS_nx
theorem wS_Ret {f : FE} : wS N R (sRet f ρ w) = wO R (f ρ w) := by simp only [sRet, wS_then, wS_rt]
theorem wS_If {t : FT} {f k : FS} : wS N R (sIf t f k ρ w) = wO (fun b w1 => cond b (wS N R (f ρ w1)) (wS N R (k ρ w1))) (t ρ w) := by
  simp only [sIf, wS_then]
  congr 1
  funext b w1
  cases b <;> rfl
theorem wS_Asg {f : FE} {i : Nat} : wS N R (sAsg f (gN i) ρ w) = wO (fun d w1 => N (ρ.set i (some d)) w1) (f ρ w) := by simp only [sAsg, wS_then, gN, wS_nx]
theorem wS_mono {N' : Ev → Ws → Prop} {R' : PyData → Ws → Prop} {o : Os} (h : wS N R o) (i : ∀ ρ w, N ρ w → N' ρ w) (j : ∀ d w, R d w → R' d w) : wS N' R' o := by
  cases h with
  | nx h => exact .nx (i _ _ h)
  | rt h => exact .rt (j _ _ h)
theorem leave_ret {w' : Ws} {n : Nat} {d : PyData} (h : w'.length = n) : leave n (.rt d w') = .ok d w' := by
  subst h
  simp only [leave]
  split
  · rw [List.take_length]
  · rfl
theorem leave_end {w' : Ws} {n : Nat} {ρ : Ev} (h : w'.length = n) : leave n (.nx ρ w') = .ok .none w' := by
  subst h
  simp only [leave]
  split
  · rw [List.take_length]
  · rfl
theorem wF {m n : Nat} {b : FS} {ds : List PyData} (hn : ds.length = n) (h : wS (fun _ w1 => w1.length = w.length ∧ Q .none w1) (fun d w1 => w1.length = w.length ∧ Q d w1) (b (startE m ds) w)) : wO Q (defF m n b ds w) := by
  unfold defF
  rw [if_pos hn]
  cases e : b (startE m ds) w with
  | nx ρ1 w1 => rw [e, wS_nx] at h; rw [leave_end h.1]; exact .mk h.2
  | rt d w1 => rw [e, wS_rt] at h; rw [leave_ret h.1]; exact .mk h.2
  | _ => rw [e] at h; cases h
/-- a for loop, by what holds before each round -/
theorem wS_forL {gt : FG} {body : FS} (J : Nat → Ev → Ws → Prop) : ∀ (ds : List PyData) (i : Nat) (ρ : Ev) (w : Ws), J i ρ w →
    (∀ j d ρ w, ds[j]? = some d → J (i + j) ρ w → wO (fun ρ1 w1 => wS (J (i + j + 1)) R (body ρ1 w1)) (gt d ρ w)) →
    (∀ ρ w, J (i + ds.length) ρ w → N ρ w) → wS N R (forL gt body ds ρ w)
  | [], i, ρ, w, hJ, _, hN => by unfold forL; exact .nx (hN ρ w hJ)
  | d :: ds, i, ρ, w, hJ, hs, hN => by
    have h0 := hs 0 d ρ w rfl hJ
    unfold forL
    cases e : gt d ρ w with
    | ok ρ1 w1 =>
      rw [e, wO_ok] at h0
      have h0 : wS (J (i + 0 + 1)) R (body ρ1 w1) := h0
      have ih : ∀ ρ2 w2, J (i + 1) ρ2 w2 → wS N R (forL gt body ds ρ2 w2) := fun ρ2 w2 hj => wS_forL J ds (i + 1) ρ2 w2 hj
        (fun j d' ρ' w' hd hj' => by
          have := hs (j + 1) d' ρ' w' hd (by rw [show i + (j + 1) = i + 1 + j by omega]; exact hj')
          rw [show i + (j + 1) + 1 = i + 1 + j + 1 by omega] at this
          exact this)
        (fun ρ' w' hj' => hN ρ' w' (by rw [List.length_cons, show i + (ds.length + 1) = i + 1 + ds.length by omega]; exact hj'))
      cases e2 : body ρ1 w1 with
      | nx ρ2 w2 => rw [e2, wS_nx] at h0; simp only [e2]; exact ih ρ2 w2 h0
      | rt d w2 => rw [e2, wS_rt] at h0; simp only [e2]; exact .rt h0
      | _ => rw [e2] at h0; cases h0
    | _ => rw [e] at h0; cases h0
theorem wS_For {fi : FA} {gt : FG} {body : FS} : wS N R (sFor fi gt body ρ w) = wO (fun ds w1 => wS N R (forL gt body ds ρ w1)) (fi ρ w) := by simp only [sFor, wS_then]
theorem wA_E {f : FE} : wO QA (iE f ρ w) = wO (fun d w1 => wO QA (Oc.of (itD d) w1)) (f ρ w) := by simp only [iE, wO_bind]
theorem wE_Lc {fi : FA} {gt : FG} {tt : FT} {fe : FE} {vs : List Nat} : wO Q (eLc fi gt tt fe vs ρ w) = wO (fun ds w1 => wO (fun acc w2 => Q (.list acc) w2) (lcL gt tt fe (wipeE ρ vs) ds w1 [])) (fi ρ w) := by simp only [eLc, wO_bind, wO_ok]
/-- a comprehension, by what holds of what is gathered -/
theorem wA_lcL {gt : FG} {tt : FT} {fe : FE} (J : Nat → List PyData → Ws → Prop) : ∀ (ds : List PyData) (i : Nat) (w : Ws) (acc : List PyData), acc.length + ds.length ≤ sizeLine → J i acc w →
    (∀ j d acc w, ds[j]? = some d → J (i + j) acc w → wO (fun ρ1 w1 => wO (fun b w2 => cond b (wO (fun y w3 => J (i + j + 1) (acc ++ [y]) w3) (fe ρ1 w2)) (J (i + j + 1) acc w2)) (tt ρ1 w1)) (gt d ρ w)) →
    (∀ acc w, J (i + ds.length) acc w → QA acc w) → wO QA (lcL gt tt fe ρ ds w acc)
  | [], i, w, acc, _, hJ, _, hN => .mk (hN acc w hJ)
  | d :: ds, i, w, acc, hz, hJ, hs, hN => by
    have h0 := hs 0 d acc w rfl hJ
    have hz' : acc.length + (ds.length + 1) ≤ sizeLine := hz
    have ih : ∀ acc2 w2, acc2.length ≤ acc.length + 1 → J (i + 1) acc2 w2 → wO QA (lcL gt tt fe ρ ds w2 acc2) := fun acc2 w2 hl hj => wA_lcL J ds (i + 1) w2 acc2 (by omega) hj
      (fun j d' a' w' hd hj' => by
        have := hs (j + 1) d' a' w' hd (by rw [show i + (j + 1) = i + 1 + j by omega]; exact hj')
        rw [show i + (j + 1) + 1 = i + 1 + j + 1 by omega] at this
        exact this)
      (fun a' w' hj' => hN a' w' (by rw [List.length_cons, show i + (ds.length + 1) = i + 1 + ds.length by omega]; exact hj'))
    unfold lcL
    cases e : gt d ρ w with
    | ok ρ1 w1 =>
      rw [e, wO_ok] at h0
      have h0 : wO (fun b w2 => cond b (wO (fun y w3 => J (i + 1) (acc ++ [y]) w3) (fe ρ1 w2)) (J (i + 1) acc w2)) (tt ρ1 w1) := h0
      cases e2 : tt ρ1 w1 with
      | ok b w2 =>
        rw [e2, wO_ok] at h0
        cases b with
        | true =>
          have h0 : wO (fun y w3 => J (i + 1) (acc ++ [y]) w3) (fe ρ1 w2) := h0
          cases e3 : fe ρ1 w2 with
          | ok y w3 =>
            rw [e3, wO_ok] at h0
            simp only [e2, e3]
            rw [if_pos (by omega)]
            exact ih _ _ (by rw [List.length_append]; exact Nat.le_refl _) h0
          | _ => rw [e3] at h0; cases h0
        | false =>
          simp only [e2]
          exact ih _ _ (by omega) h0
      | _ => rw [e2] at h0; cases h0
    | _ => rw [e] at h0; cases h0
theorem wA_R1 {fa : FA} : wO QA (iR1 fa ρ w) = wO (fun ds w1 => match ds with | [.int j] => wO QA (Oc.on (c62 j) (.ok (rgD 0 j) w1)) | _ => False) (fa ρ w) := by
  simp only [iR1, wO_bind]
  congr 1
  funext ds w1
  match ds with
  | [] => exact wO_no
  | [.int j] => rfl
  | [.none] => exact wO_no
  | [.bool _] => exact wO_no
  | [.str _] => exact wO_no
  | [.list _] => exact wO_no
  | [.tuple _] => exact wO_no
  | [.dict _] => exact wO_no
  | a :: _ :: _ => cases a <;> exact wO_no
theorem rgD_len (n : Nat) : (rgD 0 (n : Int)).length = n := by simp [rgD]
theorem c62_of {n : Int} (h : n.natAbs < 1000000000) : c62 n = true := decide_eq_true (by omega)
end Td

set_option Elab.async false
set_option linter.all false
set_option maxRecDepth 100000
set_option maxHeartbeats 4000000
namespace Td
open PySem L2
/-! ### the store grows, a cell is given out -/
def Gd.al (g : Gd) (D : Addr) : Gd := { g with μ := fun l => if l = g.n then D else g.μ l, n := g.n + 1 }
theorem Gd.al_xt {g : Gd} {D : Addr} : Xt g (g.al D) := ⟨alloc_xt (P := g.P), rfl⟩
theorem Gd.al_ref {g : Gd} {D : Addr} : Dq (g.al D) (.ref D) (rf g.n) := alloc_ref (P := g.P)
theorem Rp.pnone {g : Gd} {H : Hp} {w : Ws} (r : Rp g H w) {D : Addr} (hD : H D = none) : g.P D = none := by
  cases h : g.P D with
  | none => rfl
  | some o => rw [(r.pin D o h).1] at hD; cases hD
theorem Rp.alloc {g : Gd} {H : Hp} {w : Ws} (r : Rp g H w) {D : Addr} {o : HO} {ob : Ob} (hD : H D = none) (hno : ∀ a, o ≠ .own a) (ho : ObR (g.al D) (upd H D o) D ob) : Rp (g.al D) (upd H D o) (w ++ [ob]) := by
  have z := pin_alloc (P := g.P) (o' := o) (ob := ob) (pin_new r hD o) rfl hno (r.pnone hD) (by rw [upd_upd]; exact ho)
  rw [upd_upd] at z
  exact z
/-- an object that is not tracked -/
theorem Rp.skip {g : Gd} {H : Hp} {w : Ws} (r : Rp g H w) {p : Addr} {o : HO} (h : H p = none) : Rp g (upd H p o) w where
  fro := fun a u e => by rw [upd_ne (ne_of_none e (r.fnone h))]; exact r.fro a u e
  len := r.len
  cell := fun l ob e => (r.cell l ob e).new (Xt.refl g).toXt0 fun b hb => by
    have nb : b ≠ p := fun z => by subst z; rw [h] at hb; cases hb
    exact ⟨rfl, upd_ne nb⟩
  inj := r.inj
  pin := fun a u e => by
    obtain ⟨h1, h2, h3⟩ := r.pin a u e
    have na : a ≠ p := fun z => by subst z; rw [h] at h1; cases h1
    exact ⟨by rw [upd_ne na]; exact h1, h2, h3⟩
def Gd.fz (g : Gd) (p : Addr) (o : HO) : Gd := { g with F := upd g.F p o }
theorem Rp.freeze {g : Gd} {H : Hp} {w : Ws} (r : Rp g H w) {l : Nat} {ds : List PyData} (hl : w[l]? = some (.lst ds)) :
    ∃ g', Xt g g' ∧ Rp g' H (w.set l .dead) ∧ Dq g' (.ref (g.μ l)) (.list ds) := by
  obtain ⟨hn, xs, hx, dx⟩ := r.cell l _ hl
  have hlt : l < g.n := by rw [r.len]; exact (List.getElem?_eq_some_iff.mp hl).1
  have X : Xt g (g.fz (g.μ l) (.lst xs)) := Xt.put hn
  refine ⟨_, X, ⟨fun a u e => ?_, by rw [List.length_set]; exact r.len, fun m ob e => ?_, r.inj, fun a u e => ?_⟩, .lst (SqL.of upd_same) (dx.mono X.toXt0 _ _)⟩
  · have e : upd g.F (g.μ l) (.lst xs) a = some u := e
    by_cases q : a = g.μ l
    · subst q; rw [upd_same] at e; exact hx.trans e
    · rw [upd_ne q] at e; exact r.fro a u e
  · by_cases q : l = m
    · subst q
      rw [List.getElem?_set_self (by rw [← r.len]; exact hlt)] at e
      cases e
      exact ⟨_, hx⟩
    · rw [List.getElem?_set_ne q] at e
      have hm : m < g.n := by rw [r.len]; exact (List.getElem?_eq_some_iff.mp e).1
      have nm : g.μ m ≠ g.μ l := fun z => q (r.inj m l hm hlt z).symm
      have c := r.cell m ob e
      cases ob with
      | lst es => obtain ⟨a, b, c, d⟩ := c; exact ⟨(upd_ne nm).trans a, b, c, d.mono X.toXt0 _ _⟩
      | dK es => obtain ⟨a, b, c, d⟩ := c; exact ⟨(upd_ne nm).trans a, b, c, d.mono X.toXt0⟩
      | ins k es =>
        obtain ⟨a, dx', gs, ⟨C', hC, h⟩, hd, hn2, d⟩ := c
        have nx : dx' ≠ g.μ l := fun z => by rw [z, hx] at hd; cases hd
        exact ⟨(upd_ne nm).trans a, dx', gs, ⟨C', hC, h⟩, hd, (upd_ne nx).trans hn2, d.mono X.toXt0⟩
      | dead => exact c
  · obtain ⟨q1, q2, q3⟩ := r.pin a u e
    exact ⟨q1, (upd_ne (fun z => q3 l hlt z.symm)).trans q2, q3⟩
/-- slot i: the list of the store is one of data from now on -/
def fzD (w : Ws) (d : PyData) : Option (PyData × Ws) := match locOf d with
  | some l => match w[l]? with
    | some (.lst ds) => some (.list ds, w.set l .dead)
    | _ => none
  | none => none
theorem locOf_ok {g : Gd} {v : V} {d : PyData} {l : Nat} (h : Dq g v d) (e : locOf d = some l) : v = .ref (g.μ l) ∧ d = rf l ∧ l < g.n := by
  cases h with
  | @ref m hm =>
    have : m = l := by simpa [locOf] using e
    subst this
    exact ⟨rfl, rfl, hm⟩
  | _ => cases e
theorem fzD_ok {g : Gd} {H : Hp} {w w' : Ws} {v : V} {d d' : PyData} (r : Rp g H w) (h : Dq g v d) (e : fzD w d = some (d', w')) : ∃ g', Xt g g' ∧ Rp g' H w' ∧ Dq g' v d' := by
  unfold fzD at e
  split at e
  · rename_i l hl
    split at e
    · rename_i ds hd
      cases e
      obtain ⟨rfl, rfl, _⟩ := locOf_ok h hl
      exact r.freeze hd
    · cases e
  · cases e
def sFz (i : Nat) : FS := fun ρ w => match ρ[i]? with
  | some (some d) => match fzD w d with
    | some (d', w') => .nx (ρ.set i (some d')) w'
    | none => .no
  | _ => .no
section
variable {X : Cx} {W : WX}
theorem sFz_nx {i : Nat} {ρ : Ev} {w : Ws} : sFz i ρ w = .no ∨ ∃ d d' w', ρ[i]? = some (some d) ∧ fzD w d = some (d', w') ∧ sFz i ρ w = .nx (ρ.set i (some d')) w' := by
  unfold sFz
  split
  · rename_i d hd
    split
    · rename_i d' w' hf
      exact .inr ⟨d, d', w', hd, hf, rfl⟩
    · exact .inl rfl
  · exact .inl rfl
theorem pssf_fz {i : Nat} {rest : List Stmt} {k : FS} (h : PSsf X W rest k) : PSsf X W rest (sSeq (sFz i) k) := by
  refine pss_imp h fun D σ H ⟨g, ρ, w, hK, r, e, q⟩ => ?_
  unfold sSeq at q
  rcases sFz_nx (i := i) (ρ := ρ) (w := w) with z | ⟨d, d', w', hd, hf, z⟩
  · rw [z] at q; exact q.elim
  · rw [z] at q
    obtain ⟨v, hv, dv⟩ := e.at_ i d hd
    obtain ⟨g', x, r', dv'⟩ := fzD_ok r dv hf
    refine ⟨g', _, _, x.k.trans hK, r', ?_, oSt.mono x q⟩
    have e' := (e.mono x.toXt0).set i dv'
    have es : σ.set i (some v) = σ := by
      refine List.ext_getElem? fun j => ?_
      by_cases hj : i = j
      · subst hj
        have hi : i < σ.length := (List.getElem?_eq_some_iff.mp hv).1
        rw [List.getElem?_set_self hi, hv]
      · rw [List.getElem?_set_ne hj]
    rw [es] at e'
    exact e'
/-- an expression whose list of the store is given out as data -/
def eFz (f : FE) : FE := fun ρ w => (f ρ w).bind fun d w1 => match fzD w1 d with
  | some (d', w') => .ok d' w'
  | none => .no
theorem pf_fz {e : Expr} {f : FE} (h : PF X W e f) : PF X W e (eFz f) := by
  refine pe_imp h fun σ H Q ⟨g, ρ, w, hK, r, e, q⟩ => ?_
  refine lX_bind hK r e q fun v H1 g1 d w1 x r1 e1 dv z => ?_
  split at z
  · rename_i d' w' hf
    obtain ⟨g', x', r', dv'⟩ := fzD_ok r1 dv hf
    exact z v H1 g' x' r' dv'
  · exact z.elim

/-! ### new lists of the store -/
def eLstS (fa : FA) : FE := fun ρ w => (fa ρ w).bind fun ds w1 => Oc.on (szOk ds.length) (.ok (rf w1.length) (w1 ++ [.lst ds]))
theorem newS {g : Gd} {H : Hp} {w : Ws} {vs : List V} {ds : List PyData} (r : Rp g H w) {p : Addr} (hp : H p = none) (d : DqA g vs ds) : Rp (g.al p) (upd H p (.lst vs)) (w ++ [.lst ds]) ∧ Dq (g.al p) (.ref p) (rf w.length) := by
  refine ⟨r.alloc hp (fun a z => nomatch z) ⟨r.fnone hp, vs, upd_same, d.mono Gd.al_xt.toXt0 _ _⟩, ?_⟩
  rw [← r.len]
  exact Gd.al_ref
theorem pf_lstS {es : List Expr} {fa : FA} {pos : Pos} (h : PAf X W es fa) : PF X W (.List es pos) (eLstS fa) := by
  refine pe_imp (pe_lst h) fun σ H Q ⟨g, ρ, w, hK, r, e, q⟩ => ?_
  refine lX_bind hK r e q fun vs H1 g1 ds w1 x r1 e1 d z => ?_
  obtain ⟨hb, z⟩ := z.on
  refine ⟨by rw [d.length]; exact of_decide_eq_true hb, fun p hp => ?_⟩
  obtain ⟨h1, h2⟩ := newS r1 hp d
  exact z _ _ _ Gd.al_xt h1 h2

/-! ### a list of the store is changed -/
def updL (w : Ws) (o : PyData) (k : List PyData → Option (PyData × List PyData)) : Option (PyData × Ws) := match locOf o with
  | some l => match w[l]? with
    | some (.lst xs) => match k xs with
      | some (d, ys) => some (d, w.set l (.lst ys))
      | none => none
    | _ => none
  | none => none
theorem updL_ok {g : Gd} {H : Hp} {w w' : Ws} {v : V} {o d : PyData} {k : List PyData → Option (PyData × List PyData)} (r : Rp g H w) (h : Dq g v o) (e : updL w o k = some (d, w')) :
    ∃ p xs ds ys, v = .ref p ∧ H p = some (.lst xs) ∧ DqA g xs ds ∧ k ds = some (d, ys) ∧ ∀ ys', DqA g ys' ys → Rp g (upd H p (.lst ys')) w' := by
  unfold updL at e
  split at e
  · rename_i l hl
    split at e
    · rename_i ds hd
      split at e
      · rename_i d' ys hk
        cases e
        obtain ⟨rfl, rfl, _⟩ := locOf_ok h hl
        obtain ⟨hn, xs, hx, dx⟩ := r.cell l _ hd
        refine ⟨_, xs, ds, ys, rfl, hx, dx, hk, fun ys' dy => r.write hd hn (fun a b hb z => ?_) ⟨hn, _, upd_same, dy⟩⟩
        rw [hx] at hb; cases hb; cases z
      · cases e
    · cases e
  · cases e
/-- a method of lists: what it gives, the list behind it -/
def MtL (X : Cx) (id : String) (r : List PyData → List PyData → Option (PyData × List PyData)) : Prop :=
  ∃ rr, MtM X id rr ∧ ∀ (g : Gd) (xs vs : List V) (ds as ys : List PyData) (d : PyData), DqA g xs ds → DqA g vs as → r ds as = some (d, ys) →
    ∃ v ys', Dq g v d ∧ DqA g ys' ys ∧ ∀ (H : Hp) (p : Addr) (Q : VK), H p = some (.lst xs) → Q v (upd H p (.lst ys')) → rr (.ref p) vs H Q
def eLm (r : List PyData → List PyData → Option (PyData × List PyData)) (fo : FE) (fa : FA) : FE := fun ρ w => (fo ρ w).bind fun o w1 => Oc.on (lstOf w1 o).isSome ((fa ρ w1).bind fun as w2 => match updL w2 o (fun xs => r xs as) with
  | some (d, w3) => .ok d w3
  | none => .no)
theorem pf_lm {id : String} {name : Str} {r : List PyData → List PyData → Option (PyData × List PyData)} {o e : Expr} {es : List Expr} {fo : FE} {fa : FA} {apos cpos : Pos} (slot : Slot "list" name id) (hty : typeOf (.builtin id) = pure (.type "method_descriptor")) (hm : MtL X id r) (ho : PF X W o fo) (ha : PAf X W (e :: es) fa)
    (hbase : attributeBase o name X.env (eval o X.env) = eval o X.env := by rfl) (hfew : ((backTo cpos (starEach (e :: es) X.env)).all (fun x => !x.1) && (backToKw cpos (keywordEach [] X.env)).all (fun x => x.1.isSome) && decide ((e :: es).length + ([] : List Keyword).length + (if ([] : List Keyword).isEmpty then 0 else 1) < 30)) = true := by rfl)
    (hline : (apos.endLine == cpos.line) = true := by rfl) (hs : starEach (e :: es) X.env = (false, eval e X.env) :: starEach es X.env := by rfl)
    (hplain : (backTo cpos (starEach es X.env)).any (·.1) = false := by rfl) :
    PF X W (.Call (.Attribute o name apos) (e :: es) [] cpos) (eLm r fo fa) := by
  obtain ⟨rr, hm, hr⟩ := hm
  refine pe_imp (pe_bm PySem.F.plainAttrs_list slot hty hm ho ha hbase hfew hline hs hplain) fun σ H Q ⟨g, ρ, w, hK, r, e, q⟩ => ?_
  refine lX_bind hK r e q fun v H1 g1 d w1 x r1 e1 dv z => ?_
  obtain ⟨hb, z⟩ := z.on
  obtain ⟨ds, hds⟩ := Option.isSome_iff_exists.mp hb
  obtain ⟨a, xs, rfl, sq, da⟩ := lstOf_ok r1 dv hds
  have hK1 := x.k.trans hK
  refine ⟨.inl ⟨rfl, xs, hK1 ▸ sq⟩, ?_⟩
  refine lX_bind hK1 r1 e1 z fun vs H2 g2 as w2 x2 r2 e2 dvs z2 => ?_
  split at z2
  · rename_i d' w3 hu
    obtain ⟨p, xs2, ds2, ys, ep, hp, dx2, hk, hw⟩ := updL_ok r2 (dv.mono x2.toXt0 _ _) hu
    obtain ⟨v', ys', dv', dy', hfin⟩ := hr g2 xs2 vs ds2 as ys d' dx2 dvs hk
    rw [ep]
    exact hfin H2 p Q hp (z2 _ _ g2 (Xt.refl _) (hw ys' dy') dv')
  · exact z2.elim
def eLm0 (r : List PyData → List PyData → Option (PyData × List PyData)) (fo : FE) : FE := fun ρ w => (fo ρ w).bind fun o w1 => match updL w1 o (fun xs => r xs []) with
  | some (d, w3) => .ok d w3
  | none => .no
theorem pf_lm0 {id : String} {name : Str} {r : List PyData → List PyData → Option (PyData × List PyData)} {o : Expr} {fo : FE} {apos cpos : Pos} (slot : Slot "list" name id) (hty : typeOf (.builtin id) = pure (.type "method_descriptor")) (hm : MtL X id r) (ho : PF X W o fo)
    (hbase : attributeBase o name X.env (eval o X.env) = eval o X.env := by rfl) (hline : (apos.endLine == cpos.line) = true := by rfl) :
    PF X W (.Call (.Attribute o name apos) [] [] cpos) (eLm0 r fo) := by
  obtain ⟨rr, hm, hr⟩ := hm
  refine pe_imp (pe_bm0 PySem.F.plainAttrs_list slot hty hm ho hbase hline) fun σ H Q ⟨g, ρ, w, hK, r, e, q⟩ => ?_
  refine lX_bind hK r e q fun v H1 g1 d w1 x r1 e1 dv z => ?_
  have hK1 := x.k.trans hK
  split at z
  · rename_i d' w3 hu
    obtain ⟨p, xs2, ds2, ys, rfl, hp, dx2, hk, hw⟩ := updL_ok r1 dv hu
    obtain ⟨v', ys', dv', dy', hfin⟩ := hr g1 xs2 [] ds2 [] ys d' dx2 .nil hk
    exact ⟨.inl ⟨rfl, xs2, hK1 ▸ SqL.of hp⟩, hfin H1 p Q hp (z _ _ g1 (Xt.refl _) (hw ys' dy') dv')⟩
  · exact z.elim
def apL : List PyData → List PyData → Option (PyData × List PyData)
  | xs, [d] => if xs.length < sizeLine then some (.none, xs ++ [d]) else none
  | _, _ => none
theorem mtL_append : MtL X "list.append" apL := by
  refine ⟨rAppend, mt_append, fun g xs vs ds as ys d dx da e => ?_⟩
  unfold apL at e
  split at e
  · split at e
    · rename_i hz
      cases e
      cases da with
      | cons h t =>
        cases t
        exact ⟨.non, _, .non, dx.append (.cons h .nil), fun H p Q hp q => ⟨p, xs, _, rfl, rfl, hp, by rw [dx.length]; exact hz, q⟩⟩
    · cases e
  · cases e
def ppL : List PyData → List PyData → Option (PyData × List PyData)
  | xs, [] => match xs[xs.length - 1]? with
    | some d => some (d, xs.dropLast)
    | none => none
  | _, _ => none
theorem DqA.dropLast {g : Gd} {vs : List V} {ds : List PyData} (h : DqA g vs ds) : DqA g vs.dropLast ds.dropLast := by
  rw [List.dropLast_eq_take, List.dropLast_eq_take, h.length]
  exact h.take _
theorem mtL_pop : MtL X "list.pop" ppL := by
  refine ⟨rPop, mt_pop, fun g xs vs ds as ys d dx da e => ?_⟩
  unfold ppL at e
  split at e
  · split at e
    · rename_i d' hd
      cases e
      cases da
      obtain ⟨v, hv, dv⟩ := dx.get hd
      rw [← dx.length] at hv
      exact ⟨v, _, dv, dx.dropLast, fun H p Q hp q => ⟨p, xs, _, rfl, rfl, hp, hv, q⟩⟩
    · cases e
  · cases e
def paL : List PyData → List PyData → Option (PyData × List PyData)
  | xs, [.int i] => if -(2 ^ 63) ≤ i ∧ i < 2 ^ 63 then match seqIndex? i xs.length with
      | some k => match xs[k]? with
        | some d => some (d, xs.eraseIdx k)
        | none => none
      | none => none
    else none
  | _, _ => none
theorem DqA.eraseIdx {g : Gd} : ∀ {vs : List V} {ds : List PyData} (k : Nat), DqA g vs ds → DqA g (vs.eraseIdx k) (ds.eraseIdx k)
  | _, _, _, .nil => .nil
  | _, _, 0, .cons _ t => t
  | _, _, k + 1, .cons h t => .cons h (DqA.eraseIdx k t)
theorem mtL_popAt : MtL X "list.pop" paL := by
  refine ⟨rPopAt, mt_popAt, fun g xs vs ds as ys d dx da e => ?_⟩
  unfold paL at e
  split at e
  · rename_i i
    split at e
    · rename_i hi
      split at e
      · rename_i k hk
        split at e
        · rename_i d' hd
          cases e
          cases da with
          | cons h t =>
            cases t; cases h
            obtain ⟨v, hv, dv⟩ := dx.get hd
            rw [← dx.length] at hk
            exact ⟨v, _, dv, dx.eraseIdx k, fun H p Q hp q => ⟨p, xs, i, k, v, rfl, rfl, hp, hi.1, hi.2, hk, hv, q⟩⟩
        · cases e
      · cases e
    · cases e
  · cases e

/-! ### xs[i] = v -/
theorem DqA.set {g : Gd} : ∀ {vs : List V} {ds : List PyData} (j : Nat) {v : V} {d : PyData}, DqA g vs ds → Dq g v d → DqA g (vs.set j v) (ds.set j d)
  | _, _, _, _, _, .nil, _ => .nil
  | _, _, 0, _, _, .cons _ t, h => .cons h t
  | _, _, j + 1, _, _, .cons a t, h => .cons a (DqA.set j t h)
def gIx (fo fi : FE) : FG := fun d ρ w => (fo ρ w).bind fun o w1 => (fi ρ w1).bind fun i w2 => match i with
  | .int k => match updL w2 o (fun xs => (ixN xs.length k).map fun j => (.none, xs.set j d)) with
    | some (_, w3) => .ok ρ w3
    | none => .no
  | _ => .no
theorem pgf_ix {o i : Expr} {pos : Pos} {fo fi : FE} (ho : PF X W0 o fo) (hi : PF X W0 i fi)
    (ha : ∀ v, assign (.Subscript o i pos) X.env v = (do let ov ← holding [v] (eval o X.env); let iv ← holding [v, ov] (eval i X.env); standAt pos; holding [v, ov, iv] (setItem ov iv v); release [v, ov, iv] []) := by intro _; rfl) : PGf X [] (.Subscript o i pos) (gIx fo fi) := by
  refine pg_imp (pg_sub ho hi set_list ha) fun v σ H Q ⟨g, ρ, w, d, hK, r, e, dv, q⟩ => ?_
  have q' : oX W0 σ (fun g' (_ : Unit) ρ' => EnR g' σ ρ') g (fun _ H' => Q σ H') (gIx fo fi d ρ w) := by
    cases hz : gIx fo fi d ρ w with
    | ok ρ' w' => rw [hz] at q; exact fun _ H' g' x r' e' => q σ H' g' x r' e' (Sm.refl _ _)
    | ex c fs w' => rw [hz] at q; exact q.elim
    | no => rw [hz] at q; exact q
  refine lX_bind hK r e q' fun vo H1 g1 o' w1 x r1 e1 dvo z => ?_
  refine lX_bind (x.k.trans hK) r1 e1 z fun vi H2 g2 i' w2 x2 r2 e2 dvi z2 => ?_
  split at z2
  · rename_i k
    split at z2
    · rename_i d' w3 hu
      obtain ⟨p, xs, ds, ys, rfl, hp, dx, hk, hw⟩ := updL_ok r2 (dvo.mono x2.toXt0 _ _) hu
      obtain ⟨j, hj, ej⟩ := Option.map_eq_some_iff.mp hk
      cases ej
      cases dvi
      have dv2 := dv.mono (x.toXt0.trans x2.toXt0) _ _
      refine ⟨p, xs, k, j, rfl, rfl, hp, by rw [dx.length]; exact hj, ?_⟩
      exact z2 () _ g2 (Xt.refl _) (hw _ (dx.set j dv2)) e2
    · exact z2.elim
  · exact z2.elim

/-! ### while -/
def whL (t : FT) (body : FS) : Nat → FS
  | 0 => fun _ _ => .no
  | n + 1 => fun ρ w => (t ρ w).thenS ρ fun b w1 => cond b (match body ρ w1 with
    | .nx ρ2 w2 => whL t body n ρ2 w2
    | .ct ρ2 w2 => whL t body n ρ2 w2
    | .bk ρ2 w2 => .nx ρ2 w2
    | o => o) (.nx ρ w1)
def sWh (t : FT) (body : FS) : FS := whL t body 1000000
theorem psf_while {c : Expr} {body : List Stmt} {pos : Pos} {t : FT} {fb : FS} (hp : PassesOwn (model X.prog X.w) X.A X.env X.xe) (hc : PTf X W c t) (hb : PSsf X W body fb) : PSf X W (.While c body [] pos) (sWh t fb) := by
  refine ps_imp (ps_while hp hc hb) fun D σ H ⟨g, ρ, w, hK, r, e, q⟩ => ?_
  refine ⟨fun m σ' H' => ∃ g' ρ' w', Xt g g' ∧ Rp g' H' w' ∧ EnR g' σ' ρ' ∧ oSt W g' D (whL t fb m ρ' w'), ⟨1000000, g, ρ, w, Xt.refl _, r, e, q⟩, ?_⟩
  rintro m σ' H' ⟨g', ρ', w', x', r', e', z'⟩
  cases m with
  | zero => exact z'.elim
  | succ m =>
    refine lX_then (x'.k.trans hK) r' e' z' fun v H1 g1 d w1 x r1 e1 dv z => ?_
    subst dv
    have up := x'.trans x
    cases v with
    | true =>
      refine iteT ⟨fun σ2 H2 => ∃ g2 ρ2 w2, Xt g g2 ∧ Rp g2 H2 w2 ∧ EnR g2 σ2 ρ2 ∧ oSt W g2 D (whL t fb m ρ2 w2), fun σ2 H2 n => ⟨m, Nat.lt_succ_self _, n⟩, g1, ρ', w1, up.k.trans hK, r1, e1, ?_⟩
      simp only [cond] at z
      cases hb' : fb ρ' w1 with
      | nx ρ2 w2 =>
        rw [hb'] at z
        exact fun σ4 H4 g4 x4 r4 e4 => ⟨g4, ρ2, w2, up.trans x4, r4, e4, oSt.mono x4 z⟩
      | ct ρ2 w2 =>
        rw [hb'] at z
        exact fun σ4 H4 g4 x4 r4 e4 => ⟨g4, ρ2, w2, up.trans x4, r4, e4, oSt.mono x4 z⟩
      | bk ρ2 w2 => rw [hb'] at z; exact z
      | rt d w2 => rw [hb'] at z; exact z
      | ex ρ2 c fs w2 => rw [hb'] at z; exact z
      | no => rw [hb'] at z; exact z
    | false => exact iteF (z _ _ _ (Xt.refl _) r1 e1)

/-! ### == [], != [] -/
def eqL (w : Ws) (d e : PyData) : Option PyData := match lstOf w d, lstOf w e with
  | some xs, some [] => some (.bool xs.isEmpty)
  | _, _ => none
def neL (w : Ws) (d e : PyData) : Option PyData := match lstOf w d, lstOf w e with
  | some xs, some [] => some (.bool (!xs.isEmpty))
  | _, _ => none
theorem op_eqL (hu : X.A.units + 64 < cLine) : OpR X (compareOp .Eq) (rD2 X.K eqL) := by
  intro pins s σ H x y v u Q I rx ry ⟨g, w, d, e, z, hK, r, dx, dy, hz, q⟩
  unfold eqL at hz
  split at hz
  · rename_i ds h1 h2
    cases hz
    obtain ⟨a, xs, rfl, sq, da⟩ := lstOf_ok r dx h1
    obtain ⟨b, ys, rfl, sq2, db⟩ := lstOf_ok r dy h2
    cases db; cases rx; cases ry
    obtain ⟨its, rv, pl, _⟩ := I.list (hK ▸ sq)
    obtain ⟨its2, rv2, pl2, _⟩ := I.list (hK ▸ sq2)
    have e2 : its2 = [] := by have := rv2.length; exact List.length_eq_zero_iff.mp this.symm
    subst e2
    have hl := rv.length
    have fin := q (.bl ds.isEmpty) H g (Xt.refl g) r (.bl _)
    cases its with
    | nil =>
      have e0 : ds = [] := by rw [da.length] at hl; exact List.length_eq_zero_iff.mp hl
      subst e0
      exact SeqAt.eq_listAt (e := fun _ => true) pl.isList pl2.isList rfl (by omega) (fun j h1 _ => absurd h1 (by simp)) ⟨.bl true, H, I, rfl, fin⟩
    | cons c cs =>
      have e0 : ds.isEmpty = false := by rw [da.length] at hl; cases ds with | nil => cases hl | cons => rfl
      rw [e0] at fin
      exact SeqAt.eq_list_lengthsAt pl.isList pl2.isList (by simp) (by omega) ⟨.bl false, H, I, rfl, fin⟩
  · cases hz
theorem op_neL (hu : X.A.units + 64 < cLine) : OpR X (compareOp .NotEq) (rD2 X.K neL) := by
  intro pins s σ H x y v u Q I rx ry ⟨g, w, d, e, z, hK, r, dx, dy, hz, q⟩
  unfold neL at hz
  split at hz
  · rename_i ds h1 h2
    cases hz
    obtain ⟨a, xs, rfl, sq, da⟩ := lstOf_ok r dx h1
    obtain ⟨b, ys, rfl, sq2, db⟩ := lstOf_ok r dy h2
    cases db; cases rx; cases ry
    obtain ⟨its, rv, pl, _⟩ := I.list (hK ▸ sq)
    obtain ⟨its2, rv2, pl2, _⟩ := I.list (hK ▸ sq2)
    have e2 : its2 = [] := by have := rv2.length; exact List.length_eq_zero_iff.mp this.symm
    subst e2
    have hl := rv.length
    have fin := q (.bl (!ds.isEmpty)) H g (Xt.refl g) r (.bl _)
    cases its with
    | nil =>
      have e0 : ds = [] := by rw [da.length] at hl; exact List.length_eq_zero_iff.mp hl
      subst e0
      exact SeqAt.RcNeAt.lists (e := fun _ => true) pl.isList pl2.isList rfl (by omega) (fun j h1 _ => absurd h1 (by simp)) X.prog X.w X.xe _ ⟨.bl false, H, I, rfl, fin⟩
    | cons c cs =>
      have e0 : ds.isEmpty = false := by rw [da.length] at hl; cases ds with | nil => cases hl | cons => rfl
      rw [e0] at fin
      exact SeqAt.RcNeAt.lists_lengths pl.isList pl2.isList (by simp) (by omega) X.prog X.w X.xe _ ⟨.bl true, H, I, rfl, fin⟩
  · cases hz
end
end Td

set_option Elab.async false
set_option linter.all false
set_option maxRecDepth 100000
set_option maxHeartbeats 4000000
namespace Td
open PySem L2 PySem.Spec PyProof.Rows
/-! ### instances of the store -/
def insOf (w : Ws) (o : PyData) (c : Str) : Option (List (Str × PyData)) := match locOf o with
  | some l => match w[l]? with
    | some (.ins c' fs) => if c' = c then some fs else none
    | _ => none
  | none => none
theorem insOf_ok {g : Gd} {H : Hp} {w : Ws} {v : V} {o : PyData} {c : Str} {fs : List (Str × PyData)} (r : Rp g H w) (h : Dq g v o) (e : insOf w o c = some fs) :
    ∃ l C dx gs, v = .ref (g.μ l) ∧ o = rf l ∧ w[l]? = some (.ins c fs) ∧ ClsAt g.K c C ∧ H (g.μ l) = some (.ins C dx gs) ∧ H dx = some (.own (g.μ l)) ∧ g.F (g.μ l) = none ∧ g.F dx = none ∧ KvR g gs fs := by
  unfold insOf at e
  split at e
  · rename_i l hl
    split at e
    · rename_i c' fs' hw
      split at e
      · rename_i hc
        cases e
        subst hc
        obtain ⟨rfl, rfl, _⟩ := locOf_ok h hl
        obtain ⟨hn, dx, gs, ⟨C, hC, h1⟩, hd, hn2, kv⟩ := r.cell l _ hw
        exact ⟨l, C, dx, gs, rfl, rfl, hw, hC, h1, hd, hn, hn2, kv⟩
      · cases e
    · cases e
  · cases e
theorem KvR.lookup {g : Gd} {f : Str} : ∀ {gs : List (Str × V)} {fs : List (Str × PyData)}, KvR g gs fs → (fs.lookup f = none → gs.lookup f = none) ∧ ∀ d, fs.lookup f = some d → ∃ v, gs.lookup f = some v ∧ Dq g v d
  | _, _, .nil => ⟨fun _ => rfl, fun d e => by cases e⟩
  | (a, v) :: gs, (b, d0) :: fs, .cons h t => by
    have hk : a = b := h.1
    subst hk
    obtain ⟨i1, i2⟩ := KvR.lookup (f := f) t
    by_cases q : (f == a) = true
    · have e1 : List.lookup f ((a, d0) :: fs) = some d0 := by rw [List.lookup_cons, q]
      have e2 : List.lookup f ((a, v) :: gs) = some v := by rw [List.lookup_cons, q]
      rw [e1, e2]
      refine ⟨fun z => (by cases z), fun d z => ?_⟩
      cases z
      exact ⟨v, rfl, h.2⟩
    · have q : (f == a) = false := by simpa using q
      have e1 : List.lookup f ((a, d0) :: fs) = List.lookup f fs := by rw [List.lookup_cons, q]
      have e2 : List.lookup f ((a, v) :: gs) = List.lookup f gs := by rw [List.lookup_cons, q]
      rw [e1, e2]
      exact ⟨i1, i2⟩
def putFD (f : Str) (v : PyData) : List (Str × PyData) → List (Str × PyData)
  | [] => [(f, v)]
  | (g, x) :: r => if g = f then (g, v) :: r else (g, x) :: putFD f v r
theorem KvR.putF {g : Gd} {f : Str} {v : V} {d : PyData} (hd : Dq g v d) : ∀ {gs : List (Str × V)} {fs : List (Str × PyData)}, KvR g gs fs → KvR g (L2.putF f v gs) (putFD f d fs)
  | _, _, .nil => .cons ⟨rfl, hd⟩ .nil
  | (a, u) :: gs, (b, d0) :: fs, .cons h t => by
    have hk : a = b := h.1
    subst hk
    unfold L2.putF putFD
    by_cases q : a = f
    · rw [if_pos q, if_pos q]; exact .cons ⟨rfl, hd⟩ t
    · rw [if_neg q, if_neg q]; exact .cons h (KvR.putF hd t)
/-- the fields of an instance are changed -/
def updI (w : Ws) (o : PyData) (c : Str) (k : List (Str × PyData) → Option (List (Str × PyData))) : Option Ws := match locOf o with
  | some l => match insOf w o c with
    | some fs => match k fs with
      | some fs' => some (w.set l (.ins c fs'))
      | none => none
    | none => none
  | none => none
theorem updI_ok {g : Gd} {H : Hp} {w w' : Ws} {v : V} {o : PyData} {c : Str} {k : List (Str × PyData) → Option (List (Str × PyData))} (r : Rp g H w) (h : Dq g v o) (e : updI w o c k = some w') :
    ∃ p C dx gs fs fs', v = .ref p ∧ ClsAt g.K c C ∧ H p = some (.ins C dx gs) ∧ KvR g gs fs ∧ k fs = some fs' ∧ ∀ gs', KvR g gs' fs' → Rp g (upd H p (.ins C dx gs')) w' := by
  unfold updI at e
  split at e
  · rename_i l hl
    split at e
    · rename_i fs hf
      split at e
      · rename_i fs' hk
        cases e
        obtain ⟨l', C, dx, gs, rfl, rfl, hw, hC, h1, hd, hn, hn2, kv⟩ := insOf_ok r h hf
        have el : l' = l := by simpa [locOf] using hl
        subst el
        refine ⟨_, C, dx, gs, fs, fs', rfl, hC, h1, kv, hk, fun gs' kv' => r.write hw hn (fun a b hb z => ?_) ⟨hn, dx, gs', ⟨C, hC, upd_same⟩, (upd_ne fun z => ?_).trans hd, hn2, kv'⟩⟩
        · rw [h1] at hb; cases hb; cases z
        · rw [z, h1] at hd; cases hd
      · cases e
    · cases e
  · cases e
/-- a class of the text, where it stands -/
structure ClsD (K : PySem.W.Frag) (mg : Str → Option Value) (c : Str) where
  C : Addr
  at_ : ClsAt K c C
  mg_ : mg c = some (.ref C)
  cls : Cls K C
theorem ClsAt.eq {K : PySem.W.Frag} {c : Str} {C C' : Addr} (a : ClsAt K c C) (b : ClsAt K c C') : C = C' := by
  have z := a.symm.trans b
  cases z
  rfl
section
variable {X : Cx} {W : WX} {c f : Str} {o e : Expr} {fo fe : FE} {pos : Pos}
def eFd (c f : Str) (fo : FE) : FE := fun ρ w => (fo ρ w).bind fun o w1 => Oc.of ((insOf w1 o c).bind fun fs => fs.lookup f) w1
theorem pf_fld (D : ClsD X.K X.mg c) (hn : NoAttr X.K D.C f) (ho : PF X W o fo) (hb : attributeBase o f X.env (eval o X.env) = eval o X.env := by rfl) : PF X W (.Attribute o f pos) (eFd c f fo) := by
  refine pe_imp (pe_fld ho hb) fun σ H Q ⟨g, ρ, w, hK, r, e, q⟩ => ?_
  refine lX_bind hK r e q fun v H1 g1 d w1 x r1 e1 dv z => ?_
  have hK1 := x.k.trans hK
  cases hz : (insOf w1 d c).bind fun fs => fs.lookup f with
  | none => rw [hz] at z; exact z.elim
  | some y =>
    rw [hz] at z
    obtain ⟨fs, h1, h2⟩ := Option.bind_eq_some_iff.mp hz
    obtain ⟨l, C, dx, gs, rfl, rfl, hw, hC, hH, hd, hn1, hn2, kv⟩ := insOf_ok r1 dv h1
    obtain ⟨u, hu, du⟩ := kv.lookup.2 y h2
    have eC : C = D.C := (hK1 ▸ hC : ClsAt X.K c C).eq D.at_
    subst eC
    exact ⟨_, _, dx, gs, u, rfl, hH, D.cls, hn, hu, z _ H1 g1 (Xt.refl _) r1 du⟩
/-- o.f = e -/
def sFd (c f : Str) (fo fv : FE) : FS := fun ρ w => (fv ρ w).thenS ρ fun v w1 => (fo ρ w1).thenS ρ fun o w2 => match updI w2 o c (fun fs => if fs.length < 1000 then some (putFD f v fs) else none) with
  | some w3 => .nx ρ w3
  | none => .no
theorem psf_fld {pos' : Pos} (D : ClsD X.K X.mg c) (hn : NoAttr X.K D.C f) (ho : PF X W o fo) (hv : PF X W e fe) (hs : swapsWith e (some (.Attribute o f pos')) pos.line X.env = pure false := by rfl) : PSf X W (.Assign [.Attribute o f pos'] e pos) (sFd c f fo fe) := by
  refine ps_imp (ps_fld ho hv hs) fun D' σ H ⟨g, ρ, w, hK, r, e, q⟩ => ?_
  refine lX_then hK r e q fun v H1 g1 d w1 x r1 e1 dv z => ?_
  refine lX_then (x.k.trans hK) r1 e1 z fun u H2 g2 o' w2 x2 r2 e2 du z2 => ?_
  split at z2
  · rename_i w3 hu
    obtain ⟨p, C, dx, gs, fs, fs', rfl, hC, hH, kv, hk, hw⟩ := updI_ok r2 du hu
    split at hk
    · rename_i hl
      cases hk
      have eC : C = D.C := ((x2.k.trans (x.k.trans hK)) ▸ hC : ClsAt X.K c C).eq D.at_
      subst eC
      have dv2 := dv.mono x2.toXt0 _ _
      exact ⟨p, _, dx, gs, rfl, hH, D.cls, hn, by rw [kv.length]; exact hl, z2 σ _ g2 (Xt.refl _) (hw _ (kv.putF dv2)) e2⟩
    · cases hk
  · exact z2.elim
/-- o.f += e, ints -/
def sFdA (c f : Str) (fo fv : FE) : FS := fun ρ w => (fo ρ w).thenS ρ fun o w1 => match (insOf w1 o c).bind (fun fs => fs.lookup f) with
  | some (.int i) => (fv ρ w1).thenS ρ fun d w2 => match d with
    | .int j => match updI w2 o c (fun fs => if fs.length < 1000 then some (putFD f (.int (i + j)) fs) else none) with
      | some w3 => .nx ρ w3
      | none => .no
    | _ => .no
  | _ => .no
theorem psf_fldA {tpos : Pos} (D : ClsD X.K X.mg c) (hn : NoAttr X.K D.C f) (ho : PF X W o fo) (hv : PF X W e fe) : PSf X W (.AugAssign (.Attribute o f tpos) .Add e pos) (sFdA c f fo fe) := by
  refine ps_imp (ps_fldaug ho hv in_add) fun D' σ H ⟨g, ρ, w, hK, r, e, q⟩ => ?_
  refine lX_then hK r e q fun v H1 g1 o' w1 x r1 e1 dv z => ?_
  have hK1 := x.k.trans hK
  split at z
  · rename_i i hz
    obtain ⟨fs, h1, h2⟩ := Option.bind_eq_some_iff.mp hz
    obtain ⟨l, C, dx, gs, rfl, rfl, hw, hC, hH, hd, hn1, hn2, kv⟩ := insOf_ok r1 dv h1
    obtain ⟨u, hu, du⟩ := kv.lookup.2 _ h2
    have eC : C = D.C := (hK1 ▸ hC : ClsAt X.K c C).eq D.at_
    subst eC
    refine ⟨_, _, dx, gs, u, rfl, hH, D.cls, hn, hu, ?_⟩
    refine lX_then hK1 r1 e1 z fun y H2 g2 d w2 x2 r2 e2 dy z2 => ?_
    split at z2
    · rename_i j
      split at z2
      · rename_i w3 hw3
        cases du; cases dy
        obtain ⟨p, C, dx', gs', fs', fs'', ep, hC', hH', kv', hk, hw'⟩ := updI_ok r2 (dv.mono x2.toXt0 _ _) hw3
        split at hk
        · rename_i hl
          cases hk
          have eC : C = D.C := ((x2.k.trans hK1) ▸ hC' : ClsAt X.K c C).eq D.at_
          subst eC
          cases ep
          exact ⟨_, _, rfl, rfl, dx', gs', hH', by rw [kv'.length]; exact hl, z2 σ _ g2 (Xt.refl _) (hw' _ (kv'.putF (.int _))) e2⟩
        · cases hk
      · exact z2.elim
    · exact z2.elim
  · exact z.elim
end
/-! ### methods -/
structure MethD (K : PySem.W.Frag) (mg : Str → Option Value) (c m qual : Str) (st : Stmt) (ps : List Str) (D : ClsD K mg c) where
  f : Addr
  fd : FuncData
  fn : Fun K m qual st f fd
  me : Meth K D.C m f
  bd : Binds K fd ps []
structure Gm (P : Program) (w : World) (K : PySem.W.Frag) (mg : Str → Option Value) (base : Heap) (k : Nat) (f : Addr) (fd : FuncData) (ps : List Str) (gf : FF) : Prop where
  fn : FnG P w K mg base k f fd ps gf
  len : ∀ as w, as.length ≠ ps.length → gf as w = .no
theorem Gm.mono {P : Program} {w : World} {K : PySem.W.Frag} {mg : Str → Option Value} {base : Heap} {j k : Nat} {f : Addr} {fd : FuncData} {ps : List Str} {gf : FF} (G : Gm P w K mg base j f fd ps gf) (h : j ≤ k) : Gm P w K mg base k f fd ps gf := ⟨G.fn.mono h, G.len⟩
theorem gm_no {P : Program} {w : World} {K : PySem.W.Frag} {mg : Str → Option Value} {base : Heap} {k : Nat} {f : Addr} {fd : FuncData} {ps : List Str} : Gm P w K mg base k f fd ps (fun _ _ => .no) :=
  ⟨⟨fun A outer s H args us vs Q E hr hg e0 hb hv ⟨g, w', ds, hK, r, da, hl, q⟩ => q.elim⟩, fun _ _ _ => rfl⟩
def okM (w : Ws) (o : PyData) (c m : Str) : Bool := match insOf w o c with
  | some fs => (fs.lookup m).isNone
  | none => false
def eMt (c m : Str) (gf : FF) (fo : FE) (fa : FA) : FE := fun ρ w => (fo ρ w).bind fun o w1 => Oc.on (okM w1 o c m) ((fa ρ w1).bind fun as w2 => gf (o :: as) w2)
theorem gm_of {P : Program} {w : World} {K : PySem.W.Frag} {mg : Str → Option Value} {base : Heap} {x qual : Str} {st : Stmt} {f : Addr} {fd : FuncData} {N ps : List Str} {k : Nat} {bf : FS} (F : Fun K x qual st f fd) (S : FnScope N ps (defScope st))
    (hbody : ∀ (cdv : Value) (A : Around) (outer : List Env) (s : Shared) (H : Hp) (E : XK), Room k (A.deeper (envOfC qual (defScope st) s.heap.objs.size f cdv)) → A.guards = some [] →
      PSsf (cxOf (CX P w) P w K mg base N qual (defScope st) f cdv A outer s H E) (fun c d _ H => E c d H) (defBody st) bf) : Gm P w K mg base (k + 1) f fd ps (defF N.length ps.length bf) := ⟨fnG_of F S hbody, fun as w h => if_neg h⟩
section
variable {X : Cx} {W : WX} {k : Nat} {ps : List Str} {gf : FF} {c m qual : Str} {st : Stmt} {o e : Expr} {es : List Expr} {fo : FE} {fa : FA} {pos apos : Pos}
theorem okM_ok {g : Gd} {H : Hp} {w : Ws} {v : V} {o : PyData} (D : ClsD X.K X.mg c) (hK : g.K = X.K) (r : Rp g H w) (h : Dq g v o) (e : okM w o c m = true) : ∃ p dx gs, v = .ref p ∧ H p = some (.ins D.C dx gs) ∧ gs.lookup m = none := by
  unfold okM at e
  split at e
  · rename_i fs hf
    obtain ⟨l, C, dx, gs, rfl, rfl, hw, hC, hH, hd, hn1, hn2, kv⟩ := insOf_ok r h hf
    have eC : C = D.C := (hK ▸ hC : ClsAt X.K c C).eq D.at_
    subst eC
    exact ⟨_, dx, gs, rfl, hH, kv.lookup.1 (by simpa using e)⟩
  · cases e
/-- what a method's call wants behind its receiver -/
theorem meth_want {σ : L2.St} {H : Hp} {Q : VK} {g : Gd} {ρ : Ev} {w : Ws} {K : PySem.W.Frag} {v : V} {o' : PyData} (hK : g.K = K) (r : Rp g H w) (e : EnR g σ ρ) (dv : Dq g v o') (hlen : ∀ as w, as.length ≠ ps.length → gf as w = .no)
    (z : oX W σ Dq g Q ((fa ρ w).bind fun as w2 => gf (o' :: as) w2)) : lA K W fa σ H fun vs H2 => spF K ps.length gf (v :: vs) H2 Q (fun c d H' => W c d σ H') := by
  refine lX_bind hK r e z fun vs H2 g2 as w2 x2 r2 e2 dvs z2 => ?_
  have dal : DqA g2 (v :: vs) (o' :: as) := .cons (dv.mono x2.toXt0 _ _) dvs
  refine ⟨g2, w2, _, x2.k.trans hK, r2, dal, ?_, ?_⟩
  · rw [dal.length]
    by_cases h : (o' :: as).length = ps.length
    · exact h
    · rw [hlen _ _ h] at z2; exact z2.elim
  · cases hz : gf (o' :: as) w2 with
    | ok d w3 => rw [hz] at z2; exact z2
    | ex c fs w3 => rw [hz] at z2; exact z2
    | no => rw [hz] at z2; exact z2
theorem pf_meth {pl : Sem Bool} {D : ClsD X.K X.mg c} {M : MethD X.K X.mg c m qual st ps D} (G : Gm X.prog X.w X.K X.mg X.base k M.f M.fd ps gf) (hr : Room k X.A) (hgu : X.A.guards = some []) (tk : Takes X W) (ho : PF X W o fo) (ha : PAf X W (e :: es) fa)
    (hst : starEach (e :: es) X.env = (false, eval e X.env) :: starEach es X.env := by rfl) (hpl : (backTo pos (starEach es X.env)).any (·.1) = false := by rfl)
    (ht : eval (.Call (.Attribute o m apos) (e :: es) [] pos) X.env = (do let ov ← eval o X.env; standAt apos.atName; let (f, first) ← holding [ov] (getMethod ov m pl); callWith pos f first (backTo pos (starEach (e :: es) X.env)) (backToKw pos (keywordEach [] X.env))) := by rfl) :
    PF X W (.Call (.Attribute o m apos) (e :: es) [] pos) (eMt c m gf fo fa) := by
  refine ⟨fun pins s σ H Q I h => ?_⟩
  obtain ⟨g, ρ, w, hK, r, en, q⟩ := h
  have want := lX_bind (R := Dq) (T := fun v H1 => ∃ p dx gs, v = .ref p ∧ H1 p = some (.ins D.C dx gs) ∧ gs.lookup m = none ∧ lA X.K W fa σ H1 fun vs H2 => spF X.K ps.length gf (v :: vs) H2 Q (fun c d H' => W c d σ H')) hK r en q fun v H1 g1 o' w1 x r1 e1 dv z => by
    obtain ⟨hb, z⟩ := z.on
    obtain ⟨p, dx, gs, ev, hH, hl⟩ := okM_ok D (x.k.trans hK) r1 dv hb
    exact ⟨p, dx, gs, ev, hH, hl, meth_want (x.k.trans hK) r1 e1 dv G.len z⟩
  refine PySem.W.methodCall_KW (pl := pl) (thn (ho.run pins s σ H _ I want) fun u s1 hv => ?_) ht
  obtain ⟨x, H1, I1, rx, p, dx, gs, ex, hH, hl, q1⟩ := hv
  subst ex
  cases rx
  refine getmeth_ok I1 hH D.cls M.me hl ?_
  refine PySem.W.callWith_K (first := [.ref p]) (h₀ := X.base) I.ok.mod.kin M.me.kp ?_ hst hpl
  refine thn (ha.run pos pins s1 σ H1 _ I1 q1) fun us s2 hs => ?_
  obtain ⟨vs, H2, I2, rv, q2⟩ := hs
  exact ⟨I2.kIn, run_G (us := .ref p :: us) (vs := .ref p :: vs) G.fn hr hgu M.bd .nil tk I2 (.cons rfl rv) (by rw [List.append_nil]; exact q2)⟩
theorem pf_meth0 {pl : Sem Bool} {D : ClsD X.K X.mg c} {M : MethD X.K X.mg c m qual st ps D} (G : Gm X.prog X.w X.K X.mg X.base k M.f M.fd ps gf) (hr : Room k X.A) (hgu : X.A.guards = some []) (tk : Takes X W) (ho : PF X W o fo)
    (ht : eval (.Call (.Attribute o m apos) [] [] pos) X.env = (do let ov ← eval o X.env; standAt apos.atName; let (f, first) ← holding [ov] (getMethod ov m pl); callWith pos f first (backTo pos (starEach [] X.env)) (backToKw pos (keywordEach [] X.env))) := by rfl) :
    PF X W (.Call (.Attribute o m apos) [] [] pos) (eMt c m gf fo aN) := by
  refine ⟨fun pins s σ H Q I h => ?_⟩
  obtain ⟨g, ρ, w, hK, r, en, q⟩ := h
  have want := lX_bind (R := Dq) (T := fun v H1 => ∃ p dx gs, v = .ref p ∧ H1 p = some (.ins D.C dx gs) ∧ gs.lookup m = none ∧ lA X.K W aN σ H1 fun vs H2 => spF X.K ps.length gf (v :: vs) H2 Q (fun c d H' => W c d σ H')) hK r en q fun v H1 g1 o' w1 x r1 e1 dv z => by
    obtain ⟨hb, z⟩ := z.on
    obtain ⟨p, dx, gs, ev, hH, hl⟩ := okM_ok D (x.k.trans hK) r1 dv hb
    exact ⟨p, dx, gs, ev, hH, hl, meth_want (x.k.trans hK) r1 e1 dv G.len z⟩
  refine PySem.W.methodCall_KW (pl := pl) (thn (ho.run pins s σ H _ I want) fun u s1 hv => ?_) ht
  obtain ⟨x, H1, I1, rx, p, dx, gs, ex, hH, hl, q1⟩ := hv
  subst ex
  cases rx
  refine getmeth_ok I1 hH D.cls M.me hl ?_
  obtain ⟨g2, ρ2, w2, hK2, r2, en2, q2⟩ := q1
  exact PySem.W.callWith_K0 (first := [.ref p]) I1.kIn M.me.kp (run_G (us := [.ref p]) (vs := [.ref p]) G.fn hr hgu M.bd .nil tk I1 (.cons rfl .nil) (by rw [List.append_nil]; exact q2 [] H1 g2 (Xt.refl _) r2 .nil))
end
/-! ### C(..) -/
theorem make_guards {A : Around} {C : Addr} {us : List Value} {kw : List (Str × Value)} (h : A.guards = some []) : (A.under (.builtin "type.__call__" ⟨.ref C :: us, kw⟩)).guards = some [] := by
  first | exact h | simpa [Around.under, Code.isGuard, guardIds] using h
def eMk (c : Str) (gf : FF) (fa : FA) : FE := fun ρ w => (fa ρ w).bind fun as w1 => match gf (rf w1.length :: as) (w1 ++ [.ins c []]) with
  | .ok .none w2 => .ok (rf w1.length) w2
  | .ok _ _ => .no
  | .ex k fs w2 => .ex k fs w2
  | .no => .no
theorem newI {g : Gd} {H : Hp} {w : Ws} {c : Str} {C x dx : Addr} (r : Rp g H w) (hC : ClsAt g.K c C) (hx : H x = none) (hdx : H dx = none) (hne : dx ≠ x) : Rp (g.al x) (upd (upd H dx (.own x)) x (.ins C dx [])) (w ++ [.ins c []]) ∧ Dq (g.al x) (.ref x) (rf w.length) := by
  have r1 : Rp g (upd H dx (.own x)) w := r.skip hdx
  refine ⟨r1.alloc (by rw [upd_ne (Ne.symm hne)]; exact hx) (fun a z => nomatch z) ⟨r.fnone hx, dx, [], ⟨C, hC, upd_same⟩, by rw [upd_ne hne, upd_same], r.fnone hdx, .nil⟩, ?_⟩
  rw [← r.len]
  exact Gd.al_ref
section
variable {X : Cx} {W : WX} {k : Nat} {f : Addr} {fd : FuncData} {ps : List Str} {gf : FF} {c : Str} {e : Expr} {es : List Expr} {fa : FA} {p pos : Pos}
theorem run_mkG {pins : List (Addr × Obj)} {σ : L2.St} {H : Hp} {s : Shared} {Q : VK} {us : List Value} {vs : List V} {C : Addr} (M : Mk X.K C f) (F : FnG X.prog X.w X.K X.mg X.base k f fd ps gf) (hr : Room (k + 1) X.A) (hgu : X.A.guards = some []) (hb : Binds X.K fd ps []) (tk : Takes X W)
    (I : Inv X pins σ H s) (rv : Vals vs us)
    (h : ∀ x dx, H x = none → H dx = none → dx ≠ x → spF X.K ps.length gf (.ref x :: vs) (upd (upd H dx (.own x)) x (.ins C dx [])) (fun v H2 => v = .non ∧ Q (.ref x) H2) (fun c d H' => W c d σ H')) :
    wpAny (model X.prog X.w) X.A (call (.ref C) us) (EP X pins σ Q) X.xe s := by
  have hq := h (s.heap.objs.size + 1) s.heap.objs.size (I.hok.fresh (Nat.le_succ _)) (I.hok.fresh (Nat.le_refl _)) (Nat.ne_of_lt (Nat.lt_succ_self _))
  have J := Inv.made (C := C) I
  have rr : Vals (V.ref (s.heap.objs.size + 1) :: vs) (Value.ref (s.heap.objs.size + 1) :: us) := .cons rfl rv
  have many : (Value.ref (s.heap.objs.size + 1) :: us).length = ps.length := by
    obtain ⟨_, _, _, _, _, _, hl, _⟩ := id hq
    rw [← rr.length]
    exact hl
  have bb := hb _ (Value.ref (s.heap.objs.size + 1) :: us) J.kIn (by rw [List.append_nil]; exact many)
  rw [List.append_nil] at bb
  refine wpAny_call (make_map (f := f) I.kIn M.makes M.init (beq_iff_eq.mp M.fn) (codeAny_mono (F.run _ X.stack _ _ _ _ _ _ _ (hr.make C us []) (make_guards hgu) (J.env0.make C us []) bb rr hq) ?_))
  intro res s' hres
  match res, hres with
  | .error e, hres => exact tk e s' (XE.of_call J (fun _ _ _ z => z) hres)
  | .ok (.ret u), hres =>
    obtain ⟨v, H', J3, ru, rfl, q3⟩ := J.after hres
    exact ⟨ru, ⟨V.ref (s.heap.objs.size + 1), H', J3, rfl, q3⟩⟩
theorem pf_mk {D : ClsD X.K X.mg c} (M : Mk X.K D.C f) (G : Gm X.prog X.w X.K X.mg X.base k f fd ps gf) (hr : Room (k + 1) X.A) (hgu : X.A.guards = some []) (hb : Binds X.K fd ps []) (hg : Gl X c) (tk : Takes X W) (ha : PAf X W (e :: es) fa)
    (hdb : (c == ("__debug__" : Str)) = false := by decide) (he : starEach (e :: es) X.env = (false, eval e X.env) :: starEach es X.env := by rfl) (hpl : (backTo pos (starEach es X.env)).any (·.1) = false := by rfl) :
    PF X W (.Call (.Name c p) (e :: es) [] pos) (eMk c gf fa) := by
  refine ⟨fun pins s σ H Q I h => ?_⟩
  obtain ⟨g, ρ, w, hK, r, en, q⟩ := h
  have want := lX_bind (R := DqA) (T := fun vs H1 => ∀ x dx, H1 x = none → H1 dx = none → dx ≠ x → spF X.K ps.length gf (.ref x :: vs) (upd (upd H1 dx (.own x)) x (.ins D.C dx [])) (fun v H2 => v = .non ∧ Q (.ref x) H2) (fun c d H' => W c d σ H')) hK r en q fun vs H1 g1 as w1 x r1 e1 dvs z => by
    intro y dx hy hdx hne
    have hK1 := x.k.trans hK
    obtain ⟨rn, dn⟩ := newI r1 (by rw [hK1]; exact D.at_) hy hdx hne
    have dal : DqA (g1.al y) (.ref y :: vs) (rf w1.length :: as) := .cons dn (dvs.mono Gd.al_xt.toXt0 _ _)
    refine ⟨g1.al y, _, _, hK1, rn, dal, ?_, ?_⟩
    · rw [dal.length]
      by_cases h : (rf w1.length :: as).length = ps.length
      · exact h
      · rw [G.len _ _ h] at z; exact z.elim
    · cases hz : gf (rf w1.length :: as) (w1 ++ [.ins c []]) with
      | ok d w2 =>
        rw [hz] at z
        cases d with
        | none =>
          intro v H2 g' x' r' dv'
          cases dv'
          exact ⟨rfl, z _ H2 g' (Gd.al_xt.trans x') r' (dn.mono x'.toXt0 _ _)⟩
        | _ => exact z.elim
      | ex c' fs w2 =>
        rw [hz] at z
        exact fun dd H' g' x' r' xd => z dd H' g' (Gd.al_xt.trans x') r' xd
      | no => rw [hz] at z; exact z.elim
  refine wpAny_Call_Name_kw (ld_glob I hg D.mg_ ?_ hdb)
  refine PySem.W.callWith_K (h₀ := X.base) I.ok.mod.kin M.kp ?_ he hpl
  refine thn (ha.run pos pins s σ H _ I want) fun us s1 hs => ?_
  obtain ⟨vs, H1, I1, rv, q1⟩ := hs
  exact ⟨I1.kIn, run_mkG M G.fn hr hgu hb tk I1 rv q1⟩
end
/-! ### calls with keywords, with defaults -/
abbrev PKf (X : Cx) (W : WX) (kws : List Keyword) (f : FA) : Prop := PK X kws (lA X.K W f)
theorem pk_imp {X : Cx} {e : List Keyword} {t t' : TA} (h : PK X e t) (i : ∀ σ H Q, t' σ H Q → t σ H Q) : PK X e t' := ⟨fun p pins s σ H Q I q => h.run p pins s σ H Q I (i σ H Q q)⟩
/-- n values by position, those named ks: gD puts them in the parameters' order, defaults among them -/
structure KbD (K : PySem.W.Frag) (fd : FuncData) (ps : List Str) (n : Nat) (ks : List Str) (gD : List PyData → List PyData → List PyData) : Prop where
  ex : ∃ g gV, KBn K fd ps n ks g gV ∧ ∀ (G : Gd) (vs zs : List V) (as bs : List PyData), DqA G vs as → DqA G zs bs → vs.length = n → zs.length = ks.length → DqA G (gV vs zs) (gD as bs)
def eCallN (n m : Nat) (gD : List PyData → List PyData → List PyData) (gf : FF) (fa fk : FA) : FE := fun ρ w => (fa ρ w).bind fun as w1 => (fk ρ w1).bind fun bs w2 => Oc.on (as.length == n && bs.length == m) (gf (gD as bs) w2)
section
variable {X : Cx} {W : WX} {k n : Nat} {f : Addr} {fd : FuncData} {ps ks : List Str} {gf : FF} {gD : List PyData → List PyData → List PyData} {x : Str} {e : Expr} {es : List Expr} {kws : List Keyword} {fe : FE} {fa fk : FA} {p pos kpos : Pos} {nm : Option Str}
theorem pkf_nil : PKf X W [] aN := pk_imp pk_nil fun σ H Q ⟨g, ρ, w, hK, r, e, q⟩ => q [] H g (Xt.refl g) r .nil
theorem pkf_cons (ha : PF X W e fe) (hr : PKf X W kws fk) : PKf X W (⟨nm, e, kpos⟩ :: kws) (aC fe fk) := by
  refine pk_imp (pk_cons ha hr) fun σ H Q ⟨g, ρ, w, hK, r, e, q⟩ => ?_
  refine lX_bind hK r e q fun v H1 g1 d w1 x r1 e1 dv z => ?_
  refine lX_bind (x.k.trans hK) r1 e1 z fun vs H2 g2 ds w2 x2 r2 e2 dvs z2 => ?_
  exact z2 _ H2 g2 (Xt.refl _) r2 (.cons (dv.mono x2 _ _) dvs)
theorem run_GN {pins : List (Addr × Obj)} {σ : L2.St} {H : Hp} {s : Shared} {Q : VK} {us ws : List Value} {vs zs : List V} {g : List Value → List Value → List Value} {gV : List V → List V → List V} (F : FnG X.prog X.w X.K X.mg X.base k f fd ps gf) (hr : Room k X.A) (hgu : X.A.guards = some []) (hb : KBn X.K fd ps n ks g gV) (tk : Takes X W)
    (I : Inv X pins σ H s) (rv : Vals vs us) (rz : Vals zs ws) (l1 : vs.length = n) (l2 : zs.length = ks.length) (h : spF X.K ps.length gf (gV vs zs) H Q (fun c d H' => W c d σ H')) : wpAny (model X.prog X.w) X.A (call (.ref f) us (ks.zip ws)) (EP X pins σ Q) X.xe s := by
  refine wpAny_call (codeAny_mono (F.run X.A X.stack s H _ _ _ Q _ hr hgu I.env0 (hb.to s us ws I.kIn (rv.length.symm.trans l1) (rz.length.symm.trans l2)) (hb.rel rv rz) h) ?_)
  intro res s' hq
  match res, hq with
  | .error e, hq => exact tk e s' (XE.of_call I (fun _ _ _ z => z) hq)
  | .ok (.ret u), hq => exact I.after hq
theorem callN_want {σ : L2.St} {H : Hp} {Q : VK} {g : Gd} {ρ : Ev} {w : Ws} {K : PySem.W.Frag} {gV : List V → List V → List V} (hlen : ∀ as w, as.length ≠ ps.length → gf as w = .no)
    (hv : ∀ (G : Gd) (vs zs : List V) (as bs : List PyData), DqA G vs as → DqA G zs bs → vs.length = n → zs.length = ks.length → DqA G (gV vs zs) (gD as bs)) (h : lE K W (eCallN n ks.length gD gf fa fk) σ H Q) :
    lA K W fa σ H fun vs H1 => lA K W fk σ H1 fun zs H2 => vs.length = n ∧ zs.length = ks.length ∧ spF K ps.length gf (gV vs zs) H2 Q (fun c d H' => W c d σ H') := by
  obtain ⟨g, ρ, w, hK, r, e, q⟩ := h
  refine lX_bind hK r e q fun vs H1 g1 as w1 x r1 e1 dvs z => ?_
  refine lX_bind (x.k.trans hK) r1 e1 z fun zs H2 g2 bs w2 x2 r2 e2 dzs z2 => ?_
  obtain ⟨hb, z2⟩ := z2.on
  rw [Bool.and_eq_true, beq_iff_eq, beq_iff_eq] at hb
  have dvs2 := dvs.mono x2.toXt0 _ _
  have l1 : vs.length = n := by rw [dvs.length]; exact hb.1
  have l2 : zs.length = ks.length := by rw [dzs.length]; exact hb.2
  have dal := hv g2 vs zs as bs dvs2 dzs l1 l2
  refine ⟨l1, l2, g2, w2, _, x2.k.trans (x.k.trans hK), r2, dal, ?_, ?_⟩
  · rw [dal.length]
    by_cases h : (gD as bs).length = ps.length
    · exact h
    · rw [hlen _ _ h] at z2; exact z2.elim
  · cases hz : gf (gD as bs) w2 with
    | ok d w3 => rw [hz] at z2; exact z2
    | ex c fs w3 => rw [hz] at z2; exact z2
    | no => rw [hz] at z2; exact z2
theorem pf_callN (G : Gm X.prog X.w X.K X.mg X.base k f fd ps gf) (hr : Room k X.A) (hgu : X.A.guards = some []) (hg : Gl X x) (hm : X.mg x = some (.ref f)) (hk : PySem.W.keepIn X.K (.ref f) = true) (kb : KbD X.K fd ps n ks gD) (tk : Takes X W) (ha : PAf X W (e :: es) fa) (hkw : PKf X W kws fk)
    (hall : (backToKw pos (keywordEach kws X.env)).all (·.1.isSome) = true := by rfl) (hks : (backToKw pos (keywordEach kws X.env)).filterMap (·.1) = ks := by rfl) (hdb : (x == ("__debug__" : Str)) = false := by decide) (he : starEach (e :: es) X.env = (false, eval e X.env) :: starEach es X.env := by rfl) (hpl : ((backTo pos (starEach (e :: es) X.env)).any (·.1) || (backToKw pos (keywordEach kws X.env)).any (·.1.isNone)) = false := by rfl) :
    PF X W (.Call (.Name x p) (e :: es) kws pos) (eCallN n ks.length gD gf fa fk) := by
  obtain ⟨g, gV, kbn, hv⟩ := kb.ex
  refine ⟨fun pins s σ H Q I h => ?_⟩
  have want := callN_want (g := ⟨X.K, fun _ => none, fun _ => none, fun _ => 0, 0⟩) (ρ := []) (w := []) G.len hv h
  refine wpAny_Call_Name_kw (ld_glob I hg hm ?_ hdb)
  refine PySem.W.callWith_KW (h₀ := X.base) I.ok.mod.kin hk hall (thn (ha.run pos pins s σ H _ I want) fun us s1 hs => ?_) hpl he
  obtain ⟨vs, H1, I1, rv, q1⟩ := hs
  refine thn (hkw.run pos pins s1 σ H1 _ I1 q1) fun ws s2 hs2 => ?_
  obtain ⟨zs, H2, I2, rz, l1, l2, q2⟩ := hs2
  rw [hks]
  exact ⟨I2.kIn, run_GN G.fn hr hgu kbn tk I2 rv rz l1 l2 q2⟩
theorem pf_callN0 (G : Gm X.prog X.w X.K X.mg X.base k f fd ps gf) (hr : Room k X.A) (hgu : X.A.guards = some []) (hg : Gl X x) (hm : X.mg x = some (.ref f)) (hk : PySem.W.keepIn X.K (.ref f) = true) (kb : KbD X.K fd ps n ks gD) (tk : Takes X W) (hkw : PKf X W kws fk)
    (hall : (backToKw pos (keywordEach kws X.env)).all (·.1.isSome) = true := by rfl) (hks : (backToKw pos (keywordEach kws X.env)).filterMap (·.1) = ks := by rfl) (hdb : (x == ("__debug__" : Str)) = false := by decide) (hpl : ((backTo pos (starEach [] X.env)).any (·.1) || (backToKw pos (keywordEach kws X.env)).any (·.1.isNone)) = false := by rfl) :
    PF X W (.Call (.Name x p) [] kws pos) (eCallN n ks.length gD gf aN fk) := by
  obtain ⟨g, gV, kbn, hv⟩ := kb.ex
  refine ⟨fun pins s σ H Q I h => ?_⟩
  have want := callN_want (g := ⟨X.K, fun _ => none, fun _ => none, fun _ => 0, 0⟩) (ρ := []) (w := []) G.len hv h
  obtain ⟨gg, ρ, w, hK, r, en, q⟩ := want
  have q1 := q [] H gg (Xt.refl _) r .nil
  refine wpAny_Call_Name_kw (ld_glob I hg hm ?_ hdb)
  refine PySem.W.callWith_KW0 (h₀ := X.base) I.ok.mod.kin hk hall ?_ hpl
  refine thn (hkw.run pos pins s σ H _ I q1) fun ws s2 hs2 => ?_
  obtain ⟨zs, H2, I2, rz, l1, l2, q2⟩ := hs2
  rw [hks]
  exact ⟨I2.kIn, run_GN (us := []) (vs := []) G.fn hr hgu kbn tk I2 .nil rz l1 l2 q2⟩
end
end Td

set_option Elab.async false
set_option linter.all false
set_option maxRecDepth 100000
set_option maxHeartbeats 4000000
namespace Td
open PySem L2 PySem.Spec PyProof.Rows
/-! ### f'..' -/
section
variable {X : Cx} {W : WX}
def fmtD (_ : Ws) : PyData → Option PyData
  | .str y => if szOk y.length then some (.str y) else none
  | .int i => if decide (i.natAbs.log2 < 1920) then some (.str (toString i)) else none
  | _ => none
theorem pf_fmt {e : Expr} {f : FE} {pos : Pos} (h : PF X W e f) : PF X W (.FormattedValue e (-1) none pos) (eU fmtD f) := by
  refine pe_imp (pe_fmt h) fun σ H Q ⟨g, ρ, w, hK, r, e, q⟩ => ?_
  refine lX_bind hK r e q fun v H1 g1 d w1 x r1 e1 dv z => ?_
  cases dv with
  | str y =>
    simp only [fmtD] at z
    split at z
    · rename_i hs
      exact .inl ⟨y, rfl, of_decide_eq_true hs, z _ H1 g1 (Xt.refl _) r1 (.str _)⟩
    · exact z.elim
  | int i =>
    simp only [fmtD] at z
    split at z
    · rename_i hs
      exact .inr ⟨i, rfl, of_decide_eq_true hs, z _ H1 g1 (Xt.refl _) r1 (.str _)⟩
    · exact z.elim
  | _ => exact z.elim
/-- the parts, each a text -/
def jsF : List FE → Str → Ev → Ws → Oc Str
  | [], acc, _, w => .ok acc w
  | f :: fs, acc, ρ, w => (f ρ w).bind fun d w1 => match d with
    | .str y => Oc.on (szOk (acc ++ y).length) (jsF fs (acc ++ y) ρ w1)
    | _ => .no
def eJs (fs : List FE) : FE := fun ρ w => (jsF fs Str.empty ρ w).bind fun s w1 => .ok (.str s) w1
inductive PJf (X : Cx) (W : WX) : List Expr → List FE → Prop
  | nil : PJf X W [] []
  | cons {e : Expr} {f : FE} {es : List Expr} {fs : List FE} (h : PF X W e f) (r : PJf X W es fs) : PJf X W (e :: es) (f :: fs)
theorem PJf.pj {es : List Expr} {fs : List FE} (h : PJf X W es fs) : PJ X es (fs.map fun f => lE X.K W f) := by
  induction h with
  | nil => exact .nil
  | cons a b ih => exact .cons a ih
theorem js_of {K : PySem.W.Frag} {σ : L2.St} {Q : VK} : ∀ (fs : List FE) (acc : Str) (g : Gd) (ρ : Ev) (w : Ws) (H : Hp), g.K = K → Rp g H w → EnR g σ ρ → oX W σ Dq g Q ((jsF fs acc ρ w).bind fun s w1 => .ok (.str s) w1) → tJs (fs.map fun f => lE K W f) acc σ H fun out H1 => Q (.str out) H1
  | [], acc, g, ρ, w, H, hK, r, e, q => q _ H g (Xt.refl _) r (.str _)
  | f :: fs, acc, g, ρ, w, H, hK, r, e, q => by
    have q' : oX W σ Dq g Q ((f ρ w).bind fun d w1 => (match d with
      | .str y => Oc.on (szOk (acc ++ y).length) (jsF fs (acc ++ y) ρ w1)
      | _ => .no : Oc Str).bind fun s w1 => .ok (.str s) w1) := by
      unfold jsF at q
      cases hz : f ρ w with
      | ok d w1 => rw [hz] at q; exact q
      | ex c fs' w1 => rw [hz] at q; exact q
      | no => rw [hz] at q; exact q
    refine lX_bind hK r e q' fun v H1 g1 d w1 x r1 e1 dv z => ?_
    cases dv with
    | str y =>
      simp only at z
      cases hb : szOk (acc ++ y).length with
      | false => rw [hb] at z; exact z.elim
      | true =>
        rw [hb] at z
        exact ⟨y, rfl, of_decide_eq_true hb, js_of fs (acc ++ y) g1 ρ w1 H1 (x.k.trans hK) r1 e1 z⟩
    | _ => exact z.elim
theorem pf_joined {v1 v2 : Expr} {rest : List Expr} {fs : List FE} {pos : Pos} (h : PJf X W (v1 :: v2 :: rest) fs) : PF X W (.JoinedStr (v1 :: v2 :: rest) pos) (eJs fs) :=
  pe_imp (pe_joined h.pj) fun σ H Q ⟨g, ρ, w, hK, r, e, q⟩ => js_of fs Str.empty g ρ w H hK r e q

/-! ### s.join(xs) -/
def strsOf : List PyData → Option (List Str)
  | [] => some []
  | .str s :: r => (strsOf r).map (s :: ·)
  | _ :: _ => none
theorem strsOf_ok {g : Gd} : ∀ {vs : List V} {ds : List PyData} {ss : List Str}, DqA g vs ds → strsOf ds = some ss → vs = ss.map V.str
  | _, _, _, .nil, e => by cases e; rfl
  | _, _, _, .cons h t, e => by
    cases h with
    | str s =>
      obtain ⟨ss, hs, rfl⟩ := Option.map_eq_some_iff.mp e
      rw [strsOf_ok t hs]
      rfl
    | _ => cases e
def seqOf (w : Ws) : PyData → Option (List PyData)
  | .tuple ds => some ds
  | d => lstOf w d
def joinD (w : Ws) (a b : PyData) : Option PyData := match a with
  | .str s => match (seqOf w b).bind strsOf with
    | some ys => if decide ((ys.map (·.length)).sum + ys.length * s.length ≤ 16777216) then some (.str (Txt.join s ys)) else none
    | none => none
  | _ => none
theorem seqOf_ok {g : Gd} {H : Hp} {w : Ws} (r : Rp g H w) {v : V} {d : PyData} (h : Dq g v d) {ds : List PyData} (e : seqOf w d = some ds) : ∃ a xs, v = .ref a ∧ (SqL g.K H a xs ∨ SqT g.K H a xs) ∧ DqA g xs ds := by
  unfold seqOf at e
  split at e
  · cases e
    cases h with
    | tup a b => exact ⟨_, _, rfl, .inr (r.sqT a), b⟩
  · obtain ⟨a, xs, e1, e2, e3⟩ := lstOf_ok r h e
    exact ⟨a, xs, e1, .inl e2, e3⟩
def eJn (fo fe : FE) : FE := fun ρ w => (fo ρ w).bind fun a w1 => Oc.on (match a with | .str _ => true | _ => false) ((fe ρ w1).bind fun b w2 => Oc.of (joinD w2 a b) w2)
theorem pf_join {o e : Expr} {fo fe : FE} {apos pos : Pos} (ho : PF X W o fo) (he : PF X W e fe) (hs : starEach [e] X.env = [(false, eval e X.env)] := by rfl) (hbase : attributeBase o "join" X.env (eval o X.env) = eval o X.env := by rfl) (hline : (apos.endLine == pos.line) = true := by rfl) :
    PF X W (.Call (.Attribute o "join" apos) [e] [] pos) (eJn fo fe) := by
  refine pe_imp (pe_join ho he hs hbase hline) fun σ H Q ⟨g, ρ, w, hK, r, e, q⟩ => ?_
  refine lX_bind hK r e q fun v H1 g1 d w1 x r1 e1 dv z => ?_
  obtain ⟨hb, z⟩ := z.on
  cases dv with
  | str s =>
    refine ⟨⟨_, rfl⟩, ?_⟩
    refine lX_bind (x.k.trans hK) r1 e1 z fun u H2 g2 b w2 x2 r2 e2 du z2 => ?_
    unfold joinD at z2
    simp only at z2
    cases hz : (seqOf w2 b).bind strsOf with
    | none => rw [hz] at z2; exact z2.elim
    | some ys =>
      rw [hz] at z2
      simp only at z2
      split at z2
      · rename_i hl
        obtain ⟨ds, h1, h2⟩ := Option.bind_eq_some_iff.mp hz
        obtain ⟨a, xs, rfl, sq, da⟩ := seqOf_ok r2 du h1
        have ex := strsOf_ok da h2
        subst ex
        have hK2 := x2.k.trans (x.k.trans hK)
        exact ⟨s, a, ys, rfl, rfl, hK2 ▸ sq, of_decide_eq_true hl, z2 _ H2 g2 (Xt.refl _) r2 (.str _)⟩
      · exact z2.elim
  | _ => cases hb
/-! ### str(x) of a text, too -/
def toStrT (w : Ws) : List PyData → Option PyData
  | [.str z] => some (.str z)
  | ds => toStr w ds
theorem call_strT : CallR X (.type "str") (rDN X.K toStrT) := by
  intro pins s σ H xs us Q I rv ⟨g, w, ds, z, hK, r, dx, hz, q⟩
  unfold toStrT at hz
  split at hz
  · cases dx with
    | cons d0 dn =>
      cases dn; cases d0; cases hz
      obtain ⟨u, rfl, rb⟩ := vals1 rv
      obtain ⟨t, rfl⟩ := rb
      exact PySem.P.str_of_str ⟨.str _, H, I, ⟨t, rfl⟩, q _ H g (Xt.refl g) r (.str _)⟩
  · exact call_strX pins s σ H _ us Q I rv ⟨g, w, ds, z, hK, r, dx, hz, q⟩
/-! ### xs * k of a list -/
def mulL (w : Ws) (d e : PyData) : Option PyData := match lstOf w d, e with
  | some xs, .int k => if decide (0 ≤ k ∧ k < 2 ^ 20 ∧ xs.length * k.toNat ≤ 16777216) then some (.list (List.replicate k.toNat xs).flatten) else none
  | _, _ => none
theorem op_mulL : OpR X (binaryOp .Mult) (rD2 X.K mulL) := by
  intro pins s σ H x y v u Q I rx ry ⟨g, w, d, e, z, hK, r, dx, dy, hz, q⟩
  unfold mulL at hz
  split at hz
  · rename_i ds k hl
    split at hz
    · rename_i hs
      cases hz
      cases dy
      obtain ⟨h1, h2, h3⟩ := of_decide_eq_true hs
      obtain ⟨a, xs, rfl, sq, da⟩ := lstOf_ok r dx hl
      cases rx
      obtain ⟨t, rfl⟩ := ry
      obtain ⟨its, rv, ⟨⟨c1, d1, t1, s1⟩, n1, g1, hc1, hd1, ht1⟩, _⟩ := I.list (hK ▸ sq)
      simp only at hc1 hd1 ht1
      subst hc1 hd1 ht1
      have hlen := rv.length
      have hsz : its.toArray.size * k.toNat ≤ 16777216 := by rw [List.size_toArray, ← hlen, da.length]; exact h3
      refine wpAny_binaryOp_repeat_ref (T := "list") (U := "int") (by decide) ⟨_, g1, rfl⟩ (fun s' => typeIs_int s' k t) noFill_list_mul F.fills_int_mul F.slot_int_rmul repeat_list F.slot_int_index.lookup ?_
      refine call_meets F.slot_int_rmul (typeIs_int s k t) F.entry_int_rmul (F.args_int_rmul_2 _ _) (lm_int_rmul_list_any k t a its.toArray n1 none s1) ⟨g1, rfl, ⟨_, g1, rfl⟩, ?_⟩
      refine call_meets F.slot_list_mul ⟨_, g1, rfl⟩ F.entry_list_mul (F.args_list_mul_2 _ _) (lm_list_mul_any a its.toArray n1 none s1 k t (by simp [Builtin.List.listFitsIndex]; omega) (by omega) (by simp [Builtin.List.listTooLong, sizeLine]; simpa using hsz)) ⟨g1, ?_⟩
      have hnew : List.foldl (fun x1 x2 => x1 ++ x2) #[] (List.replicate (if its.toArray.isEmpty = true then 0 else k.toNat) its.toArray) = (List.replicate k.toNat its).flatten.toArray := listMul_foldl_if _ _
      rw [hnew]
      have hz2 : (List.replicate k.toNat xs).flatten.length ≤ sizeLine := by
        rw [lm_len_rep_flat, Nat.mul_comm, sizeLine_eq, da.length]; exact h3
      have hp : H s.heap.objs.size = none := I.fresh
      exact ⟨.ref _, _, I.lnew (t' := s.toks) (rv.rep k.toNat) hz2, rfl, q _ _ _ (Xt.put (r.fnone hp)) (r.put hp) (newL r hp (da.rep _))⟩
    · cases hz
  · cases hz
end
/-! ### enumerate(text) -/
def Ites (z : Str) : It := ⟨fun i _ => i < z.cps.size, fun i H v H' => ∃ T c, v = .ref T ∧ H T = none ∧ z.cps[i]? = some c ∧ H' = upd H T (.tup [.int (i : Nat), .str ⟨#[c]⟩]), fun i _ => i = z.cps.size⟩
theorem turn_enumS {P : Program} {w : World} {K : PySem.W.Frag} {elts : List Expr} {kk : Nat} {tpos : Pos} (z : Str) (t : Tok) (e it : Addr) :
    Turn P w K (.Tuple elts kk tpos) (Ites z) [e, it] e (fun i h => (∃ old, IsEnum h e it ((i : Nat) : Int) old) ∧ h.IsStrIter it (strIterType z) z t i ∧ e ≠ it) where
  mem := by simp
  obj := fun i h ⟨⟨old, he⟩, ⟨o, ho, hc, hd⟩, _⟩ b hb => by
    rcases (by simpa using hb : b = e ∨ b = it) with q | q
    · subst q; exact ⟨_, he, fun v q => nomatch q⟩
    · subst q; exact ⟨o, ho, fun v q => by rw [hd] at q; cases q⟩
  keep := fun i h h' ⟨⟨old, he⟩, ⟨o, ho, hr⟩, hne⟩ k => ⟨⟨old, k e (by simp) _ he⟩, ⟨o, k it (by simp) _ ho, hr⟩, hne⟩
  item := by
    intro X hP hw hK hc i pins s σ H E I hf st hg
    subst hP hw hK
    obtain ⟨⟨old, he⟩, hit, hne⟩ := st
    have hel : e < s.heap.objs.size := Heap.lt_size he
    have hil : it < s.heap.objs.size := by obtain ⟨_, q, _⟩ := hit; exact Heap.lt_size q
    have hlt : i < z.cps.size := hg
    refine wpAny_pyNext_enum_itemD (Draws.text (A := X.A.in1) (I.ok.hd hc) it z t) he hit hlt hne (by simp [hne]) fun x h' tk hP ho hit' hT hsz hk => ?_
    obtain ⟨c, u, hcc, rfl⟩ := hP
    refine ⟨_, rfl, wpAny_letOwnedTupleGo_enum (s := { s with heap := h', toks := tk + 1 }) ho fun h'' he' sb => ?_⟩
    have hT2 : h''.get? s.heap.objs.size = some { cls := .type "tuple", data := .seq #[.int i tk, .str ⟨#[c]⟩ u] } := (sb.2 _ (Nat.ne_of_gt hel)).trans hT
    have new : ObjOk X.prog X.w (upd H s.heap.objs.size (.tup [.int (i : Nat), .str ⟨#[c]⟩])) h'' s.heap.objs.size (.tup [.int (i : Nat), .str ⟨#[c]⟩]) :=
      ⟨by show 2 ≤ sizeLine; decide, _, .cons ⟨tk, rfl⟩ (.cons ⟨u, rfl⟩ .nil), ⟨_, hT2, rfl, _, rfl⟩⟩
    have J : Inv X pins σ (upd H s.heap.objs.size (.tup [.int (i : Nat), .str ⟨#[c]⟩])) { s with heap := h'', toks := tk + 1 } :=
      I.turnedNew (ch := [e, it]) (fun b ob hb q => (sb.2 b (fun y => hb (by simp [y]))).trans (hk b ob (fun y => hb (by simp [y])) (fun y => hb (by simp [y])) q)) hf (Nat.le_refl _) new
    refine ⟨.ref s.heap.objs.size, _, J, rfl, ⟨_, c, rfl, I.hok.fresh (Nat.le_refl _), hcc, rfl⟩, ⟨⟨.str ⟨#[c]⟩ u, ?_⟩, ?_, hne⟩, fun b hb => ?_⟩
    · rw [show ((i + 1 : Nat) : Int) = (i : Int) + 1 by omega]; exact he'
    · obtain ⟨o, ho', hr⟩ := hit'
      exact ⟨o, (sb.2 it (Ne.symm hne)).trans ho', hr⟩
    · have hb' : b < s.heap.objs.size := by
        rcases (by simpa using hb : b = e ∨ b = it) with y | y
        · subst y; exact hel
        · subst y; exact hil
      rw [upd_ne (Nat.ne_of_lt hb')]
      exact (hf b hb).1
  done := by
    intro X hP hw hK hc i pins s σ H E I hf st hg
    subst hP hw hK
    obtain ⟨⟨old, he⟩, hit, hne⟩ := st
    obtain ⟨f0, f1, f2, f3, f4, f5⟩ := hf it (by simp)
    have hi : i = z.cps.size := hg
    subst hi
    exact wpAny_pyNext_enum_endD (Draws.text (A := X.A.in1) (I.ok.hd hc) it z t) he hit fun h' eb => ⟨rfl, I.turned (t' := s.toks) (fun b o hb q => eb b o hb q) f0 f1 f3 f4 f5⟩
  self := fun A i s Q E ⟨⟨_, he⟩, _⟩ h => wpAny_pyIter_enum he h
/-- for k, c in enumerate(x): a list, a text -/
def enD (i : Nat) : List PyData → List PyData
  | [] => []
  | d :: ds => .tuple [.int (i : Nat), d] :: enD (i + 1) ds
theorem enD_len : ∀ (ds : List PyData) (i : Nat), (enD i ds).length = ds.length
  | [], _ => rfl
  | _ :: ds, i => congrArg (· + 1) (enD_len ds (i + 1))
theorem enD_get : ∀ (ds : List PyData) (i j : Nat) (d : PyData), ds[j]? = some d → (enD i ds)[j]? = some (.tuple [.int ((i + j : Nat) : Int), d])
  | [], _, _, _, h => by simp at h
  | _ :: _, i, 0, d, h => by simp at h; simp [enD, h]
  | _ :: ds, i, j + 1, d, h => by
    have := enD_get ds (i + 1) j d (by simpa using h)
    rw [show i + 1 + j = i + (j + 1) by omega] at this
    simpa [enD] using this
theorem wk_enS {g : Gd} {z : Str} : WkD (Ites z) g (enD 0 (chD z)) where
  stop := fun g' H w x r => by show _ = _; rw [enD_len]; simp [chD]
  go := fun g' H w i x r hi => by rw [enD_len] at hi; show i < z.cps.size; simpa [chD] using hi
  yld := fun g' H w i v H2 x r hi y => by
    obtain ⟨T, c, rfl, hT, hc, rfl⟩ := y
    have hd : (chD z)[i]? = some (.str ⟨#[c]⟩) := by simp [chD, hc]
    have he := enD_get (chD z) 0 i _ hd
    rw [Nat.zero_add] at he
    exact ⟨g'.put T (.tup [.int (i : Nat), .str ⟨#[c]⟩]), _, he, Xt.put (r.fnone hT), r.put hT, newT r hT (.cons (.int _) (.cons (.str _) .nil))⟩
theorem wk_enL {g : Gd} {a : Addr} {xs : List V} {ds : List PyData} (h : SqL g.K g.F a xs) (d : DqA g xs ds) : WkD (Ite g.K a) g (enD 0 ds) where
  stop := fun g' H w x r => by
    rw [enD_len, ← d.length]
    exact walk_enum.stops H (x.k ▸ r.sqL (x.sqL h))
  go := fun g' H w i x r hi => walk_enum.goes i H (by rw [enD_len, ← d.length] at hi; exact hi) (x.k ▸ r.sqL (x.sqL h))
  yld := fun g' H w i v H2 x r hi y => by
    rw [enD_len] at hi
    obtain ⟨T, u, b, rfl, hT, rfl, ha, hb⟩ := walk_enum.yields i H v H2 (by rw [d.length]; exact hi) (x.k ▸ r.sqL (x.sqL h)) y
    have hd := List.getElem?_eq_getElem hi
    obtain ⟨b', h3, h4⟩ := d.get hd
    have hb : xs[i]? = some b := hb
    have ha : some (V.int (i : Nat)) = some u := ha
    rw [hb] at h3
    cases h3
    cases ha
    have he := enD_get ds 0 i _ hd
    rw [Nat.zero_add] at he
    exact ⟨g'.put T (.tup [.int (i : Nat), b]), _, he, Xt.put (r.fnone hT), r.put hT, newT r hT (.cons (.int _) (.cons (h4.mono x _ _) .nil))⟩
def iEn (fa : FA) : FA := fun ρ w => (fa ρ w).bind fun ds w1 => match ds with
  | [.str z] => .ok (enD 0 (chD z)) w1
  | [.list xs] => .ok (enD 0 xs) w1
  | _ => .no
section
variable {X : Cx} {W : WX}
def iEnA (K : PySem.W.Frag) (ta : TA) : TI := fun σ H R => ta σ H fun vs H1 => (∃ z, vs = [.str z] ∧ R (Ites z) H1) ∨ ∃ a xs, vs = [.ref a] ∧ SqL K H1 a xs ∧ R (Ite K a) H1
theorem pi_enA {e : Expr} {ta : TA} {p pos tpos : Pos} {elts : List Expr} {kk : Nat} (hg : Gl X "enumerate") (hm : X.mg "enumerate" = none) (ha : PA X [e] ta) (hs : starEach [e] X.env = [(false, eval e X.env)] := by rfl) : PI X (.Tuple elts kk tpos) (.Call (.Name "enumerate" p) [e] [] pos) (iEnA X.K ta) := by
  refine ⟨fun pins s σ H R I h => ?_⟩
  refine Call_ (ld_blt I hg hm boot_enumerate (PyProof.Rows.callWith_type1 (thn (ha.run pos pins s σ H _ I h) fun us s1 hv => ?_) hs rfl))
  obtain ⟨vs, H1, I1, r1, q1⟩ := hv
  have apart : ∀ b, b ∈ [s1.heap.objs.size + 1, s1.heap.objs.size] → FpOk X pins H1 b := fun b hb => by
    have hle : s1.heap.objs.size ≤ b := by
      rcases (by simpa using hb : b = s1.heap.objs.size + 1 ∨ b = s1.heap.objs.size) with y | y
      · rw [y]; exact Nat.le_add_right _ _
      · rw [y]; exact Nat.le_refl _
    exact I1.fpOk hle (I1.hok.fresh hle)
  rcases q1 with ⟨z, rfl, q⟩ | ⟨a, xs, rfl, hq, q⟩
  · obtain ⟨u, rfl, ⟨t, rfl⟩⟩ := vals1 r1
    refine call_enumerate_str fun h' he hit hsz hk => wpAny_pyIter_enum he ?_
    exact ⟨_, [s1.heap.objs.size + 1, s1.heap.objs.size], _, _, H1, rfl, I1.kept (t' := s1.toks) hk, turn_enumS z t _ _, ⟨⟨.none, he⟩, hit, Nat.succ_ne_self _⟩, apart, q⟩
  · obtain ⟨u, rfl, ru⟩ := vals1 r1
    cases ru
    obtain ⟨its, rv, pl, hz⟩ := I1.list hq
    refine call_enumerate_list pl.isList fun h' he hit hsz hk => wpAny_pyIter_enum he ?_
    exact ⟨_, [s1.heap.objs.size + 1, s1.heap.objs.size], _, _, H1, rfl, I1.kept (t' := s1.toks) hk, turn_enum a _ _, ⟨⟨.none, he⟩, hit, Nat.succ_ne_self _⟩, apart, q⟩
theorem pif_enum {e : Expr} {fa : FA} {p pos tpos : Pos} {elts : List Expr} {kk : Nat} (hg : Gl X "enumerate") (hm : X.mg "enumerate" = none) (ha : PAf X W [e] fa) (hs : starEach [e] X.env = [(false, eval e X.env)] := by rfl) : PIf X W (.Tuple elts kk tpos) (.Call (.Name "enumerate" p) [e] [] pos) (iEn fa) := by
  refine pi_imp (pi_enA hg hm ha hs) fun σ H R ⟨g, ρ, w, hK, r, e, q⟩ => ?_
  refine lX_bind hK r e q fun v H1 g1 d w1 x r1 e1 dv z => ?_
  have hK1 := x.k.trans hK
  split at z
  · cases dv with
    | cons d0 dn =>
      cases dn; cases d0
      exact .inl ⟨_, rfl, z _ H1 g1 (Xt.refl _) r1 wk_enS⟩
  · cases dv with
    | cons d0 dn =>
      cases dn
      cases d0 with
      | lst sq da => exact .inr ⟨_, _, rfl, hK1 ▸ r1.sqL sq, hK1 ▸ z _ H1 g1 (Xt.refl _) r1 (wk_enL sq da)⟩
  · exact z.elim
/-- nothing is said of what cannot come -/
theorem psf_no {st : Stmt} : PSf X W st (fun _ _ => .no) := ⟨fun pins s σ H D I ⟨g, ρ, w, hK, r, e, q⟩ => q.elim⟩
end
end Td

set_option Elab.async false
set_option linter.all false
set_option maxRecDepth 100000
set_option maxHeartbeats 4000000
namespace Td
open PySem L2 PySem.Spec PyProof.Rows
/-! ### how a call puts its values: 0 by position, 1 by keyword, 2 a default -/
def pick {α : Type} (us mv ws : List α) : Nat → Nat → Option α
  | 0, i => us[i]?
  | 1, i => ws[i]?
  | _, i => mv[i]?
def arr {α : Type} : List (Nat × Nat) → List α → List α → List α → List α
  | [], _, _, _ => []
  | (t, i) :: r, us, mv, ws => match pick us mv ws t i with
    | some x => x :: arr r us mv ws
    | none => arr r us mv ws
theorem vals_opt {vs : List V} {us : List Value} (h : Vals vs us) (i : Nat) : (vs[i]? = none ∧ us[i]? = none) ∨ ∃ v u, vs[i]? = some v ∧ us[i]? = some u ∧ RelV v u := by
  by_cases hi : i < vs.length
  · obtain ⟨u, hu, r⟩ := h.get (List.getElem?_eq_getElem hi)
    exact .inr ⟨_, u, List.getElem?_eq_getElem hi, hu, r⟩
  · exact .inl ⟨List.getElem?_eq_none (by omega), List.getElem?_eq_none (by rw [← h.length]; omega)⟩
theorem arr_vals {vs mz zs : List V} {us mv ws : List Value} (h1 : Vals vs us) (h2 : Vals mz mv) (h3 : Vals zs ws) : ∀ srcs : List (Nat × Nat), Vals (arr srcs vs mz zs) (arr srcs us mv ws)
  | [] => .nil
  | (t, i) :: r => by
    have ih := arr_vals h1 h2 h3 r
    have pk : (pick vs mz zs t i = none ∧ pick us mv ws t i = none) ∨ ∃ v u, pick vs mz zs t i = some v ∧ pick us mv ws t i = some u ∧ RelV v u := match t with
      | 0 => vals_opt h1 i
      | 1 => vals_opt h3 i
      | _ + 2 => vals_opt h2 i
    rw [arr, arr]
    rcases pk with ⟨e1, e2⟩ | ⟨v, u, e1, e2, q⟩
    · rw [e1, e2]; exact ih
    · rw [e1, e2]; exact .cons q ih
theorem dqa_opt {g : Gd} {vs : List V} {us : List PyData} (h : DqA g vs us) (i : Nat) : (vs[i]? = none ∧ us[i]? = none) ∨ ∃ v u, vs[i]? = some v ∧ us[i]? = some u ∧ Dq g v u := by
  by_cases hi : i < us.length
  · obtain ⟨v, hv, r⟩ := h.get (List.getElem?_eq_getElem hi)
    exact .inr ⟨v, _, hv, List.getElem?_eq_getElem hi, r⟩
  · exact .inl ⟨List.getElem?_eq_none (by rw [h.length]; omega), List.getElem?_eq_none (by omega)⟩
theorem arr_dqa {g : Gd} {vs mz zs : List V} {us mv ws : List PyData} (h1 : DqA g vs us) (h2 : DqA g mz mv) (h3 : DqA g zs ws) : ∀ srcs : List (Nat × Nat), DqA g (arr srcs vs mz zs) (arr srcs us mv ws)
  | [] => .nil
  | (t, i) :: r => by
    have ih := arr_dqa h1 h2 h3 r
    have pk : (pick vs mz zs t i = none ∧ pick us mv ws t i = none) ∨ ∃ v u, pick vs mz zs t i = some v ∧ pick us mv ws t i = some u ∧ Dq g v u := match t with
      | 0 => dqa_opt h1 i
      | 1 => dqa_opt h3 i
      | _ + 2 => dqa_opt h2 i
    rw [arr, arr]
    rcases pk with ⟨e1, e2⟩ | ⟨v, u, e1, e2, q⟩
    · rw [e1, e2]; exact ih
    · rw [e1, e2]; exact .cons q ih
/-- no default is missing -/
theorem kbD_plain {K : PySem.W.Frag} {fd : FuncData} {ps ks : List Str} {n : Nat} (srcs : List (Nat × Nat)) (h : ∀ us ws : List Value, us.length = n → ws.length = ks.length → bindArgs fd ⟨us, ks.zip ws⟩ = pure (ps.zip (arr srcs us [] ws))) : KbD K fd ps n ks (fun as bs => arr srcs as [] bs) :=
  ⟨fun us ws => arr srcs us [] ws, fun vs zs => arr srcs vs [] zs, ⟨fun s us ws _ h1 h2 => .of_eq (h us ws h1 h2), fun r1 r2 => arr_vals r1 .nil r2 srcs⟩, fun G vs zs as bs d1 d2 _ _ => arr_dqa d1 .nil d2 srcs⟩
/-- ms: the keyword-only ones that lack -/
theorem kbD_kw {K : PySem.W.Frag} {x qual : Str} {params : Arguments} {body : List Stmt} {scope : Scope} {kws ms : List (Str × V)} {f : Addr} {fd : FuncData} {ps ks : List Str} {n : Nat} {des : List PyData} (srcs : List (Nat × Nat)) (F : FunD K x qual params body scope [] kws f fd) (hk : kws ≠ []) (hms : ∀ q ∈ ms, q ∈ kws) (hdd : ∀ G : Gd, DqA G (ms.map (·.2)) des)
    (h : ∀ (D : Addr) (doc pm : Value) (an : Option Addr) (cdv ct : Value) (us mv ws : List Value), us.length = n → mv.length = ms.length → ws.length = ks.length →
      KwChain D ((ms.map (·.1)).zip mv) (bindArgs (PySem.W.fnOf x qual params body scope .none (.ref D) doc pm an cdv ct) ⟨us, ks.zip ws⟩) (ps.zip (arr srcs us mv ws))) : KbD K fd ps n ks (fun as bs => arr srcs as des bs) := by
  obtain ⟨mv, kb⟩ := FunD.kbinds0 F n ks ms (fun {α} (us mv ws : List α) => arr srcs us mv ws) hk hms (fun h1 h2 h3 => arr_vals h1 h2 h3 srcs) h
  exact ⟨_, _, kb, fun G vs zs as bs d1 d2 _ _ => arr_dqa d1 (hdd G) d2 srcs⟩
/-- the body of a class -/
def cbody : Stmt → List Stmt
  | .ClassDef (body := b) .. => b
  | _ => []
/-- a def of the text whose parameters are not all by position -/
structure DefA (K : PySem.W.Frag) (mg : Str → Option Value) (x : Str) (st : Stmt) where
  f : Addr
  fd : FuncData
  fn : Fun K x x st f fd
  at_ : mg x = some (.ref f)
theorem Gx.gm {P : Program} {w : World} {K : PySem.W.Frag} {mg : Str → Option Value} {base : Heap} {k : Nat} {x : Str} {st : Stmt} {ps : List Str} {D : DefAt K mg x st ps} {gf : FF} (G : Gx P w K mg base k D gf) : Gm P w K mg base k D.f D.fd ps gf := ⟨G.fn, G.len⟩
theorem ga_of {P : Program} {w : World} {K : PySem.W.Frag} {mg : Str → Option Value} {base : Heap} {x : Str} {st : Stmt} {N ps : List Str} {k : Nat} {bf : FS} (D : DefA K mg x st) (S : FnScope N ps (defScope st))
    (hbody : ∀ (cdv : Value) (A : Around) (outer : List Env) (s : Shared) (H : Hp) (E : XK), Room k (A.deeper (envOfC x (defScope st) s.heap.objs.size D.f cdv)) → A.guards = some [] →
      PSsf (cxOf (CX P w) P w K mg base N x (defScope st) D.f cdv A outer s H E) (fun c d _ H => E c d H) (defBody st) bf) : Gm P w K mg base (k + 1) D.f D.fd ps (defF N.length ps.length bf) := gm_of D.fn S hbody
theorem funD_mk {K : PySem.W.Frag} {x qual : Str} {st : Stmt} {kws : List (Str × V)} {f D : Addr} {oc : Value} {od an : Option Addr} {osl : Array (Option Value)} {doc pm cdv ct : Value}
    (l : K.lookup f = some ⟨oc, od, .func (PySem.W.fnOf x qual (defArgs st) (defBody st) (defScope st) .none (.ref D) doc pm an cdv ct), osl⟩) (c : PySem.W.codeIn K cdv qual = true) (k : PySem.W.keepIn K (.ref f) = true) (hk : ∀ q ∈ kws, ∃ u, PySem.W.nsIn K D q.1 = some (some u) ∧ RelV q.2 u) :
    FunD K x qual (defArgs st) (defBody st) (defScope st) [] kws f (PySem.W.fnOf x qual (defArgs st) (defBody st) (defScope st) .none (.ref D) doc pm an cdv ct) :=
  ⟨⟨oc, od, .none, .ref D, doc, pm, an, cdv, ct, osl, rfl, l, c, .inl ⟨rfl, rfl⟩, .inr ⟨D, rfl, hk⟩⟩, k⟩
end Td

set_option Elab.async false
set_option linter.all false
set_option maxRecDepth 100000
set_option maxHeartbeats 4000000
/-! Plain facts that any law wants: data of a size, repr, stores, places. -/
namespace Td
open PySem L2
/-! ### data of a size -/
def ascS (z : Str) : Bool := z.cps.toList.all fun c => decide (c < 128)
mutual
def wt : PyData → Nat
  | .none => 1
  | .bool _ => 1
  | .int _ => 1
  | .str z => 1 + z.length
  | .list xs => 1 + wtA xs
  | .tuple xs => 1 + wtA xs
  | .dict _ => 1
def wtA : List PyData → Nat
  | [] => 0
  | x :: xs => wt x + wtA xs
end
def ten62 : Nat := 10 ^ 62
mutual
def okD : PyData → Bool
  | .none => true
  | .bool _ => true
  | .int i => decide (i.natAbs < ten62)
  | .str z => ascS z
  | .list xs => okDA xs
  | .tuple xs => okDA xs
  | .dict _ => false
def okDA : List PyData → Bool
  | [] => true
  | x :: xs => okD x && okDA xs
end
theorem okDA_iff : ∀ {xs : List PyData}, okDA xs = true ↔ ∀ x ∈ xs, okD x = true
  | [] => by simp [okDA]
  | x :: xs => by simp [okDA, okDA_iff (xs := xs)]
theorem okDA_app {a b : List PyData} : okDA (a ++ b) = (okDA a && okDA b) := by
  induction a with
  | nil => simp [okDA]
  | cons x a ih => simp [okDA, ih, Bool.and_assoc]
theorem wtA_app : ∀ (a b : List PyData), wtA (a ++ b) = wtA a + wtA b
  | [], b => by simp [wtA]
  | x :: a, b => by simp only [List.cons_append, wtA, wtA_app a b]; omega
theorem wt_pos (d : PyData) : 1 ≤ wt d := by cases d <;> simp [wt] <;> omega
theorem len_wtA : ∀ a : List PyData, a.length ≤ wtA a
  | [] => Nat.le_refl _
  | x :: a => by have := len_wtA a; have := wt_pos x; simp only [List.length_cons, wtA]; omega
theorem wtA_mem {x : PyData} : ∀ {a : List PyData}, x ∈ a → wt x ≤ wtA a
  | y :: a, h => by
    simp only [wtA]
    rcases List.mem_cons.mp h with h | h
    · subst h; omega
    · have := wtA_mem h; omega
theorem depthAll_le {D : Nat} : ∀ {a : List PyData}, PyData.depthAll a ≤ D ↔ ∀ x ∈ a, x.depth ≤ D
  | [] => by simp [PyData.depthAll]
  | x :: a => by
    simp only [PyData.depthAll, List.mem_cons, forall_eq_or_imp]
    rw [Nat.max_le, depthAll_le (a := a)]
theorem depthAll_app : ∀ {a b : List PyData}, PyData.depthAll (a ++ b) = max (PyData.depthAll a) (PyData.depthAll b)
  | [], b => by simp [PyData.depthAll]
  | x :: a, b => by simp only [List.cons_append, PyData.depthAll, depthAll_app (a := a)]; omega
theorem asc_ok {z : Str} (h : ascS z = true) : PyData.strOk z = true := by
  unfold PyData.strOk
  unfold ascS at h
  rw [← Array.all_toList, List.all_eq_true] at *
  intro c hc
  have := of_decide_eq_true (h c hc)
  exact decide_eq_true (by omega)
mutual
theorem okD_lay : ∀ d : PyData, okD d = true → d.canLay0 = true
  | .none, _ => rfl
  | .bool _, _ => rfl
  | .int _, _ => rfl
  | .str z, h => by simpa [PyData.canLay0] using asc_ok (by simpa [okD] using h)
  | .list xs, h => by simpa [PyData.canLay0] using okDA_lay xs (by simpa [okD] using h)
  | .tuple xs, h => by simpa [PyData.canLay0] using okDA_lay xs (by simpa [okD] using h)
  | .dict _, h => by simp [okD] at h
theorem okDA_lay : ∀ xs : List PyData, okDA xs = true → PyData.canLayAll0 xs = true
  | [], _ => rfl
  | x :: xs, h => by
    have h' : okD x = true ∧ okDA xs = true := by simpa [okDA] using h
    simp [PyData.canLayAll0, okD_lay x h'.1, okDA_lay xs h'.2]
end
theorem int_short {i : Int} (h : i.natAbs < ten62) : (PyData.shown (.int i)).length ≤ 64 ∧ i.natAbs.log2 < 1920 := by
  constructor
  · have e := int_text_length_le10 (k := 62) (by decide) h
    show (Str.ofString (toString i)).length ≤ 64
    rw [ofString_length]
    omega
  · by_cases h0 : i.natAbs = 0
    · rw [h0]; decide
    · refine (Nat.log2_lt h0).mpr (Nat.lt_of_lt_of_le h ?_)
      unfold ten62
      decide +kernel
mutual
theorem okD_short : ∀ d : PyData, okD d = true → d.leavesShort 64 = true ∧ d.showable = true
  | .none, _ => ⟨rfl, rfl⟩
  | .bool b, _ => ⟨rfl, rfl⟩
  | .int i, h => by
    have hi : i.natAbs < ten62 := of_decide_eq_true (show decide (i.natAbs < ten62) = true by simpa only [okD] using h)
    obtain ⟨s1, s2⟩ := int_short hi
    exact ⟨by simp only [PyData.leavesShort]; exact decide_eq_true s1, by simp only [PyData.showable]; exact decide_eq_true s2⟩
  | .str z, h => by
    refine ⟨?_, by simp [PyData.showable]⟩
    simp only [PyData.leavesShort, List.all_eq_true, decide_eq_true_eq]
    intro c hc
    have h' : ascS z = true := by simpa [okD] using h
    unfold ascS at h'
    rw [List.all_eq_true] at h'
    have := of_decide_eq_true (h' c hc)
    omega
  | .list xs, h => by
    have := okDA_short xs (by simpa [okD] using h)
    exact ⟨by simpa [PyData.leavesShort] using this.1, by simpa [PyData.showable] using this.2⟩
  | .tuple xs, h => by
    have := okDA_short xs (by simpa [okD] using h)
    exact ⟨by simpa [PyData.leavesShort] using this.1, by simpa [PyData.showable] using this.2⟩
  | .dict _, h => by simp [okD] at h
theorem okDA_short : ∀ xs : List PyData, okDA xs = true → PyData.leavesShortAll 64 xs = true ∧ PyData.showableAll xs = true
  | [], _ => ⟨rfl, rfl⟩
  | x :: xs, h => by
    have h' : okD x = true ∧ okDA xs = true := by simpa [okDA] using h
    have h1 := okD_short x h'.1
    have h2 := okDA_short xs h'.2
    exact ⟨by simp [PyData.leavesShortAll, h1.1, h2.1], by simp [PyData.showableAll, h1.2, h2.2]⟩
end
mutual
theorem bulk_wt : ∀ d : PyData, okD d = true → d.bulk + 1 ≤ wt d
  | .none, _ => Nat.le_refl _
  | .bool b, _ => Nat.le_refl _
  | .int i, _ => Nat.le_refl _
  | .str z, _ => by simp only [PyData.bulk, wt, Str.length]; omega
  | .list xs, h => by
    have := bulk_wtA xs (by simpa only [okD] using h)
    simp only [PyData.bulk, wt]; omega
  | .tuple xs, h => by
    have := bulk_wtA xs (by simpa only [okD] using h)
    simp only [PyData.bulk, wt]; omega
  | .dict _, h => by simp [okD] at h
theorem bulk_wtA : ∀ xs : List PyData, okDA xs = true → PyData.bulkAll xs ≤ wtA xs
  | [], _ => Nat.le_refl _
  | x :: xs, h => by
    have h' : okD x = true ∧ okDA xs = true := by simpa only [okDA, Bool.and_eq_true] using h
    have h1 := bulk_wt x h'.1
    have h2 := bulk_wtA xs h'.2
    simp only [PyData.bulkAll, wtA]; omega
end
theorem shaped_of {d : PyData} (h : okD d = true) (hd : d.depth ≤ 64) : SeqAt.shaped d = true := by
  unfold SeqAt.shaped
  rw [okD_lay d h, Bool.true_and]
  exact decide_eq_true (by omega)
theorem repr_of {d : PyData} (w : Ws) (h : okD d = true) (hd : d.depth ≤ 64) (hw : wt d ≤ 200000) : reprD w [d] = some (.str d.shown) := by
  have s := okD_short d h
  have b := bulk_wt d h
  have l := PyData.shown_le_bulk 64 (by decide) d s.1
  have z : szOk d.shown.length = true := decide_eq_true (by rw [sizeLine_eq]; omega)
  simp only [reprD, shaped_of h hd, s.2, z, Bool.and_true, if_true]
/-! ### == of data -/
theorem strs_eq (a b : Str) : (a.cps.toList == b.cps.toList) = decide (a = b) := by
  by_cases h : a = b
  · subst h; simp
  · have : a.cps.toList ≠ b.cps.toList := fun e => h (by cases a; cases b; simp at e; simp [e])
    rw [decide_eq_false h]
    exact beq_eq_false_iff_ne.mpr this
theorem eqv_str (a b : Str) : PyData.eqv (.str a) (.str b) = decide (a = b) := by
  by_cases h : a = b
  · subst h
    simp [PyData.eqv]
  · simp only [PyData.eqv]
    first | exact (strs_eq a b).trans (by simp [h]) | simp [h] | (simp [h]; intro e; exact h (by cases a; cases b; simp_all))
theorem eqD_str (w : Ws) (a b : Str) : eqD w (.str a) (.str b) = some (.bool (decide (a = b))) := by
  unfold eqD
  split
  · rw [eqv_str]
  · simp only [strsE, strs_eq, id]
theorem neD_str (w : Ws) (a b : Str) : neD w (.str a) (.str b) = some (.bool (!decide (a = b))) := by
  unfold neD
  split
  · rw [eqv_str]
  · simp only [strsE, strs_eq]
theorem eqD_int (w : Ws) (a b : Int) : eqD w (.int a) (.int b) = some (.bool (decide (a = b))) := by
  unfold eqD
  rw [if_pos (by simp [SeqAt.shaped, PyData.canLay0, PyData.depth])]
  by_cases h : a = b <;> simp [PyData.eqv, h]
theorem neD_int (w : Ws) (a b : Int) : neD w (.int a) (.int b) = some (.bool (!decide (a = b))) := by
  unfold neD
  rw [if_pos (by simp [SeqAt.shaped, PyData.canLay0, PyData.depth])]
  by_cases h : a = b <;> simp [PyData.eqv, h]
/-! ### texts as lists of signs -/
def S (l : List Nat) : Str := ⟨l.toArray⟩
theorem S_cps (l : List Nat) : (S l).cps.toList = l := by simp [S]
theorem S_of (z : Str) : z = S z.cps.toList := by cases z; simp [S]
theorem S_len (l : List Nat) : (S l).length = l.length := by simp [S, Str.length]
theorem S_app (a b : List Nat) : S a ++ S b = S (a ++ b) := by
  show (⟨a.toArray ++ b.toArray⟩ : Str) = ⟨(a ++ b).toArray⟩
  simp
theorem S_inj {a b : List Nat} : S a = S b ↔ a = b := ⟨fun h => by have := congrArg (fun z : Str => z.cps.toList) h; simpa [S_cps] using this, fun h => by rw [h]⟩
theorem S_ne {t u : List Nat} (h : t ≠ u) : ¬ (S t = S u) := fun e => h (S_inj.mp e)
theorem strOk_S {n : List Nat} (h : ∀ c ∈ n, c < 128) : PyData.strOk (S n) = true := by
  unfold PyData.strOk
  rw [← Array.all_toList, S_cps, List.all_eq_true]
  intro c hc
  have := h c hc
  simp
  try omega
theorem asc_S {n : List Nat} : ascS (S n) = n.all fun c => decide (c < 128) := by simp [ascS, S_cps]
theorem chD_S (t : List Nat) : chD (S t) = t.map fun c => .str ⟨#[c]⟩ := by simp [chD, S_cps]
theorem S_one (c : Nat) : S [c] = ⟨#[c]⟩ := rfl
theorem szOk_of {n : Nat} (h : n ≤ 10000000) : szOk n = true := decide_eq_true (by rw [sizeLine_eq]; omega)
/-! ### places -/
theorem atI_nat {α : Type} {xs : List α} {k : Nat} {x : α} (h : xs[k]? = some x) : atI xs (k : Int) = some x := by
  have hk : k < xs.length := (List.getElem?_eq_some_iff.mp h).1
  unfold atI ixN
  simp [hk]
  exact (List.getElem?_eq_some_iff.mp h).2
theorem ixD_tup {w : Ws} {ds : List PyData} {i : Int} : ixD w (.tuple ds) (.int i) = atI ds i := rfl
theorem ixD_list {w : Ws} {ds : List PyData} {i : Int} : ixD w (.list ds) (.int i) = atI ds i := rfl
theorem ixD_rf {w : Ws} {q : Nat} {ds : List PyData} {i : Int} (h : w[q]? = some (.lst ds)) : ixD w (rf q) (.int i) = atI ds i := by
  simp [ixD, lstOf, h]
theorem ix_last (n : Nat) : ixN (n + 1) (-1) = some n := by
  simp [ixN]
  omega
theorem atI_last {α : Type} (a : List α) (x : α) : atI (a ++ [x]) (-1) = some x := by
  simp [atI, ix_last]
theorem lst_at {w : Ws} {q : Nat} {ds : List PyData} (h : w[q]? = some (.lst ds)) : lstOf w (rf q) = some ds := by
  simp [lstOf, h]
theorem lstOf_list {w : Ws} {ds : List PyData} : lstOf w (.list ds) = some ds := rfl
theorem upd_at {w : Ws} {q : Nat} {ds ys : List PyData} {d : PyData} {k : List PyData → Option (PyData × List PyData)} (h : w[q]? = some (.lst ds)) (hk : k ds = some (d, ys)) : updL w (rf q) k = some (d, w.set q (.lst ys)) := by
  simp [updL, locOf, h, hk]
theorem set_get {w : Ws} {l : Nat} {x : Ob} (hw : w[l]? = some x) (y : Ob) : (w.set l y)[l]? = some y := List.getElem?_set_self (List.getElem?_eq_some_iff.mp hw).1
theorem set_at {w : Ws} {l : Nat} {ob : Ob} (h : w[l]? = some ob) : w.set l ob = w := by
  obtain ⟨hl, e⟩ := List.getElem?_eq_some_iff.mp h
  rw [← e]
  exact List.set_getElem_self ..
/-! ### statements one behind the other -/
theorem seq_nx {f k : FS} {ρ ρ1 : Ev} {w w1 : Ws} (h : f ρ w = .nx ρ1 w1) : sSeq f k ρ w = k ρ1 w1 := by simp [sSeq, h]
theorem seq_rt {f k : FS} {ρ : Ev} {w w1 : Ws} {d : PyData} (h : f ρ w = .rt d w1) : sSeq f k ρ w = .rt d w1 := by simp [sSeq, h]
theorem seq_bk {f k : FS} {ρ ρ1 : Ev} {w w1 : Ws} (h : f ρ w = .bk ρ1 w1) : sSeq f k ρ w = .bk ρ1 w1 := by simp [sSeq, h]
theorem seq_ct {f k : FS} {ρ ρ1 : Ev} {w w1 : Ws} (h : f ρ w = .ct ρ1 w1) : sSeq f k ρ w = .ct ρ1 w1 := by simp [sSeq, h]
theorem seq_congr {f f' kk : FS} {ρ ρ' : Ev} {w w' : Ws} (h : f ρ w = f' ρ' w') : sSeq f kk ρ w = sSeq f' kk ρ' w' := by simp only [sSeq, h]
theorem wh_succ {t : FT} {body : FS} {n : Nat} {ρ : Ev} {w : Ws} : whL t body (n + 1) ρ w = (t ρ w).thenS ρ fun b w1 => cond b (match body ρ w1 with
    | .nx ρ2 w2 => whL t body n ρ2 w2
    | .ct ρ2 w2 => whL t body n ρ2 w2
    | .bk ρ2 w2 => .nx ρ2 w2
    | o => o) (.nx ρ w1) := rfl
theorem sz0 : szOk 0 = true := szOk_of (by omega)
theorem sz2 : szOk 2 = true := szOk_of (by omega)
/-! ### stores whose cells speak of no later ones -/
mutual
theorem bnd_mono {n m : Nat} (h : n ≤ m) : ∀ d : PyData, bnd n d = true → bnd m d = true
  | .none, _ => rfl
  | .bool _, _ => rfl
  | .int _, _ => rfl
  | .str _, _ => rfl
  | .list xs, b => by simpa [bnd] using bndA_mono h xs (by simpa [bnd] using b)
  | .tuple xs, b => by simpa [bnd] using bndA_mono h xs (by simpa [bnd] using b)
  | .dict kvs, b => by
    simp only [bnd] at b ⊢
    unfold bndK at b ⊢
    split at b
    · have := of_decide_eq_true b
      exact decide_eq_true (by omega)
    · cases b
theorem bndA_mono {n m : Nat} (h : n ≤ m) : ∀ xs : List PyData, bndA n xs = true → bndA m xs = true
  | [], _ => rfl
  | x :: xs, b => by
    have b' : bnd n x = true ∧ bndA n xs = true := by simpa [bndA] using b
    simp [bndA, bnd_mono h x b'.1, bndA_mono h xs b'.2]
end
theorem bndO_mono {n m : Nat} (h : n ≤ m) (ob : Ob) (b : bndO n ob = true) : bndO m ob = true := by
  cases ob with
  | lst xs => exact bndA_mono h _ b
  | dK kvs => exact bndA_mono h _ b
  | ins c fs => exact bndA_mono h _ b
  | dead => rfl
mutual
theorem bnd_okD {n : Nat} : ∀ d : PyData, okD d = true → bnd n d = true
  | .none, _ => rfl
  | .bool _, _ => rfl
  | .int _, _ => rfl
  | .str _, _ => rfl
  | .list xs, b => by simpa [bnd] using bndA_okD xs (by simpa [okD] using b)
  | .tuple xs, b => by simpa [bnd] using bndA_okD xs (by simpa [okD] using b)
  | .dict kvs, b => by simp [okD] at b
theorem bndA_okD {n : Nat} : ∀ xs : List PyData, okDA xs = true → bndA n xs = true
  | [], _ => rfl
  | x :: xs, b => by
    have b' : okD x = true ∧ okDA xs = true := by simpa [okDA] using b
    simp [bndA, bnd_okD x b'.1, bndA_okD xs b'.2]
end
def Cl (w : Ws) : Prop := w.all (bndO w.length) = true
theorem Cl.snoc {w : Ws} {ob : Ob} (h : Cl w) (b : bndO (w.length + 1) ob = true) : Cl (w ++ [ob]) := by
  unfold Cl at *
  rw [List.length_append, List.length_singleton, List.all_append, Bool.and_eq_true]
  refine ⟨?_, by simp [b]⟩
  rw [List.all_eq_true] at h ⊢
  exact fun x hx => bndO_mono (by omega) x (h x hx)
theorem Cl.set {w : Ws} {l : Nat} {ob : Ob} (h : Cl w) (b : bndO w.length ob = true) : Cl (w.set l ob) := by
  unfold Cl at *
  rw [List.length_set]
  rw [List.all_eq_true] at h ⊢
  intro x hx
  rcases List.mem_or_eq_of_mem_set hx with hx | rfl
  · exact h x hx
  · exact b
theorem trim_app {w v : Ws} (h : Cl w) : trimW w.length (w ++ v) = true := by
  unfold trimW
  rw [List.take_left, h]
  simp
theorem leave_trim {w v : Ws} {d : PyData} (h : Cl w) (b : bnd w.length d = true) : leave w.length (.rt d (w ++ v)) = .ok d w := by
  simp only [leave, trim_app h, b, Bool.and_self, if_true, List.take_left]
theorem leave_trimN {w v : Ws} {ρ : Ev} (h : Cl w) : leave w.length (.nx ρ (w ++ v)) = .ok .none w := by
  simp only [leave, trim_app h, if_true, List.take_left]
end Td

set_option Elab.async false
set_option linter.all false
set_option maxRecDepth 100000
set_option maxHeartbeats 4000000
namespace Td
open PySem L2 PySem.Spec PyProof.Rows
section
variable {X : Cx} {W : WX}
/-! ### (*t, e) -/
def aSt (fe : FE) (fa : FA) : FA := fun ρ w => (fe ρ w).bind fun d w1 => match seqOf w1 d with
  | some xs => (fa ρ w1).bind fun ys w2 => .ok (xs ++ ys) w2
  | none => .no
theorem paf_star {e : Expr} {es : List Expr} {p : Pos} {f : FE} {fr : FA} (ha : PF X W e f) (hr : PAf X W es fr) (hs : starEach (.Starred e p :: es) X.env = (true, eval e X.env) :: starEach es X.env := by rfl) : PAf X W (.Starred e p :: es) (aSt f fr) := by
  refine pa_imp (StX.pa_star ha hr hs) fun σ H Q ⟨g, ρ, w, hK, r, e, q⟩ => ?_
  refine lX_bind hK r e q fun v H1 g1 d w1 x r1 e1 dv z => ?_
  cases hq : seqOf w1 d with
  | none => rw [hq] at z; exact z.elim
  | some ds =>
    rw [hq] at z
    obtain ⟨a, xs, rfl, sq, da⟩ := seqOf_ok r1 dv hq
    have hK1 := x.k.trans hK
    refine ⟨a, xs, rfl, hK1 ▸ sq.symm, ?_⟩
    refine lX_bind hK1 r1 e1 z fun vs H2 g2 ys w2 x2 r2 e2 dvs z2 => ?_
    exact z2 _ H2 g2 (Xt.refl _) r2 ((da.mono x2.toXt0 _ _).append dvs)
/-! ### range(i, j, -1) -/
def dnD (lo hi : Int) : List PyData := (List.range (lo - hi).toNat).map fun i => .int (lo - (i : Nat))
theorem wk_dn {g : Gd} {lo hi : Int} : WkD (Itc lo (-1) (lo - hi).toNat) g (dnD lo hi) where
  stop := fun g' H w x r => by show (lo - hi).toNat ≤ _; simp [dnD]
  go := fun g' H w i x r hi' => by show i < (lo - hi).toNat; simpa [dnD] using hi'
  yld := fun g' H w i v H2 x r hi' y => by
    obtain ⟨rfl, e⟩ := y
    subst e
    have hi2 : i < (lo - hi).toNat := by simpa [dnD] using hi'
    refine ⟨g', .int (lo + (i : Nat) * -1), ?_, Xt.refl _, r, .int _⟩
    simp [dnD, hi2]
    omega
def iR3 (fa : FA) : FA := fun ρ w => (fa ρ w).bind fun ds w1 => match ds with
  | [.int i, .int j, .int c] => Oc.on (c62 i && c62 j && decide (c = -1)) (.ok (dnD i j) w1)
  | _ => .no
theorem pif_range3 {tg a b c : Expr} {fa : FA} {p pos : Pos} (hg : Gl X "range") (hm : X.mg "range" = none) (ha : PAf X W [a, b, c] fa)
    (hs : starEach [a, b, c] X.env = (false, eval a X.env) :: starEach [b, c] X.env := by rfl) (hpl : (backTo pos (starEach [b, c] X.env)).any (·.1) = false := by rfl) : PIf X W tg (.Call (.Name "range" p) [a, b, c] [] pos) (iR3 fa) := by
  refine pi_imp (pi_range3 hg hm ha hs hpl) fun σ H R ⟨g, ρ, w, hK, r, e, q⟩ => ?_
  refine lX_bind hK r e q fun v H1 g1 d w1 x r1 e1 dv z => ?_
  split at z
  · cases dv with
    | cons d0 dn =>
      cases d0
      cases dn with
      | cons d1 dn =>
        cases d1
        cases dn with
        | cons d2 dn =>
          cases d2
          cases dn
          obtain ⟨hb, z9⟩ := z.on
          rw [Bool.and_eq_true, Bool.and_eq_true] at hb
          have h1 := of_decide_eq_true hb.1.1
          have h2 := of_decide_eq_true hb.1.2
          have h3 := of_decide_eq_true hb.2
          subst h3
          exact ⟨_, _, _, _, rfl, RgC.neg (by omega) (by omega) (by omega) (by omega), z9 _ H1 g1 (Xt.refl _) r1 wk_dn⟩
  · exact z.elim
/-! ### sorted(d) -/
def txtK : List (Key × PyData) → Option (List Str)
  | [] => some []
  | (.inr x, _) :: r => (txtK r).map (x :: ·)
  | (.inl _, _) :: _ => none
theorem txtK_ok : ∀ {kvs : List (Key × PyData)} {ks : List Str}, txtK kvs = some ks → kvs.map (·.1) = ks.map Sum.inr
  | [], _, h => by cases h; rfl
  | (.inr x, _) :: r, _, h => by
    simp only [txtK] at h
    cases e : txtK r with
    | none => rw [e] at h; cases h
    | some ys => rw [e] at h; cases h; simp [txtK_ok e]
  | (.inl _, _) :: _, _, h => by simp [txtK] at h
def sortDk (w : Ws) : List PyData → Option PyData
  | [d] => match dkOf w d with
    | some kvs => match txtK kvs with
      | some ks => if decide (ks.length < 64) then some (.list ((srtS ks).map .str)) else none
      | none => none
    | none => none
  | _ => none
theorem KvR.keys {g : Gd} : ∀ {xs : List (Key × V)} {kvs : List (Key × PyData)}, KvR g xs kvs → xs.map (·.1) = kvs.map (·.1)
  | _, _, .nil => rfl
  | _, _, .cons h t => by simp only [List.map_cons]; rw [h.1, KvR.keys t]
theorem call_sortedDk (hc : X.calm = true) : CallR X (.builtin "sorted") (rDN X.K sortDk) := by
  intro pins s σ H xs us Q I rv ⟨g, w, ds, z, hK, r, dx, hz, q⟩
  refine call_sortedD hc pins s σ H xs us Q I rv ?_
  unfold sortDk at hz
  split at hz
  · split at hz
    · rename_i kvs hk
      split at hz
      · rename_i ks hks
        split at hz
        · rename_i hl
          cases hz
          cases dx with
          | cons d0 dn =>
            cases dn
            obtain ⟨l, ys, rfl, rfl, hw, hn, hH, kv⟩ := dkOf_ok r d0 hk
            refine ⟨_, ys, ks, rfl, .inl hH, (KvR.keys kv).trans (txtK_ok hks), of_decide_eq_true hl, fun zs p hp hs hn => ?_⟩
            rw [srtS_one hp hs]
            exact q _ _ _ (Xt.put (r.fnone hn)) (r.put hn) (newL r hn (dqA_strs _))
        · cases hz
      · cases hz
    · cases hz
  · cases hz
/-! ### xs[::-1], xs a list -/
def revL (w : Ws) (d : PyData) : Option PyData := (lstOf w d).map fun ds => .list ds.reverse
theorem pf_revL {o : Expr} {fo : FE} {k : Nat} {p2 p3 p4 pos : Pos} (ho : PF X W o fo) : PF X W (.Subscript o (.Slice none none (some (.UnaryOp .USub (.Constant (.int 1) k p3) p4)) p2) pos) (eU revL fo) := by
  refine pe_imp (pe_revL ho) fun σ H Q ⟨g, ρ, w, hK, r, e, q⟩ => ?_
  refine lX_bind hK r e q fun v H1 g1 d w1 x r1 e1 dv z => ?_
  unfold revL at z
  cases hq : lstOf w1 d with
  | none => rw [hq] at z; exact z.elim
  | some ds =>
    rw [hq] at z
    obtain ⟨a, xs, rfl, sq, da⟩ := lstOf_ok r1 dv hq
    exact ⟨a, xs, rfl, (x.k.trans hK) ▸ sq, fun p hp => z _ _ _ (Xt.put (r1.fnone hp)) (r1.put hp) (newL r1 hp da.reverse)⟩
/-! ### d.get(k, x), d.setdefault(k, x) -/
def eDg2 (fo fe fx : FE) : FE := fun ρ w => (fo ρ w).bind fun o w1 => Oc.on (dkOf w1 o).isSome ((fe ρ w1).bind fun e w2 => (fx ρ w2).bind fun d w3 => match (dkOf w3 o), keyD e with
  | some kvs, some k => .ok ((valD kvs k).getD d) w3
  | _, _ => .no)
theorem valD_none {g : Gd} {k : Key} : ∀ {xs : List (Key × V)} {kvs : List (Key × PyData)}, KvR g xs kvs → valD kvs k = none → valV xs k = none := fun {xs kvs} h e => by
  cases q : valV xs k with
  | none => rfl
  | some v =>
    exfalso
    have h1 : (xs.any fun kv => decide (kv.1 = k)) = true := by
      unfold valV at q
      cases f : xs.find? fun kv => decide (kv.1 = k) with
      | none => simp [f] at q
      | some a =>
        have := List.find?_some f
        exact List.any_eq_true.mpr ⟨a, List.mem_of_find?_eq_some f, this⟩
    rw [h.any] at h1
    obtain ⟨a, ha, ka⟩ := List.any_eq_true.mp h1
    unfold valD at e
    cases f : kvs.find? fun kv => decide (kv.1 = k) with
    | none => exact absurd ka (by have := List.find?_eq_none.mp f a ha; simpa using this)
    | some b => rw [f] at e; cases e
theorem pf_dget2 {o e f : Expr} {apos cpos : Pos} {fo fe fx : FE} (hu : X.A.units + 1 < cLine) (ho : PF X W o fo) (he : PF X W e fe) (hf : PF X W f fx) (m : M2 X o "get" apos e f cpos := by exact ⟨rfl, rfl, rfl, rfl⟩) : PF X W (.Call (.Attribute o "get" apos) [e, f] [] cpos) (eDg2 fo fe fx) := by
  refine pe_imp (pe_dget2 hu ho he hf m) fun σ H Q ⟨g, ρ, w, hK, r, e, q⟩ => ?_
  refine lX_bind hK r e q fun v H1 g1 d w1 x r1 e1 dv z => ?_
  obtain ⟨hb, z⟩ := z.on
  obtain ⟨kvs1, hk1⟩ := Option.isSome_iff_exists.mp hb
  obtain ⟨l, ys, rfl, rfl, hw, hn, hH, kv⟩ := dkOf_ok r1 dv hk1
  refine ⟨_, rfl, .inl ⟨ys, .inl hH⟩, ?_⟩
  refine lX_bind (x.k.trans hK) r1 e1 z fun v2 H2 g2 d2 w2 x2 r2 e2 dv2 z2 => ?_
  refine lX_bind (x2.k.trans (x.k.trans hK)) r2 e2 z2 fun v3 H3 g3 d3 w3 x3 r3 e3 dv3 z3 => ?_
  split at z3
  · rename_i kvs k hk hkey
    obtain ⟨l', ys', ev, er, hw', hn', hH', kv'⟩ := dkOf_ok r3 ((dv.mono x2.toXt0 _ _).mono x3.toXt0 _ _) hk
    have ek := keyD_ok (dv2.mono x3.toXt0 _ _) hkey
    rw [V.ref.inj ev]
    refine ⟨valV ys' k, .inl ⟨ys', k, .inl hH', ek, rfl⟩, ?_⟩
    cases hv : valD kvs k with
    | none =>
      rw [hv] at z3
      rw [valD_none kv' hv]
      exact z3 _ _ g3 (Xt.refl _) r3 dv3
    | some y =>
      rw [hv] at z3
      obtain ⟨v', e', d'⟩ := kv'.val hv
      rw [e']
      exact z3 _ _ g3 (Xt.refl _) r3 d'
  · exact z3.elim
def eSd (fo fe fx : FE) : FE := fun ρ w => (fo ρ w).bind fun o w1 => Oc.on (dkOf w1 o).isSome ((fe ρ w1).bind fun e w2 => (fx ρ w2).bind fun d w3 => match locOf o, dkOf w3 o, keyD e with
  | some l, some kvs, some k => Oc.on (decide (kvs.length < sizeLine)) (match valD kvs k with
    | some y => .ok y w3
    | none => .ok d (w3.set l (.dK (putD kvs k d))))
  | _, _, _ => .no)
theorem pf_setd {o e f : Expr} {apos cpos : Pos} {fo fe fx : FE} (ho : PF X W o fo) (he : PF X W e fe) (hf : PF X W f fx) (m : M2 X o "setdefault" apos e f cpos := by exact ⟨rfl, rfl, rfl, rfl⟩) : PF X W (.Call (.Attribute o "setdefault" apos) [e, f] [] cpos) (eSd fo fe fx) := by
  refine pe_imp (pe_dsetd ho he hf m) fun σ H Q ⟨g, ρ, w, hK, r, e, q⟩ => ?_
  refine lX_bind hK r e q fun v H1 g1 d w1 x r1 e1 dv z => ?_
  obtain ⟨hb, z⟩ := z.on
  obtain ⟨kvs1, hk1⟩ := Option.isSome_iff_exists.mp hb
  obtain ⟨l, ys, rfl, rfl, hw, hn, hH, kv⟩ := dkOf_ok r1 dv hk1
  refine ⟨_, rfl, .inl ⟨ys, .inl hH⟩, ?_⟩
  refine lX_bind (x.k.trans hK) r1 e1 z fun v2 H2 g2 d2 w2 x2 r2 e2 dv2 z2 => ?_
  refine lX_bind (x2.k.trans (x.k.trans hK)) r2 e2 z2 fun v3 H3 g3 d3 w3 x3 r3 e3 dv3 z3 => ?_
  split at z3
  · rename_i l' kvs k hl hk hkey
    obtain ⟨l2, ys', ev, er, hw', hn', hH', kv'⟩ := dkOf_ok r3 ((dv.mono x2.toXt0 _ _).mono x3.toXt0 _ _) hk
    have ek := keyD_ok (dv2.mono x3.toXt0 _ _) hkey
    have el : l' = l2 := by
      rw [er] at hl
      simp [locOf, rf] at hl
      exact hl.symm
    subst el
    obtain ⟨hz, z3⟩ := z3.on
    have hz := of_decide_eq_true hz
    rw [V.ref.inj ev]
    refine ⟨ys', k, hH', ek, by rw [kv'.length]; exact hz, fun v' hv' => ?_, fun hv' => ?_⟩
    · cases hv : valD kvs k with
      | none => rw [valD_none kv' hv] at hv'; cases hv'
      | some y =>
        rw [hv] at z3
        obtain ⟨v2', e', d'⟩ := kv'.val hv
        rw [e'] at hv'
        cases hv'
        exact z3 _ _ g3 (Xt.refl _) r3 d'
    · cases hv : valD kvs k with
      | some y =>
        obtain ⟨v2', e', d'⟩ := kv'.val hv
        rw [e'] at hv'
        cases hv'
      | none =>
        rw [hv] at z3
        refine z3 _ _ g3 (Xt.refl _) ?_ dv3
        exact r3.write hw' hn' (fun a b hb z => by rw [hH'] at hb; cases hb; cases z) ⟨hn', _, upd_same, kv'.put dv3⟩
  · exact z3.elim
/-! ### xs.extend(ys) -/
theorem extend_tup (l : Addr) (items : Array Value) (n : Nat) (b : Addr) (items2 : Array Value) (n2 : Nat) (dd : Option Addr) (sl : Array (Option Value)) (hs0 : ¬(!items.isEmpty && Builtin.List.listTooLong (items.size + items2.size)) = true) (hs1 : items.size ≤ sizeLine) (hs2 : items.size + items2.size ≤ sizeLine + 1) :
    Meets (Builtin.«list.extend» ⟨[.ref l, .ref b], []⟩) (fun _ R s => s.heap.get? l = some { cls := .type "list", dict := none, data := .seq items n, slots := #[] } ∧ s.heap.get? b = some { cls := .type "tuple", dict := dd, data := .seq items2 n2, slots := sl } ∧ R (.ok (.ret Value.none)) { s with heap := s.heap.update l (Obj.mapSeq fun x => x ++ items2), toks := s.toks }) :=
  .of_wp fun prog w A R s h => by
    obtain ⟨hp, g, d, tk, os⟩ := s; obtain ⟨hl, hb, h⟩ := h; have f1 := AutoSeq1.idx_int; have f2 := AutoSeq1.sub_tuple_tuple; have f3 := AutoSeq1.sub_list_list; have f4 := AutoSeq1.sub_tuple_list; have f5 := AutoSeq1.sub_list_tuple;
    have hz' : (items ++ items2).size ≤ sizeLine + 1 := by rw [Array.size_append]; exact hs2
    wp_walk using (wpAny_updateSeq hl rfl (hz := hs1) (_hz' := hz')), AutoSeq1.wpAny_loadPart' hl, AutoSeq1.wpAny_loadPart' hb; exact ⟨_, rfl, h⟩
def rExtA (K : PySem.W.Frag) : V → List V → Hp → VK → Prop := fun x vs H Q => ∃ l b xs zs, x = .ref l ∧ vs = [.ref b] ∧ H l = some (.lst xs) ∧ (SqL K H b zs ∨ SqT K H b zs) ∧ xs.length + zs.length ≤ sizeLine ∧ Q .non (upd H l (.lst (xs ++ zs)))
theorem extend_lst (l : Addr) (items : Array Value) (n : Nat) (b : Addr) (items2 : Array Value) (n2 : Nat) (sl : Array (Option Value)) (hs0 : ¬(!items.isEmpty && Builtin.List.listTooLong (items.size + items2.size)) = true) (hs1 : items.size ≤ sizeLine) (hs2 : items.size + items2.size ≤ sizeLine + 1) :
    Meets (Builtin.«list.extend» ⟨[.ref l, .ref b], []⟩) (fun _ R s => s.heap.get? l = some { cls := .type "list", dict := none, data := .seq items n, slots := #[] } ∧ s.heap.get? b = some { cls := .type "list", dict := none, data := .seq items2 n2, slots := sl } ∧ R (.ok (.ret Value.none)) { s with heap := s.heap.update l (Obj.mapSeq fun x => x ++ items2), toks := s.toks }) :=
  .of_wp fun prog w A R s h => by
    obtain ⟨hp, g, d, tk, os⟩ := s; obtain ⟨hl, hb, h⟩ := h; have f1 := AutoSeq1.idx_int; have f2 := AutoSeq1.sub_tuple_tuple; have f3 := AutoSeq1.sub_list_list; have f4 := AutoSeq1.sub_tuple_list; have f5 := AutoSeq1.sub_list_tuple;
    have hz' : (items ++ items2).size ≤ sizeLine + 1 := by rw [Array.size_append]; exact hs2
    wp_walk using (wpAny_updateSeq hl rfl (hz := hs1) (_hz' := hz')), AutoSeq1.wpAny_loadPart' hl, AutoSeq1.wpAny_loadPart' hb; exact ⟨_, rfl, h⟩
theorem mt_extA : MtM X "list.extend" (rExtA X.K) := by
  intro pins s σ H x vs v us Q I rx rv h
  obtain ⟨l, b, xs, zs, rfl, rfl, hH, hB, hz, q⟩ := h
  cases rx
  obtain ⟨u, rfl, ru⟩ := rv.one
  cases ru
  obtain ⟨z, its, n, r, hl, e⟩ := I.lstM hH
  have notLong : ∀ its2 : List Value, Vals zs its2 → ¬ (!its.toArray.isEmpty && Builtin.List.listTooLong (its.toArray.size + its2.toArray.size)) = true ∧ its.toArray.size ≤ sizeLine ∧ its.toArray.size + its2.toArray.size ≤ sizeLine + 1 := fun its2 r2 => by
    have h1 := r.length
    have h2 := r2.length
    have hsz : its.toArray.size + its2.toArray.size ≤ sizeLine := by rw [List.size_toArray, List.size_toArray]; omega
    refine ⟨?_, by omega, by omega⟩
    rw [notLongL hsz, Bool.and_false]
    exact Bool.false_ne_true
  rcases hB with hB | hB
  · obtain ⟨its2, r2, ⟨o2, n2, e2, c2, d2, dt2⟩, z2⟩ := I.list hB
    obtain ⟨cls, dict, data, slots⟩ := o2
    simp only at c2 d2 dt2
    subst c2 d2 dt2
    obtain ⟨h1, h2, h3⟩ := notLong its2 r2
    refine call_meets F.slot_list_extend ⟨_, e, rfl⟩ F.entry_list_extend (F.args_list_extend_2 _ _) (extend_lst l its.toArray n b its2.toArray n2 slots h1 h2 h3) ⟨e, e2, ?_⟩
    refine ⟨.non, _, I.lset (its' := its ++ its2) hH e (by simp) (r.append r2) ?_, rfl, q⟩
    rw [List.length_append]
    omega
  · obtain ⟨its2, r2, ⟨o2, e2, c2, n2, dt2⟩, z2⟩ := I.tuple hB
    obtain ⟨cls, dict, data, slots⟩ := o2
    simp only at c2 dt2
    subst c2 dt2
    obtain ⟨h1, h2, h3⟩ := notLong its2 r2
    refine call_meets F.slot_list_extend ⟨_, e, rfl⟩ F.entry_list_extend (F.args_list_extend_2 _ _) (extend_tup l its.toArray n b its2.toArray n2 dict slots h1 h2 h3) ⟨e, e2, ?_⟩
    refine ⟨.non, _, I.lset (its' := its ++ its2) hH e (by simp) (r.append r2) ?_, rfl, q⟩
    rw [List.length_append]
    omega
/-- xs.extend(e) -/
def eExt (fo fe : FE) : FE := fun ρ w => (fo ρ w).bind fun o w1 => Oc.on (lstOf w1 o).isSome ((fe ρ w1).bind fun d w2 => match seqOf w2 d with
  | some ys => match updL w2 o (fun xs => if xs.length + ys.length ≤ sizeLine then some (.none, xs ++ ys) else none) with
    | some (d, w3) => .ok d w3
    | none => .no
  | none => .no)
theorem pf_ext {o e : Expr} {fo fe : FE} {apos cpos : Pos} (ho : PF X W o fo) (he : PF X W e fe)
    (hbase : attributeBase o "extend" X.env (eval o X.env) = eval o X.env := by rfl) (hfew : ((backTo cpos (starEach [e] X.env)).all (fun x => !x.1) && (backToKw cpos (keywordEach [] X.env)).all (fun x => x.1.isSome) && decide ([e].length + ([] : List Keyword).length + (if ([] : List Keyword).isEmpty then 0 else 1) < 30)) = true := by rfl)
    (hline : (apos.endLine == cpos.line) = true := by rfl) (hs : starEach [e] X.env = (false, eval e X.env) :: starEach [] X.env := by rfl)
    (hplain : (backTo cpos (starEach [] X.env)).any (·.1) = false := by rfl) :
    PF X W (.Call (.Attribute o "extend" apos) [e] [] cpos) (eExt fo fe) := by
  refine pe_imp (pe_bm PySem.F.plainAttrs_list F.slot_list_extend F.type_list_extend mt_extA ho (pa_cons he pa_nil hs) hbase hfew hline hs hplain) fun σ H Q ⟨g, ρ, w, hK, r, e, q⟩ => ?_
  refine lX_bind hK r e q fun v H1 g1 d w1 x r1 e1 dv z => ?_
  obtain ⟨hb, z⟩ := z.on
  obtain ⟨ds, hds⟩ := Option.isSome_iff_exists.mp hb
  obtain ⟨a, xs, rfl, sq, da⟩ := lstOf_ok r1 dv hds
  have hK1 := x.k.trans hK
  refine ⟨.inl ⟨rfl, xs, hK1 ▸ sq⟩, ?_⟩
  refine lX_bind hK1 r1 e1 z fun v2 H2 g2 d2 w2 x2 r2 e2 dv2 z2 => ?_
  split at z2
  · rename_i ys hys
    obtain ⟨b, zs, rfl, sq2, db⟩ := seqOf_ok r2 dv2 hys
    split at z2
    · rename_i d' w3 hu
      obtain ⟨p, xs2, ds2, ys2, ep, hp, dx2, hk, hw⟩ := updL_ok r2 (dv.mono x2.toXt0 _ _) hu
      split at hk
      · rename_i hz
        cases hk
        rw [ep]
        refine ⟨p, b, xs2, zs, rfl, rfl, hp, (x2.k.trans hK1) ▸ sq2, by rw [dx2.length, db.length]; exact hz, z2 _ _ g2 (Xt.refl _) (hw _ (dx2.append db)) .non⟩
      · cases hk
    · exact z2.elim
  · exact z2.elim
end
end Td
namespace Td
open PySem L2 PySem.Spec PyProof.Rows
section
variable {X : Cx} {W : WX}
/-- a, b, c = e1, e2, e3 -/
def sPar3 (i j l : Nat) (fa : FA) : FS := fun ρ w => (fa ρ w).thenS ρ fun ds w1 => match ds with
  | [a, b, c] => .nx (((ρ.set i (some a)).set j (some b)).set l (some c)) w1
  | _ => .no
theorem psf_par3 {i j l : Nat} {x y z : Str} {a b c : Expr} {fa : FA} {px py pz pt pos : Pos} {kt k2 : Nat} {pt2 : Pos} (hc : X.calm = true) (hN : X.N.Nodup) (hi : X.N[i]? = some x) (hj : X.N[j]? = some y) (hl : X.N[l]? = some z) (hij : i ≠ j) (hil : i ≠ l) (hjl : j ≠ l)
    (hx : X.env.scope.names.lookup x = some .local) (hy : X.env.scope.names.lookup y = some .local) (hz : X.env.scope.names.lookup z = some .local) (ha : PAf X W [a, b, c] fa)
    (hw : swappedStores [.Tuple [.Name x px, .Name y py, .Name z pz] kt pt] (.Tuple [a, b, c] k2 pt2) X.env = pure (some [x, y, z]))
    (hs : swapsWithSole [.Tuple [.Name x px, .Name y py, .Name z pz] kt pt] (.Tuple [a, b, c] k2 pt2) pos.line X.env = pure false := by rfl) :
    PSf X W (.Assign [.Tuple [.Name x px, .Name y py, .Name z pz] kt pt] (.Tuple [a, b, c] k2 pt2) pos) (sPar3 i j l fa) := by
  refine ps_imp (ps_par3 hc hN hi hj hl hij hil hjl hx hy hz ha hw hs) fun D σ H ⟨g, ρ, w, hK, r, e, q⟩ => ?_
  refine lX_then hK r e q fun v H1 g1 d w1 x r1 e1 dv z => ?_
  split at z
  · cases dv with
    | cons d0 dn =>
      cases dn with
      | cons d1 dn =>
        cases dn with
        | cons d2 dn =>
          cases dn
          exact ⟨_, _, _, rfl, z _ H1 g1 (Xt.refl _) r1 (((e1.set i d0).set j d1).set l d2)⟩
  · exact z.elim
end
end Td

set_option Elab.async false
set_option linter.all false
set_option maxRecDepth 100000
set_option maxHeartbeats 4000000
/-! Sleeping generators: a run that wakes none of them leaves them as they are. -/
namespace Tg
open PySem
open Sem (wp)
def stuckK : Resume → Sem PySem.Fin := fun _ => .unsupported ""
def okFs (fs : List Frame) : Prop := splitAtGen fs = none
def okG : GenState → Prop
  | .suspended _ _ _ _ fs _ => okFs fs
  | _ => True
def okE : End → Prop
  | .susp _ _ _ _ _ _ fs => okFs fs
  | .ret _ => True
/-- as it is, and as one that cannot be woken -/
inductive Gp : Option GenState → Option GenState → Prop
  | non : Gp none none
  | eq {x : GenState} : okG x → Gp (some x) (some x)
  | stk {k : Resume → Sem PySem.Fin} {l : List Value} {c : Code} {p : Pos} {fs : List Frame} {cl : Bool} : Gp (some (.suspended k l c p fs cl)) (some (.suspended stuckK l c p fs cl))
structure Rl (S T : Shared) : Prop where
  heap : S.heap = T.heap
  drawn : S.drawn = T.drawn
  toks : S.toks = T.toks
  os : S.os = T.os
  size : S.gens.size = T.gens.size
  at_ : ∀ i : Nat, Gp S.gens[i]? T.gens[i]?
/-- i cannot be woken -/
def Stk (T : Shared) (i : Nat) : Prop := ∃ l c p fs cl, T.gens[i]? = some (.suspended stuckK l c p fs cl)
def Kp (S T S' T' : Shared) : Prop := ∀ i, Stk T i → S'.gens[i]? = S.gens[i]? ∧ Stk T' i
theorem Kp.refl (S T : Shared) : Kp S T S T := fun i h => ⟨rfl, h⟩
theorem Kp.trans {S T S1 T1 S2 T2 : Shared} (a : Kp S T S1 T1) (b : Kp S1 T1 S2 T2) : Kp S T S2 T2 := fun i h =>
  let ⟨a1, a2⟩ := a i h
  let ⟨b1, b2⟩ := b i a2
  ⟨b1.trans a1, b2⟩
theorem no_unsup {M : Model} {Γ : Ctx} {p : Pos} {t : Sem PySem.Fin} {fs : List Frame} {s s' : Shared} {e : End} (h : Runs M Γ p t fs s e s') : ∀ w, t ≠ .unsupported w := by
  induction h <;> intro w z <;> first | (cases z; done) | (rename_i ih1 ih2; exact ih1 w z) | (rename_i ih; exact ih w z) | (rename_i ih1 _ _ ih2; exact ih1 w z) | skip
  all_goals (subst z; simp_all)
theorem okFs_ret {k : Result → Sem PySem.Fin} {h : Option Value} {g : Bool} {l : List Value} {c : Code} {p : Pos} {kp : List Value} {fs : List Frame} : okFs (.ret k h g l c p kp :: fs) ↔ okFs fs := by
  simp only [okFs, splitAtGen, Option.map_eq_none_iff]
theorem okFs_app : ∀ {fs gs : List Frame}, okFs fs → okFs gs → okFs (fs ++ gs)
  | [], _, _, h => h
  | .ret _ _ _ _ _ _ _ :: fs, gs, h, h2 => by
    rw [List.cons_append, okFs_ret]
    exact okFs_app (okFs_ret.mp h) h2
  | .gen _ _ _ _ _ :: fs, gs, h, _ => by simp [okFs, splitAtGen] at h
theorem Gp.look {S T : Shared} (r : Rl S T) {i : Nat} {y : GenState} (h : T.gens[i]? = some y) : ∃ x, S.gens[i]? = some x ∧ x.seen = y.seen ∧ Gp (some x) (some y) := by
  have q := r.at_ i
  rw [h] at q
  cases e : S.gens[i]? with
  | none => rw [e] at q; cases q
  | some x =>
    rw [e] at q
    refine ⟨x, rfl, ?_, q⟩
    cases q <;> rfl
theorem get_set {s : Shared} {g i : Nat} {x : GenState} : (s.setGen g x).gens[i]? = if g = i then (if i < s.gens.size then some x else none) else s.gens[i]? := by
  show (s.gens.setIfInBounds g x)[i]? = _
  rw [Array.getElem?_setIfInBounds]
  split <;> simp_all
theorem Rl.set {S T : Shared} (r : Rl S T) (g : Nat) {x : GenState} (hx : okG x) : Rl (S.setGen g x) (T.setGen g x) where
  heap := r.heap
  drawn := r.drawn
  toks := r.toks
  os := r.os
  size := by rw [GenW.setGen_size, GenW.setGen_size]; exact r.size
  at_ := fun i => by
    rw [get_set, get_set, r.size]
    split
    · split
      · exact .eq hx
      · exact .non
    · exact r.at_ i
theorem Kp.set {S T : Shared} (g : Nat) {x : GenState} (h : ¬ Stk T g) : Kp S T (S.setGen g x) (T.setGen g x) := fun i hi => by
  have ne : g ≠ i := fun z => h (by rw [z]; exact hi)
  obtain ⟨l, c, p, fs, cl, e⟩ := hi
  exact ⟨by rw [get_set, if_neg ne], l, c, p, fs, cl, by rw [get_set, if_neg ne]; exact e⟩
theorem okE_gen {e : End} (h : okE e) : okG e.genState := by cases e <;> exact h
theorem stk_run {T : Shared} {g : Nat} (h : g < T.gens.size) : ¬ Stk (T.setGen g .running) g := fun ⟨l, c, p, fs, cl, e⟩ => by
  rw [get_set, if_pos rfl, if_pos h] at e
  cases e
theorem stk_fresh {T : Shared} {g : Nat} {c : Code} (h : T.gens[g]? = some (.fresh c)) : ¬ Stk T g := fun ⟨_, _, _, _, _, z⟩ => by rw [h] at z; cases z
theorem runs_frame {M : Model} {Γ : Ctx} {p : Pos} {t : Sem PySem.Fin} {fs : List Frame} {T T' : Shared} {e : End} (h : Runs M Γ p t fs T e T') : okFs fs → ∀ S, Rl S T → ∃ S', Rl S' T' ∧ Runs M Γ p t fs S e S' ∧ okE e ∧ Kp S T S' T' := by
  induction h with
  | done => exact fun _ S r => ⟨S, r, .done, trivial, Kp.refl _ _⟩
  | raise => exact fun _ S r => ⟨S, r, .raise, trivial, Kp.refl _ _⟩
  | again hc _ ih => exact fun o S r => let ⟨S', r', h', o', k'⟩ := ih o S r; ⟨S', r', .again hc h', o', k'⟩
  | rule _ ih => exact fun o S r => let ⟨S', r', h', o', k'⟩ := ih o S r; ⟨S', r', .rule h', o', k'⟩
  | «at» _ ih => exact fun o S r => let ⟨S', r', h', o', k'⟩ := ih o S r; ⟨S', r', .at h', o', k'⟩
  | load hl _ ih => exact fun o S r => let ⟨S', r', h', o', k'⟩ := ih o S r; ⟨S', r', .load (by rw [r.heap]; exact hl) h', o', k'⟩
  | @update Γ p k s e s' a part f hl _ ih =>
    intro o S r
    obtain ⟨S', r', h', o', k'⟩ := ih o { S with heap := S.heap.update a f } ⟨by show S.heap.update a f = s.heap.update a f; rw [r.heap], r.drawn, r.toks, r.os, r.size, r.at_⟩
    exact ⟨S', r', .update (by rw [r.heap]; exact hl) h', o', k'⟩
  | @loadIfAlive Γ p k s e s' a _ ih =>
    intro o S r
    obtain ⟨S', r', h', o', k'⟩ := ih o S r
    exact ⟨S', r', .loadIfAlive (by rw [r.heap]; exact h'), o', k'⟩
  | point _ ih => exact fun o S r => let ⟨S', r', h', o', k'⟩ := ih o S r; ⟨S', r', .point h', o', k'⟩
  | @alloc Γ p k s e s' ob _ ih =>
    intro o S r
    obtain ⟨S', r', h', o', k'⟩ := ih o { S with heap := S.heap.push ob } ⟨by show S.heap.push ob = s.heap.push ob; rw [r.heap], r.drawn, r.toks, r.os, r.size, r.at_⟩
    exact ⟨S', r', .alloc (by rw [show S.heap.objs.size = s.heap.objs.size by rw [r.heap]]; exact h'), o', k'⟩
  | @fresh Γ p k s e s' _ ih =>
    intro o S r
    obtain ⟨S', r', h', o', k'⟩ := ih o { S with toks := S.toks + 1 } ⟨r.heap, r.drawn, by show S.toks + 1 = s.toks + 1; rw [r.toks], r.os, r.size, r.at_⟩
    exact ⟨S', r', .fresh (by rw [show k S.toks = k s.toks by rw [r.toks]]; exact h'), o', k'⟩
  | ask _ ih => exact fun o S r => let ⟨S', r', h', o', k'⟩ := ih o S r; ⟨S', r', .ask h', o', k'⟩
  | @choose n Γ p k s e s' src hn _ ih =>
    intro o S r
    obtain ⟨S', r', h', o', k'⟩ := ih o { S with drawn := S.drawn.bump src } ⟨r.heap, by show S.drawn.bump src = s.drawn.bump src; rw [r.drawn], r.toks, r.os, r.size, r.at_⟩
    exact ⟨S', r', .choose hn (by rw [r.drawn] at h' ⊢; exact h'), o', k'⟩
  | @os Γ p k s e s' q l _ ih =>
    intro o S r
    obtain ⟨S', r', h', o', k'⟩ := ih o { S with os := (Os.step S.os q).1 } ⟨r.heap, r.drawn, r.toks, by show (Os.step S.os q).1 = (Os.step s.os q).1; rw [r.os], r.size, r.at_⟩
    exact ⟨S', r', .os (by rw [r.os] at h' ⊢; exact h'), o', k'⟩
  | handled _ ih => exact fun o S r => let ⟨S', r', h', o', k'⟩ := ih o S r; ⟨S', r', .handled h', o', k'⟩
  | genState hg _ ih =>
    intro o S r
    obtain ⟨x, hx, hs, _⟩ := Gp.look r hg
    obtain ⟨S', r', h', o', k'⟩ := ih o S r
    exact ⟨S', r', .genState hx (by rw [hs]; exact h'), o', k'⟩
  | stack _ ih => exact fun o S r => let ⟨S', r', h', o', k'⟩ := ih o S r; ⟨S', r', .stack h', o', k'⟩
  | thread _ ih => exact fun o S r => let ⟨S', r', h', o', k'⟩ := ih o S r; ⟨S', r', .thread h', o', k'⟩
  | @newGen Γ p k s e s' c _ ih =>
    intro o S r
    obtain ⟨S', r', h', o', k'⟩ := ih o { S with gens := S.gens.push (.fresh c) } ⟨r.heap, r.drawn, r.toks, r.os, by show (S.gens.push _).size = (s.gens.push _).size; rw [Array.size_push, Array.size_push, r.size], fun i => by
      show Gp (S.gens.push _)[i]? (s.gens.push _)[i]?
      rw [Array.getElem?_push, Array.getElem?_push, r.size]
      split
      · exact .eq trivial
      · exact r.at_ i⟩
    refine ⟨S', r', .newGen (by rw [r.size]; exact h'), o', fun i hi => ?_⟩
    obtain ⟨l, cc, pp, ff, cl, ei⟩ := hi
    have hlt : i < s.gens.size := (Array.getElem?_eq_some_iff.mp ei).1
    have := k' i ⟨l, cc, pp, ff, cl, by show (s.gens.push _)[i]? = _; rw [Array.getElem?_push, if_neg (by omega)]; exact ei⟩
    refine ⟨this.1.trans ?_, this.2⟩
    show (S.gens.push _)[i]? = _
    rw [Array.getElem?_push, if_neg (by rw [r.size]; omega)]
  | call _ _ ih1 ih2 =>
    intro o S r
    obtain ⟨S1, r1, h1, o1, k1⟩ := ih1 rfl S r
    obtain ⟨S2, r2, h2, o2, k2⟩ := ih2 o S1 r1
    exact ⟨S2, r2, .call h1 h2, o2, k1.trans k2⟩
  | callSusp _ ih =>
    intro o S r
    obtain ⟨S1, r1, h1, o1, k1⟩ := ih rfl S r
    exact ⟨S1, r1, .callSusp h1, okFs_app o1 (okFs_ret.mpr rfl), k1⟩
  | yield => exact fun _ S r => ⟨S, r, .yield, rfl, Kp.refl _ _⟩
  | @resumeFresh Γ p g l k s c e₁ s₁ e s' hg _ hq _ ih1 ih2 =>
    intro o S r
    obtain ⟨x, hx, _, hp⟩ := Gp.look r hg
    have ex : x = .fresh c := by cases hp; rfl
    subst ex
    have ns : ¬ Stk s g := fun ⟨_, _, _, _, _, z⟩ => by rw [hg] at z; cases z
    have hlt : g < s.gens.size := (Array.getElem?_eq_some_iff.mp hg).1
    obtain ⟨S1, r1, h1, o1, k1⟩ := ih1 rfl _ (r.set g (x := .running) trivial)
    obtain ⟨S2, r2, h2, o2, k2⟩ := ih2 o _ (r1.set g (okE_gen o1))
    refine ⟨S2, r2, .resumeFresh hx h1 hq h2, o2, fun i hi => ?_⟩
    have ne : g ≠ i := fun z => ns (by rw [z]; exact hi)
    obtain ⟨a1, a2⟩ := Kp.set (S := S) g (x := .running) ns i hi
    obtain ⟨b1, b2⟩ := k1 i a2
    have c2 : Stk (s₁.setGen g e₁.genState) i := by
      obtain ⟨l', c', p', fs', cl', e'⟩ := b2
      exact ⟨l', c', p', fs', cl', by rw [get_set, if_neg ne]; exact e'⟩
    obtain ⟨d1, d2⟩ := k2 i c2
    refine ⟨?_, d2⟩
    rw [d1, get_set, if_neg ne, b1, a1]
  | @resumeSuspended Γ p g rr l k s k₀ l₀ c₀ p₀ fs cl e₁ s₁ e s' hg hrun hq _ ih1 ih2 =>
    intro o S r
    obtain ⟨x, hx, _, hp⟩ := Gp.look r hg
    have nk : k₀ ≠ stuckK := fun z => by subst z; exact no_unsup hrun "" rfl
    have ns : ¬ Stk s g := fun ⟨_, _, _, _, _, z⟩ => by rw [hg] at z; cases z; exact nk rfl
    have hh : x = .suspended k₀ l₀ c₀ p₀ fs cl ∧ okFs fs := by
      cases hp with
      | eq hx => exact ⟨rfl, hx⟩
      | stk => exact absurd rfl nk
    obtain ⟨rfl, ofs⟩ := hh
    obtain ⟨S1, r1, h1, o1, k1⟩ := ih1 ofs _ (r.set g (x := .running) trivial)
    obtain ⟨S2, r2, h2, o2, k2⟩ := ih2 o _ (r1.set g (okE_gen o1))
    refine ⟨S2, r2, .resumeSuspended hx h1 hq h2, o2, fun i hi => ?_⟩
    have ne : g ≠ i := fun z => ns (by rw [z]; exact hi)
    obtain ⟨a1, a2⟩ := Kp.set (S := S) g (x := .running) ns i hi
    obtain ⟨b1, b2⟩ := k1 i a2
    have c2 : Stk (s₁.setGen g e₁.genState) i := by
      obtain ⟨l', c', p', fs', cl', e'⟩ := b2
      exact ⟨l', c', p', fs', cl', by rw [get_set, if_neg ne]; exact e'⟩
    obtain ⟨d1, d2⟩ := k2 i c2
    refine ⟨?_, d2⟩
    rw [d1, get_set, if_neg ne, b1, a1]
  | resumeJustStarted hg hv _ ih =>
    intro o S r
    obtain ⟨x, hx, _, hp⟩ := Gp.look r hg
    obtain ⟨S', r', h', o', k'⟩ := ih o S r
    cases hp with
    | eq _ => exact ⟨S', r', .resumeJustStarted hx hv h', o', k'⟩
  | resumeThrowFresh hg _ ih =>
    intro o S r
    obtain ⟨x, hx, _, hp⟩ := Gp.look r hg
    have ns := stk_fresh hg
    obtain ⟨S', r', h', o', k'⟩ := ih o _ (r.set _ (x := .finished) trivial)
    cases hp with
    | eq _ => exact ⟨S', r', .resumeThrowFresh hx h', o', (Kp.set _ ns).trans k'⟩
  | resumeRunning hg _ ih =>
    intro o S r
    obtain ⟨x, hx, _, hp⟩ := Gp.look r hg
    obtain ⟨S', r', h', o', k'⟩ := ih o S r
    cases hp with
    | eq _ => exact ⟨S', r', .resumeRunning hx h', o', k'⟩
  | resumeFinished hg _ ih =>
    intro o S r
    obtain ⟨x, hx, _, hp⟩ := Gp.look r hg
    obtain ⟨S', r', h', o', k'⟩ := ih o S r
    cases hp with
    | eq _ => exact ⟨S', r', .resumeFinished hx h', o', k'⟩
  | segRet _ _ ih1 ih2 =>
    intro o S r
    obtain ⟨S1, r1, h1, o1, k1⟩ := ih1 rfl S r
    obtain ⟨S2, r2, h2, o2, k2⟩ := ih2 (okFs_ret.mp o) S1 r1
    exact ⟨S2, r2, .segRet h1 h2, o2, k1.trans k2⟩
  | segGen => intro o; simp [okFs, splitAtGen] at o
  | segSuspOut hs _ ih =>
    intro o S r
    obtain ⟨S1, r1, h1, o1, k1⟩ := ih rfl S r
    exact ⟨S1, r1, .segSuspOut hs h1, okFs_app o1 o, k1⟩
  | segSuspGen hs => intro o; rw [okFs, hs] at o; cases o
end Tg

set_option Elab.async false
set_option linter.all false
set_option maxRecDepth 100000
set_option maxHeartbeats 4000000
namespace Tg
open PySem PyProof.Rows
open Sem (wp)
theorem wakes_frame {M : Model} {Γ : Ctx} {p : Pos} {g : Nat} {r : Resume} {T T' : Shared} {res : GenResult} (h : Wakes M Γ p g r T res T') : ∀ S, Rl S T → ∃ S', Rl S' T' ∧ Wakes M Γ p g r S res S' ∧ Kp S T S' T' := by
  intro S rl
  unfold Wakes at h
  split at h
  · exact h.elim
  · rename_i c hg
    obtain ⟨x, hx, _, hp⟩ := Gp.look rl hg
    have ex : x = .fresh c := by cases hp; rfl
    subst ex
    have ns := stk_fresh hg
    split at h
    · obtain ⟨e₁, s₁, hr, hq, rfl, rfl⟩ := h
      obtain ⟨S1, r1, h1, o1, k1⟩ := runs_frame hr rfl _ (rl.set g (x := .running) trivial)
      refine ⟨S1.setGen g e₁.genState, r1.set g (okE_gen o1), ?_, fun i hi => ?_⟩
      · unfold Wakes
        rw [hx]
        exact ⟨e₁, S1, h1, hq, rfl, rfl⟩
      · have ne : g ≠ i := fun z => ns (by rw [z]; exact hi)
        obtain ⟨a1, a2⟩ := Kp.set (S := S) g (x := .running) ns i hi
        obtain ⟨b1, b2⟩ := k1 i a2
        obtain ⟨l', c', p', fs', cl', e'⟩ := b2
        exact ⟨by rw [get_set, if_neg ne, b1, a1], l', c', p', fs', cl', by rw [get_set, if_neg ne]; exact e'⟩
    · obtain ⟨rfl, rfl⟩ := h
      refine ⟨S, rl, ?_, Kp.refl _ _⟩
      rename_i v hv
      unfold Wakes
      rw [hx]
      cases v <;> first | exact ⟨rfl, rfl⟩ | exact absurd rfl hv
    · obtain ⟨rfl, rfl⟩ := h
      refine ⟨S.setGen g .finished, rl.set g trivial, ?_, Kp.set g ns⟩
      unfold Wakes
      rw [hx]
      exact ⟨rfl, rfl⟩
  · rename_i k₀ l₀ c₀ p₀ fs cl hg
    obtain ⟨x, hx, _, hp⟩ := Gp.look rl hg
    obtain ⟨e₁, s₁, hr, hq, rfl, rfl⟩ := h
    have nk : k₀ ≠ stuckK := fun z => by subst z; exact no_unsup hr "" rfl
    have ns : ¬ Stk T g := fun ⟨_, _, _, _, _, z⟩ => by rw [hg] at z; cases z; exact nk rfl
    have hh : x = .suspended k₀ l₀ c₀ p₀ fs cl ∧ okFs fs := by
      cases hp with
      | eq hx => exact ⟨rfl, hx⟩
      | stk => exact absurd rfl nk
    obtain ⟨rfl, ofs⟩ := hh
    obtain ⟨S1, r1, h1, o1, k1⟩ := runs_frame hr ofs _ (rl.set g (x := .running) trivial)
    refine ⟨S1.setGen g e₁.genState, r1.set g (okE_gen o1), ?_, fun i hi => ?_⟩
    · unfold Wakes
      rw [hx]
      exact ⟨e₁, S1, h1, hq, rfl, rfl⟩
    · have ne : g ≠ i := fun z => ns (by rw [z]; exact hi)
      obtain ⟨a1, a2⟩ := Kp.set (S := S) g (x := .running) ns i hi
      obtain ⟨b1, b2⟩ := k1 i a2
      obtain ⟨l', c', p', fs', cl', e'⟩ := b2
      exact ⟨by rw [get_set, if_neg ne, b1, a1], l', c', p', fs', cl', by rw [get_set, if_neg ne]; exact e'⟩
  · rename_i hg
    obtain ⟨x, hx, _, hp⟩ := Gp.look rl hg
    obtain ⟨rfl, rfl⟩ := h
    refine ⟨S, rl, ?_, Kp.refl _ _⟩
    cases hp
    unfold Wakes
    rw [hx]
    exact ⟨rfl, rfl⟩
  · rename_i hg
    obtain ⟨x, hx, _, hp⟩ := Gp.look rl hg
    obtain ⟨rfl, rfl⟩ := h
    refine ⟨S, rl, ?_, Kp.refl _ _⟩
    cases hp
    unfold Wakes
    rw [hx]
    exact ⟨rfl, rfl⟩
/-- the same step, the sleeping ones as they are -/
def Fm {β : Type} (S0 T0 : Shared) (Q : β → Pos → Shared → Prop) : β → Pos → Shared → Prop := fun a p S' => ∃ T', Rl S' T' ∧ Kp S0 T0 S' T' ∧ Q a p T'
theorem wp_frame {α : Type} (M : Model) (Γ : Ctx) (S0 T0 : Shared) (t : Sem α) : ∀ (Q : α → Pos → Shared → Prop) (E : Value → Pos → Shared → Prop) (p : Pos) (S T : Shared), Rl S T → Kp S0 T0 S T → wp M Γ t Q E p T → wp M Γ t (Fm S0 T0 Q) (Fm S0 T0 E) p S := by
  induction t with
  | pure a => intro Q E p S T r k h; exact ⟨T, r, k, h⟩
  | raise e => intro Q E p S T r k h; exact ⟨T, r, k, h⟩
  | unsupported _ => intro Q E p S T _ _ h; exact h
  | finish _ => intro Q E p S T _ _ h; exact h
  | rule _ kk ih => intro Q E p S T r k h; exact ih () Q E p S T r k h
  | «at» p' kk ih => intro Q E p S T r k h; exact ih () Q E p' S T r k h
  | load a _ kk ih => intro Q E p S T r k h; obtain ⟨o, ho, h⟩ := h; exact ⟨o, by rw [r.heap]; exact ho, ih o Q E p S T r k h⟩
  | update a _ f kk ih =>
    intro Q E p S T r k h
    exact ⟨by rw [r.heap]; exact h.1, ih () Q E p { S with heap := S.heap.update a f } { T with heap := T.heap.update a f } ⟨by show S.heap.update a f = T.heap.update a f; rw [r.heap], r.drawn, r.toks, r.os, r.size, r.at_⟩ k h.2⟩
  | loadIfAlive a kk ih =>
    intro Q E p S T r k h
    have := ih (T.heap.get? a) Q E p S T r k h
    show wp M Γ (kk (S.heap.get? a)) _ _ p S
    rw [r.heap]; exact this
  | point _ kk ih => intro Q E p S T r k h; exact ih () Q E p S T r k h
  | register _ _ => intro Q E p S T _ _ h; exact h
  | alloc o kk ih =>
    intro Q E p S T r k h
    have := ih T.heap.objs.size Q E p { S with heap := S.heap.push o } { T with heap := T.heap.push o } ⟨by show S.heap.push o = T.heap.push o; rw [r.heap], r.drawn, r.toks, r.os, r.size, r.at_⟩ k h
    show wp M Γ (kk S.heap.objs.size) _ _ p { S with heap := S.heap.push o }
    rw [show kk S.heap.objs.size = kk T.heap.objs.size by rw [r.heap]]
    exact this
  | fresh kk ih =>
    intro Q E p S T r k h
    have := ih T.toks Q E p { S with toks := S.toks + 1 } { T with toks := T.toks + 1 } ⟨r.heap, r.drawn, by show S.toks + 1 = T.toks + 1; rw [r.toks], r.os, r.size, r.at_⟩ k h
    show wp M Γ (kk S.toks) _ _ p { S with toks := S.toks + 1 }
    rw [show kk S.toks = kk T.toks by rw [r.toks]]
    exact this
  | ask kk ih => intro Q E p S T r k h; exact ih _ Q E p S T r k h
  | choose src m kk ih =>
    intro Q E p S T r k h
    have := ih (M.w.draws src (T.drawn.get src) % m) Q E p { S with drawn := S.drawn.bump src } { T with drawn := T.drawn.bump src } ⟨r.heap, by show S.drawn.bump src = T.drawn.bump src; rw [r.drawn], r.toks, r.os, r.size, r.at_⟩ k h.2
    refine ⟨h.1, ?_⟩
    show wp M Γ (kk (M.w.draws src (S.drawn.get src) % m)) _ _ p _
    rw [show kk (M.w.draws src (S.drawn.get src) % m) = kk (M.w.draws src (T.drawn.get src) % m) by rw [r.drawn]]
    exact this
  | os q _ kk ih =>
    intro Q E p S T r k h
    have := ih (Os.step T.os q).2 Q E p { S with os := (Os.step S.os q).1 } { T with os := (Os.step T.os q).1 } ⟨r.heap, r.drawn, r.toks, by show (Os.step S.os q).1 = (Os.step T.os q).1; rw [r.os], r.size, r.at_⟩ k h
    show wp M Γ (kk (Os.step S.os q).2) _ _ p _
    rw [show kk (Os.step S.os q).2 = kk (Os.step T.os q).2 by rw [r.os]]
    exact this
  | call c hd _ _ kk ih =>
    intro Q E p S T r k h
    obtain ⟨res, T1, hr, h⟩ := h
    obtain ⟨S1, r1, h1, _, k1⟩ := runs_frame hr rfl S r
    exact ⟨res, S1, h1, ih res Q E p S1 T1 r1 (k.trans k1) h⟩
  | handled own kk ih => intro Q E p S T r k h; exact ih _ Q E p S T r k h
  | genState g kk ih =>
    intro Q E p S T r k h
    obtain ⟨st, hs, h⟩ := h
    obtain ⟨x, hx, he, _⟩ := Gp.look r hs
    exact ⟨x, hx, by rw [he]; exact ih _ Q E p S T r k h⟩
  | newGen c kk ih =>
    intro Q E p S T r k h
    have := ih T.gens.size Q E p { S with gens := S.gens.push (.fresh c) } { T with gens := T.gens.push (.fresh c) } ⟨r.heap, r.drawn, r.toks, r.os, by show (S.gens.push _).size = (T.gens.push _).size; rw [Array.size_push, Array.size_push, r.size], fun i => by
      show Gp (S.gens.push _)[i]? (T.gens.push _)[i]?
      rw [Array.getElem?_push, Array.getElem?_push, r.size]
      split
      · exact .eq trivial
      · exact r.at_ i⟩ (k.trans fun i hi => by
        obtain ⟨l, cc, pp, ff, cl, ei⟩ := hi
        have hlt : i < T.gens.size := (Array.getElem?_eq_some_iff.mp ei).1
        refine ⟨?_, l, cc, pp, ff, cl, by show (T.gens.push _)[i]? = _; rw [Array.getElem?_push, if_neg (by omega)]; exact ei⟩
        show (S.gens.push _)[i]? = _
        rw [Array.getElem?_push, if_neg (by rw [r.size]; omega)]) h
    show wp M Γ (kk S.gens.size) _ _ p _
    rw [show kk S.gens.size = kk T.gens.size by rw [r.size]]
    exact this
  | resume g rr _ kk ih =>
    intro Q E p S T r k h
    obtain ⟨res, T1, hw, h⟩ := h
    obtain ⟨S1, r1, h1, k1⟩ := wakes_frame hw S r
    exact ⟨res, S1, h1, ih res Q E p S1 T1 r1 (k.trans k1) h⟩
  | yield _ _ _ _ => intro Q E p S T _ _ h; exact h
  | stack kk ih => intro Q E p S T r k h; exact ih _ Q E p S T r k h
  | fork _ _ => intro Q E p S T _ _ h; exact h
  | thread kk ih => intro Q E p S T r k h; exact ih _ Q E p S T r k h
  | await _ _ _ _ _ => intro Q E p S T _ _ h; exact h
/-- all that sleep, put so that they cannot be woken -/
def killG : GenState → GenState
  | .suspended _ l c p fs cl => .suspended stuckK l c p fs cl
  | x => x
def killS (s : Shared) : Shared := { s with gens := s.gens.map killG }
theorem rl_kill (s : Shared) : Rl s (killS s) where
  heap := rfl
  drawn := rfl
  toks := rfl
  os := rfl
  size := by show _ = (s.gens.map killG).size; simp
  at_ := fun i => by
    show Gp s.gens[i]? (s.gens.map killG)[i]?
    rw [Array.getElem?_map]
    cases h : s.gens[i]? with
    | none => exact .non
    | some x => cases x <;> first | exact .stk | exact .eq trivial
theorem bare_rl {S T : Shared} (r : Rl S T) (h : AllBare T.gens) : AllBare S.gens := fun y hy => by
  obtain ⟨i, hi, e⟩ := Array.mem_iff_getElem.mp hy
  have q := r.at_ i
  rw [Array.getElem?_eq_getElem hi, e] at q
  cases ht : T.gens[i]? with
  | none => rw [ht] at q; cases q
  | some x =>
    rw [ht] at q
    have b := h x (Array.mem_of_getElem? ht)
    cases q with
    | eq _ => exact b
    | stk => exact b
theorem bare_kill {s : Shared} (h : AllBare s.gens) : AllBare (killS s).gens := fun y hy => by
  obtain ⟨i, hi, e⟩ := Array.mem_iff_getElem.mp hy
  have hi' : i < s.gens.size := by simpa [killS] using hi
  have e2 : (killS s).gens[i]? = some (killG s.gens[i]) := by
    show (s.gens.map killG)[i]? = _
    rw [Array.getElem?_map, Array.getElem?_eq_getElem hi']
    rfl
  rw [Array.getElem?_eq_getElem hi, e] at e2
  have e3 := Option.some.inj e2
  have b := h _ (Array.getElem_mem hi')
  rw [e3]
  revert b
  cases s.gens[i] <;> exact id
def isSusp : GenState → Bool
  | .suspended .. => true
  | _ => false
/-- what is done without waking a sleeping generator leaves it as it is -/
theorem wpAny_keep {α : Type} {M : Model} {A : Around} {t : Sem α} {Q : α → Shared → Prop} {E : Value → Shared → Prop} {s : Shared} (h : wpAny M A t Q (fun _ _ => False) (killS s)) :
    wpAny M A t (fun a s' => (∀ (g : Nat) (x : GenState), s.gens[g]? = some x → isSusp x = true → s'.gens[g]? = some x) ∧ ∃ T', Q a T' ∧ s'.heap = T'.heap ∧ s'.os = T'.os ∧ (AllBare T'.gens → AllBare s'.gens)) E s := by
  intro Γ p hΓ
  have := wp_frame M Γ s (killS s) t _ _ p s (killS s) (rl_kill s) (Kp.refl _ _) (h Γ p hΓ)
  refine Sem.wp_mono M Γ t ?_ ?_ p s this
  · rintro a p' s' ⟨T', r, k, q⟩
    refine ⟨fun g x hx hs => ?_, T', q, r.heap, r.os, bare_rl r⟩
    rw [(k g ?_).1]
    · exact hx
    · cases x with
      | suspended k l c p fs cl =>
        refine ⟨l, c, p, fs, cl, ?_⟩
        show (s.gens.map killG)[g]? = _
        rw [Array.getElem?_map, hx]
        rfl
      | _ => cases hs
  · rintro e p' s' ⟨T', _, _, q⟩
    exact q.elim
end Tg

set_option Elab.async false
set_option linter.all false
set_option maxRecDepth 100000
set_option maxHeartbeats 4000000
namespace Tg
open PySem PySem.Spec PyProof.Rows L2 Td GenW
open Sem (wp)
/-! ### a run up to the next stop -/
def SegW (M : Model) (A : Around) (Φ : End → Shared → Prop) (c : Code) (t : Sem PySem.Fin) (fs : List Frame) (s : Shared) : Prop :=
  ∀ Γ p, Γ.code = c → Γ.Woken A → ∃ e s', Runs M Γ p t fs s e s' ∧ Φ e s'
section
variable {M : Model} {A : Around} {Φ : End → Shared → Prop} {c : Code} {fs : List Frame} {s : Shared}
theorem segw_wrap {α : Type} {m : Sem α} {K : α → Sem PySem.Fin} {H : Value → Sem PySem.Fin} {gd : Bool → Bool} {lv : List Value → List Value}
    (h : wpAny M (A.over c fs) m (fun a s' => SegW M A Φ c (K a) fs s') (fun x s' => SegW M A Φ c (H x) fs s') s) : SegW M A Φ c (m.wrap K H gd lv) fs s := by
  rintro Γ p rfl hΓ
  exact runs_wrap_of_wp K H gd lv m (h (Γ.over fs) p (hΓ.over fs)) (fun a p' s' h' => h' Γ p' rfl hΓ) (fun x p' s' h' => h' Γ p' rfl hΓ)
theorem segw_at {p' : Pos} {k : Unit → Sem PySem.Fin} (h : SegW M A Φ c (k ()) fs s) : SegW M A Φ c (.at p' k) fs s :=
  segw_wrap (m := standAt p') (K := k) (H := .raise) (gd := id) (lv := id) (wpAny_standAt h)
theorem segw_point {l : List Value} {k : Unit → Sem PySem.Fin} (h : SegW M A Φ c (k ()) fs s) : SegW M A Φ c (.point l k) fs s :=
  segw_wrap (m := point) (K := k) (H := .raise) (gd := id) (lv := fun _ => l) (wpAny_point h)
theorem segw_call {c' : Code} {h : Option Value} {g : Bool} {l : List Value} {k : Result → Sem PySem.Fin} (hc : ∀ p, SegW M A Φ c' (M.den c') (.ret k h g l c p [] :: fs) s) : SegW M A Φ c (.call c' h g l k) fs s := by
  rintro Γ p rfl hΓ
  obtain ⟨e, s', hr, he⟩ := hc p (Γ.goto c') p rfl (hΓ.goto c')
  exact ⟨e, s', runs_call_seg hr, he⟩
theorem segw_leaf {k : Result → Sem PySem.Fin} {h : Option Value} {g : Bool} {l : List Value} {c₁ : Code} {p₁ : Pos} {kp : List Value} (r : Result) (hk : SegW M A Φ c₁ (k r) fs s) : SegW M A Φ c (leafOf r) (.ret k h g l c₁ p₁ kp :: fs) s := by
  rintro Γ p rfl hΓ
  obtain ⟨e, s', hr, he⟩ := hk (Γ.goto c₁) p₁ rfl (hΓ.goto c₁)
  exact ⟨e, s', Runs.pop r hr, he⟩
theorem segw_again {c' : Code} (hq : c'.quiet = true) (hc : SegW M A Φ c' (M.den c') fs s) : SegW M A Φ c (.pure (.again c')) fs s := by
  rintro Γ p rfl hΓ
  obtain ⟨e, s', hr, he⟩ := hc (Γ.goto c') p rfl (hΓ.goto c')
  exact ⟨e, s', Runs.head (c₁ := c') (fun _ _ x => .again hq x) hr, he⟩
theorem segw_end (r : Result) (h : Φ (.ret r) s) : SegW M A Φ c (leafOf r) [] s := by
  rintro Γ p rfl _
  exact ⟨.ret r, s, Runs.leaf r, h⟩
theorem segw_yield {v : Value} {g : Bool} {l : List Value} {k : Resume → Sem PySem.Fin} (hfs : splitAtGen fs = none) (hg : g = false) (h : ∀ p, Φ (.susp v false l k c p fs) s) : SegW M A Φ c (.yield v g l k) fs s := by
  subst hg
  rintro Γ p rfl _
  exact ⟨_, s, Runs.yield' fs hfs, h p⟩
theorem segw_mono {Ψ : End → Shared → Prop} {t : Sem PySem.Fin} (h : SegW M A Φ c t fs s) (i : ∀ e s', Φ e s' → Ψ e s') : SegW M A Ψ c t fs s := fun Γ p hc hΓ =>
  let ⟨e, s', hr, he⟩ := h Γ p hc hΓ
  ⟨e, s', hr, i e s' he⟩
end
/-! ### readings of generators -/
inductive Og where
  | nx (ρ : Ev) (w : Ws) (ys : List PyData)
  | rt (w : Ws) (ys : List PyData)
  | bk (ρ : Ev) (w : Ws) (ys : List PyData)
  | ct (ρ : Ev) (w : Ws) (ys : List PyData)
  | no
abbrev FGn := Ev → Ws → List PyData → Og
def gPl (f : FS) : FGn := fun ρ w ys => match f ρ w with
  | .nx ρ1 w1 => .nx ρ1 w1 ys
  | .rt _ w1 => .rt w1 ys
  | .bk ρ1 w1 => .bk ρ1 w1 ys
  | .ct ρ1 w1 => .ct ρ1 w1 ys
  | _ => .no
/-- lists and dicts alone -/
def plainOb : Ob → Bool
  | .lst _ => true
  | .dK _ => true
  | _ => false
def gYd (f : FE) : FGn := fun ρ w ys => match f ρ w with
  | .ok d w1 => cond (bnd 0 d && w1.all plainOb) (.nx ρ w1 (ys ++ [d])) .no
  | _ => .no
def gNil : FGn := fun ρ w ys => .nx ρ w ys
def gSq (f k : FGn) : FGn := fun ρ w ys => match f ρ w ys with
  | .nx ρ1 w1 ys1 => k ρ1 w1 ys1
  | o => o
def gWl (t : FT) (body : FGn) : Nat → FGn
  | 0 => fun _ _ _ => .no
  | n + 1 => fun ρ w ys => match t ρ w with
    | .ok b w1 => cond b (match body ρ w1 ys with
      | .nx ρ2 w2 y2 => gWl t body n ρ2 w2 y2
      | .ct ρ2 w2 y2 => gWl t body n ρ2 w2 y2
      | .bk ρ2 w2 y2 => .nx ρ2 w2 y2
      | o => o) (.nx ρ w1 ys)
    | _ => .no
def gWh (t : FT) (body : FGn) : FGn := gWl t body 1000000
/-- what is wanted behind a statement -/
structure GE where
  nx : Ev → Ws → List PyData → Prop
  rt : Ws → List PyData → Prop
  bk : Ev → Ws → List PyData → Prop
  ct : Ev → Ws → List PyData → Prop
def wish (D : GE) : Og → Prop
  | .nx ρ w ys => D.nx ρ w ys
  | .rt w ys => D.rt w ys
  | .bk ρ w ys => D.bk ρ w ys
  | .ct ρ w ys => D.ct ρ w ys
  | .no => False
/-- what is out stands at the head of L -/
structure Pre (L : List PyData) (D : GE) : Prop where
  nx : ∀ ρ w ys, D.nx ρ w ys → ys <+: L
  bk : ∀ ρ w ys, D.bk ρ w ys → ys <+: L
  ct : ∀ ρ w ys, D.ct ρ w ys → ys <+: L
  rt : ∀ w ys, D.rt w ys → ys <+: L
/-- nothing that is out is taken back -/
def appO (ys : List PyData) : Og → Prop
  | .nx _ _ y => ys <+: y
  | .rt _ y => ys <+: y
  | .bk _ _ y => ys <+: y
  | .ct _ _ y => ys <+: y
  | .no => True
def App (f : FGn) : Prop := ∀ ρ w ys, appO ys (f ρ w ys)
theorem appO.trans {ys zs : List PyData} (h : ys <+: zs) : ∀ {o : Og}, appO zs o → appO ys o
  | .nx _ _ _, q => h.trans q
  | .rt _ _, q => h.trans q
  | .bk _ _ _, q => h.trans q
  | .ct _ _ _, q => h.trans q
  | .no, q => q
theorem App.pre {f : FGn} (a : App f) {L : List PyData} {D : GE} (p : Pre L D) {ρ : Ev} {w : Ws} {ys : List PyData} (h : wish D (f ρ w ys)) : ys <+: L := by
  have q := a ρ w ys
  cases e : f ρ w ys with
  | nx ρ1 w1 y => rw [e] at h q; exact List.IsPrefix.trans q (p.nx _ _ _ h)
  | rt w1 y => rw [e] at h q; exact List.IsPrefix.trans q (p.rt _ _ h)
  | bk ρ1 w1 y => rw [e] at h q; exact List.IsPrefix.trans q (p.bk _ _ _ h)
  | ct ρ1 w1 y => rw [e] at h q; exact List.IsPrefix.trans q (p.ct _ _ _ h)
  | no => rw [e] at h; exact h.elim
theorem app_pl (f : FS) : App (gPl f) := fun ρ w ys => by
  unfold gPl
  cases f ρ w <;> first | exact List.prefix_rfl | trivial
theorem app_yd (f : FE) : App (gYd f) := fun ρ w ys => by
  unfold gYd
  cases f ρ w with
  | ok d w1 =>
    simp only
    cases bnd 0 d && w1.all plainOb with
    | true => exact List.prefix_append _ _
    | false => trivial
  | _ => trivial
theorem app_nil : App gNil := fun ρ w ys => List.prefix_rfl
theorem app_sq {f k : FGn} (a : App f) (b : App k) : App (gSq f k) := fun ρ w ys => by
  unfold gSq
  have q := a ρ w ys
  cases e : f ρ w ys with
  | nx ρ1 w1 y => rw [e] at q; exact appO.trans q (b _ _ _)
  | rt w1 y => rw [e] at q; exact q
  | bk ρ1 w1 y => rw [e] at q; exact q
  | ct ρ1 w1 y => rw [e] at q; exact q
  | no => trivial
theorem app_wl {t : FT} {body : FGn} (b : App body) : ∀ n, App (gWl t body n)
  | 0 => fun _ _ _ => trivial
  | n + 1 => fun ρ w ys => by
    unfold gWl
    cases t ρ w with
    | ok v w1 =>
      cases v with
      | true =>
        have q := b ρ w1 ys
        simp only [cond_true]
        cases e : body ρ w1 ys with
        | nx ρ1 w1 y => rw [e] at q; exact appO.trans q (app_wl b n _ _ _)
        | rt w1 y => rw [e] at q; exact q
        | bk ρ1 w1 y => rw [e] at q; exact q
        | ct ρ1 w1 y => rw [e] at q; exact appO.trans q (app_wl b n _ _ _)
        | no => trivial
      | false => exact List.prefix_rfl
    | _ => trivial
/-! ### the generator's frame -/
structure GCx where
  P : Program
  w : World
  K : PySem.W.Frag
  mg : Str → Option Value
  base : Heap
  N : List Str
  qual : Str
  scope : Scope
  f : Addr
  cd : Value
  outer : List Env
  A : Around
  n0 : Nat
  pn : List (Addr × Obj)
def GCx.env (c : GCx) : Env := envOfC c.qual c.scope c.n0 c.f c.cd
def GCx.X (c : GCx) (s : Shared) (H : Hp) (q : List (Addr × Obj)) : Cx where
  prog := c.P
  w := c.w
  K := c.K
  mg := c.mg
  base := c.base
  A := c.A.deeper c.env
  N := c.N
  s_0 := s
  H_0 := H
  env := c.env
  outer := c.outer
  stack := c.env :: c.outer
  ex := []
  fn := fun _ => true
  calm := true
  pn := c.pn ++ q
  xe := fun _ _ => False
/-- where a stretch between two stops began -/
structure Sg where
  s : Shared
  H : Hp
  g : Gd
  pn : List (Addr × Obj)
structure Gs (c : GCx) (ip : List (Addr × Obj)) (b : Sg) (g : Gd) (ρ : Ev) (w : Ws) (σ : L2.St) (H : Hp) (s : Shared) : Prop where
  inv : Inv (c.X b.s b.H b.pn) ip σ H s
  rp : Rp g H w
  en : EnR g σ ρ
  k : g.K = c.K
  x : Xt b.g g
  lo : ∀ p ∈ c.pn ++ ip, c.n0 ≤ p.1 ∧ ∀ q ∈ b.pn, q.1 ≠ p.1
  sz : b.s.heap.objs.size = c.n0
abbrev PhT := List PyData → Sg → End → Shared → Prop
def Yields (c : GCx) (L : List PyData) (Ph : PhT) : Prop :=
  ∀ (ys : List PyData) (b : Sg) (ip : List (Addr × Obj)) (g : Gd) (ρ : Ev) (w : Ws) (σ : L2.St) (H : Hp) (s : Shared) (d : PyData) (x : V) (v : Value) (l : List Value) (k : Resume → Sem PySem.Fin) (code : Code) (p : Pos) (fs : List Frame),
    Gs c ip b g ρ w σ H s → RelV x v → Dq g x d → bnd 0 d = true → w.all plainOb = true → ys ++ [d] <+: L → splitAtGen fs = none → fs.any Frame.guarded = false →
    (∀ b' g' H' s', Xt0 g g' → Gs c ip b' g' ρ w σ H' s' → SegW (model c.P c.w) c.A (Ph (ys ++ [d]) b') code (k (.send .none)) fs s') → Ph ys b (.susp v false l k code p fs) s
structure GC (c : GCx) (code : Code) (fs : List Frame) (gd : Bool → Bool) : Prop where
  over : c.A.over code fs = c.A.deeper c.env
  split : splitAtGen fs = none
  guard : fs.any Frame.guarded = false
  gd : gd false = false
def GP (c : GCx) (ip : List (Addr × Obj)) (D : GE) (g0 : Gd) (ys : List PyData) (b : Sg) (s : Shared) : Flow → Prop
  | .next => ∃ g ρ w σ H, Xt0 g0 g ∧ Gs c ip b g ρ w σ H s ∧ D.nx ρ w ys
  | .brk => ∃ g ρ w σ H, Xt0 g0 g ∧ Gs c ip b g ρ w σ H s ∧ D.bk ρ w ys
  | .cont => ∃ g ρ w σ H, Xt0 g0 g ∧ Gs c ip b g ρ w σ H s ∧ D.ct ρ w ys
  | .ret _ => ∃ g ρ w σ H, Xt0 g0 g ∧ Gs c ip b g ρ w σ H s ∧ D.rt w ys
def GK (c : GCx) (Ph : PhT) (ip : List (Addr × Obj)) (code : Code) (fs : List Frame) (K : Flow → Sem PySem.Fin) (D : GE) (g0 : Gd) : Prop :=
  ∀ (ys : List PyData) (b : Sg) (s : Shared) (f : Flow), GP c ip D g0 ys b s f → SegW (model c.P c.w) c.A (Ph ys b) code (K f) fs s
def GRun (c : GCx) (t : (Flow → Sem PySem.Fin) → (Value → Sem PySem.Fin) → (Bool → Bool) → (List Value → List Value) → Sem PySem.Fin) (f : FGn) : Prop :=
  ∀ (L : List PyData) (Ph : PhT), Yields c L Ph → ∀ (ip : List (Addr × Obj)) (code : Code) (fs : List Frame) (K : Flow → Sem PySem.Fin) (J : Value → Sem PySem.Fin) (gd : Bool → Bool) (lv : List Value → List Value) (D : GE) (ys : List PyData) (b : Sg) (g : Gd) (ρ : Ev) (w : Ws) (σ : L2.St) (H : Hp) (s : Shared),
    GC c code fs gd → Pre L D → GK c Ph ip code fs K D g → Gs c ip b g ρ w σ H s → wish D (f ρ w ys) → SegW (model c.P c.w) c.A (Ph ys b) code (t K J gd lv) fs s
def GJ (c : GCx) (st : Stmt) (f : FGn) : Prop := GRun c (fun K J gd lv => (exec st c.env).wrap K J gd lv) f
def GJs (c : GCx) (st : List Stmt) (f : FGn) : Prop := GRun c (fun K J gd lv => (execs st c.env).wrap K J gd lv) f
variable {c : GCx}
/-- a statement without yield -/
theorem gj_pl {st : Stmt} {f : FS} (h : ∀ s H q, PSf (c.X s H q) W0 st f) : GJ c st (gPl f) := by
  intro L Ph hY ip code fs K J gd lv D ys b g ρ w σ H s gc pre gk st' hw
  refine segw_wrap ?_
  rw [gc.over]
  have hK : g.K = (c.X b.s b.H b.pn).K := st'.k
  have key := (h b.s b.H b.pn).run ip s σ H { nx := fun σ' H' => ∃ g' ρ' w', Xt g g' ∧ Rp g' H' w' ∧ EnR g' σ' ρ' ∧ D.nx ρ' w' ys, rt := fun _ H' => ∃ g' w', Xt g g' ∧ Rp g' H' w' ∧ D.rt w' ys, bk := fun σ' H' => ∃ g' ρ' w', Xt g g' ∧ Rp g' H' w' ∧ EnR g' σ' ρ' ∧ D.bk ρ' w' ys, ct := fun σ' H' => ∃ g' ρ' w', Xt g g' ∧ Rp g' H' w' ∧ EnR g' σ' ρ' ∧ D.ct ρ' w' ys } st'.inv
    ⟨g, ρ, w, hK, st'.rp, st'.en, by
      unfold gPl at hw
      cases e : f ρ w with
      | nx ρ1 w1 => rw [e] at hw; exact fun σ' H' g' x r e' => ⟨g', ρ1, w1, x, r, e', hw⟩
      | rt d w1 => rw [e] at hw; exact fun v H' g' x r _ => ⟨g', w1, x, r, hw⟩
      | bk ρ1 w1 => rw [e] at hw; exact fun σ' H' g' x r e' => ⟨g', ρ1, w1, x, r, e', hw⟩
      | ct ρ1 w1 => rw [e] at hw; exact fun σ' H' g' x r e' => ⟨g', ρ1, w1, x, r, e', hw⟩
      | ex ρ1 c0 f0 w1 => rw [e] at hw; exact hw.elim
      | no => rw [e] at hw; exact hw.elim⟩
  refine wpAny_mono key (fun fl s' hs => gk ys b s' fl ?_) fun x s' hx => hx.elim
  cases fl with
  | next => obtain ⟨σ', H', I', g', ρ', w', x', r', e', q⟩ := hs; exact ⟨g', ρ', w', σ', H', x'.toXt0, ⟨I', r', e', x'.k.trans st'.k, st'.x.trans x', st'.lo, st'.sz⟩, q⟩
  | brk => obtain ⟨σ', H', I', g', ρ', w', x', r', e', q⟩ := hs; exact ⟨g', ρ', w', σ', H', x'.toXt0, ⟨I', r', e', x'.k.trans st'.k, st'.x.trans x', st'.lo, st'.sz⟩, q⟩
  | cont => obtain ⟨σ', H', I', g', ρ', w', x', r', e', q⟩ := hs; exact ⟨g', ρ', w', σ', H', x'.toXt0, ⟨I', r', e', x'.k.trans st'.k, st'.x.trans x', st'.lo, st'.sz⟩, q⟩
  | ret u =>
    obtain ⟨v, σ', H', I', rv, g', w', x', r', q⟩ := hs
    refine ⟨g', List.replicate σ'.length none, w', σ', H', x'.toXt0, ⟨I', r', ⟨by simp, fun i d e => ?_⟩, x'.k.trans st'.k, st'.x.trans x', st'.lo, st'.sz⟩, q⟩
    rw [List.getElem?_replicate] at e
    split at e <;> cases e
theorem GK.mono {Ph : PhT} {ip : List (Addr × Obj)} {code : Code} {fs : List Frame} {K : Flow → Sem PySem.Fin} {D : GE} {g0 g1 : Gd} (x : Xt0 g0 g1) (h : GK c Ph ip code fs K D g0) : GK c Ph ip code fs K D g1 := fun ys b s f hs => h ys b s f (by
  cases f with
  | next => obtain ⟨g, ρ, w, σ, H, y, q⟩ := hs; exact ⟨g, ρ, w, σ, H, x.trans y, q⟩
  | brk => obtain ⟨g, ρ, w, σ, H, y, q⟩ := hs; exact ⟨g, ρ, w, σ, H, x.trans y, q⟩
  | cont => obtain ⟨g, ρ, w, σ, H, y, q⟩ := hs; exact ⟨g, ρ, w, σ, H, x.trans y, q⟩
  | ret u => obtain ⟨g, ρ, w, σ, H, y, q⟩ := hs; exact ⟨g, ρ, w, σ, H, x.trans y, q⟩)
theorem gjs_nil : GJs c [] gNil := by
  intro L Ph hY ip code fs K J gd lv D ys b g ρ w σ H s gc pre gk st' hw
  exact gk ys b s .next ⟨g, ρ, w, σ, H, (Xt.refl g).toXt0, st', hw⟩
theorem gjs_cons {st : Stmt} {rest : List Stmt} {f k : FGn} (h1 : GJ c st f) (h2 : GJs c rest k) (hk : App k) : GJs c (st :: rest) (gSq f k) := by
  intro L Ph hY ip code fs K J gd lv D ys b g ρ w σ H s gc pre gk st' hw
  show SegW _ _ _ _ ((execs (st :: rest) c.env).wrap K J gd lv) fs s
  rw [execs_cons_wrap]
  refine h1 L Ph hY ip code fs _ J gd lv { D with nx := fun ρ w ys => wish D (k ρ w ys) } ys b g ρ w σ H s gc ⟨fun ρ w ys q => hk.pre pre q, pre.bk, pre.ct, pre.rt⟩ (fun ys' b' s' fl hs => ?_) st' ?_
  · cases fl with
    | next =>
      obtain ⟨g', ρ', w', σ', H', x1, q1, q2⟩ := hs
      exact h2 L Ph hY ip code fs K J gd lv D ys' b' g' ρ' w' σ' H' s' gc pre (gk.mono x1) q1 q2
    | brk => exact gk ys' b' s' .brk hs
    | cont => exact gk ys' b' s' .cont hs
    | ret u => exact gk ys' b' s' (.ret u) hs
  · unfold gSq at hw
    cases e : f ρ w ys with
    | nx ρ1 w1 ys1 => rw [e] at hw; exact hw
    | rt w1 ys1 => rw [e] at hw; exact hw
    | bk ρ1 w1 ys1 => rw [e] at hw; exact hw
    | ct ρ1 w1 ys1 => rw [e] at hw; exact hw
    | no => rw [e] at hw; exact hw
end Tg

set_option Elab.async false
set_option linter.all false
set_option maxRecDepth 100000
set_option maxHeartbeats 4000000
namespace Tg
open PySem PySem.Spec PyProof.Rows L2 Td GenW
open Sem (wp)
variable {c : GCx}
/-- yield e -/
theorem gj_yd {e : Expr} {yp pos : Pos} {f : FE} (h : ∀ s H q, PF (c.X s H q) W0 e f) (hco : c.env.scope.isCoroutine = false) (hi : interactive c.env = false := by rfl) : GJ c (.Expr (.Yield (some e) yp) pos) (gYd f) := by
  intro L Ph hY ip code fs K J gd lv D ys b g ρ w σ H s gc pre gk st' hw
  show SegW _ _ _ _ ((exec (.Expr (.Yield (some e) yp) pos) c.env).wrap K J gd lv) fs s
  rw [exec_Expr c.env _ pos hi rfl]
  show SegW _ _ _ _ (.at pos fun _ => ((eval e c.env >>= fun v => (standAt yp >>= fun _ => yieldOut c.env v)) >>= fun x => dropValue (.Yield (some e) yp) pos x).wrap K J gd lv) fs s
  have hy : ∀ v, yieldOut c.env v = yieldValue v := fun v => by simp only [yieldOut, hco, Bool.false_eq_true, if_false]
  simp only [hy]
  refine segw_at ?_
  rw [Sem.bind_eq_wrap', Sem.bind_eq_wrap', Sem.wrap_wrap, Sem.wrap_wrap]
  refine segw_wrap ?_
  rw [gc.over]
  have hK : g.K = (c.X b.s b.H b.pn).K := st'.k
  unfold gYd at hw
  cases ef : f ρ w with
  | ok d w1 =>
    rw [ef] at hw
    simp only at hw
    cases hb2 : bnd 0 d && w1.all plainOb with
    | false => rw [hb2] at hw; exact hw.elim
    | true =>
      rw [hb2] at hw
      have hb := ((Bool.and_eq_true _ _).mp hb2).1
      have hpl := ((Bool.and_eq_true _ _).mp hb2).2
      have hw : D.nx ρ w1 (ys ++ [d]) := hw
      have key := (h b.s b.H b.pn).run ip s σ H (fun x H' => ∃ g', Xt g g' ∧ Rp g' H' w1 ∧ Dq g' x d) st'.inv ⟨g, ρ, w, hK, st'.rp, st'.en, by
        rw [ef]
        exact fun v H' g' x r q => ⟨g', x, r, q⟩⟩
      refine wpAny_mono key (fun v s' hs => ?_) fun x s' hx => hx.elim
      obtain ⟨x, H', I', rv, g', xt, r', dq⟩ := hs
      refine segw_at (segw_yield gc.split gc.gd fun p => ?_)
      refine hY ys b ip g' ρ w1 σ H' s' d x v _ _ code p fs ⟨I', r', st'.en.mono xt.toXt0, xt.k.trans st'.k, st'.x.trans xt, st'.lo, st'.sz⟩ rv dq hb hpl (pre.nx _ _ _ hw) gc.split gc.guard fun b' g2 H2 s2 x2 st2 => ?_
      exact gk (ys ++ [d]) b' s2 .next ⟨g2, ρ, w1, σ, H2, xt.toXt0.trans x2, st2, hw⟩
  | ex c0 f0 w1 => rw [ef] at hw; exact hw.elim
  | no => rw [ef] at hw; exact hw.elim
/-! ### while -/
theorem gc_in {code code' : Code} {fs : List Frame} {gd : Bool → Bool} {k : Result → Sem PySem.Fin} {l kp : List Value} {p : Pos} (g : GC c code fs gd) (hw : code'.weight = 0) (hu : code'.cUnits = 0) : GC c code' (.ret k none (gd false) l code p kp :: fs) id where
  over := (over_loop hw hu).trans g.over
  split := by
    show (splitAtGen fs).map _ = none
    rw [g.split]; rfl
  guard := by
    show (gd false || fs.any Frame.guarded) = false
    rw [g.gd, g.guard]; rfl
  gd := rfl
section
variable {M : Model} {A : Around} {Φ : End → Shared → Prop} {cd : Code} {fs : List Frame} {s : Shared} {env : Env} {K : Flow → Sem PySem.Fin} {H : Value → Sem PySem.Fin} {gd : Bool → Bool} {lv : List Value → List Value}
theorem segw_While {test : Expr} {body orelse : List Stmt} {pos : Pos}
    (h : ∀ p, SegW M A Φ (.whileLoop test body orelse env) (M.den (.whileLoop test body orelse env))
      (.ret (fun r => ((match r with | .ok f => (.pure f : Sem Flow) | .error e => .raise e).onRaise fun (x : Value) => do
        if (← field x 1) == Value.none then unsupported "frame.own-activation:exception-without-traceback"
        setFlight x env.frame).wrap K H gd lv) none (gd false) (lv []) cd p [] :: fs) s) :
    SegW M A Φ cd ((exec (.While test body orelse pos) env).wrap K H gd lv) fs s :=
  segw_at (segw_call h)
theorem segw_whileLoop {prog : Program} {w : World} {test : Expr} {body : List Stmt}
    (h : wpAny (model prog w) (A.over (.whileLoop test body [] env) fs) (isTrue test env (eval test env)) (fun b s' =>
        if b = true then
          ∀ J, SegW (model prog w) A Φ (.whileLoop test body [] env) ((execs body env).wrap (fun f => match f with
            | .next | .cont => .pure (.again (.whileLoop test body [] env))
            | .brk => .pure (.done .next)
            | .ret v => .pure (.done (.ret v))) J id id) fs s'
        else SegW (model prog w) A Φ (.whileLoop test body [] env) (.pure (.done .next)) fs s')
      (fun _ _ => False) s) :
    SegW (model prog w) A Φ (.whileLoop test body [] env) ((model prog w).den (.whileLoop test body [] env)) fs s := by
  show SegW _ A Φ _ ((whileTurn test body [] env).onRaise (fun x => do noteFrame x env; theTreesLotGoes x)) fs s
  unfold whileTurn
  rw [Sem.onRaise_eq_wrap, Sem.bind_eq_wrap', Sem.wrap_wrap]
  refine segw_wrap (wpAny_mono h (fun b s' hb => ?_) fun x s' hx => hx.elim)
  cases b with
  | true =>
    rw [if_pos rfl] at hb
    show SegW _ A Φ _ (Sem.wrap _ _ _ _ (if true = true then _ else _)) fs s'
    rw [if_pos rfl, Sem.bind_eq_wrap', Sem.wrap_wrap]
    rw [Sem.wrap_congr (execs body env) _ _ (K' := fun f => match f with
          | .next | .cont => .pure (.again (.whileLoop test body [] env))
          | .brk => .pure (.done .next)
          | .ret v => .pure (.done (.ret v))) (fun f => by cases f <;> rfl) (fun e => rfl)]
    exact hb _
  | false =>
    rw [if_neg Bool.false_ne_true] at hb
    exact hb
theorem segw_func {prog : Program} {w : World} {body : List Stmt}
    (h : ∀ J, SegW (model prog w) A Φ (.func body env) ((execs body env).wrap (fun f => .pure (.done (.ret (match f with | .ret v => v | _ => .none)))) J id id) fs s) :
    SegW (model prog w) A Φ (.func body env) ((model prog w).den (.func body env)) fs s := by
  show SegW _ A Φ _ (.point [] fun _ => ((execs body env).onRaise (leaving env)) >>= _) fs s
  refine segw_point ?_
  rw [Sem.onRaise_eq_wrap, Sem.bind_eq_wrap', Sem.wrap_wrap]
  rw [Sem.wrap_congr (execs body env) _ _ (K' := fun f => .pure (.done (.ret (match f with | .ret v => v | _ => .none)))) (fun f => by cases f <;> rfl) (fun e => rfl)]
  exact h _
end
theorem gj_wh {test : Expr} {body : List Stmt} {pos : Pos} {t : FT} {f : FGn} (hc : ∀ s H q, PTf (c.X s H q) W0 test t) (hb : GJs c body f) (ha : App f) : GJ c (.While test body [] pos) (gWh t f) := by
  intro L Ph hY ip code fs K J gd lv D ys b g ρ w σ H s gc pre gk st' hw
  show SegW _ _ _ _ ((exec (.While test body [] pos) c.env).wrap K J gd lv) fs s
  refine segw_While fun p => ?_
  have gl := fun (kk : Result → Sem PySem.Fin) => gc_in (k := kk) (code' := .whileLoop test body [] c.env) (l := lv []) (kp := []) (p := p) gc rfl rfl
  have loop : ∀ (m : Nat) (ys : List PyData) (b : Sg) (g1 : Gd) (ρ : Ev) (w : Ws) (σ : L2.St) (H : Hp) (s : Shared), Xt0 g g1 → Gs c ip b g1 ρ w σ H s → wish D (gWl t f m ρ w ys) →
      SegW (model c.P c.w) c.A (Ph ys b) (.whileLoop test body [] c.env) ((model c.P c.w).den (.whileLoop test body [] c.env))
        (.ret (fun r => ((match r with | .ok f => (.pure f : Sem Flow) | .error e => .raise e).onRaise fun (x : Value) => do
          if (← field x 1) == Value.none then unsupported "frame.own-activation:exception-without-traceback"
          setFlight x c.env.frame).wrap K J gd lv) none (gd false) (lv []) code p [] :: fs) s := by
    intro m
    induction m with
    | zero => intro ys b g1 ρ w σ H s _ _ hw; exact hw.elim
    | succ m ih =>
      intro ys b g1 ρ w σ H s xg st hw
      refine segw_whileLoop ?_
      rw [(gl _).over]
      have hK : g1.K = (c.X b.s b.H b.pn).K := st.k
      unfold gWl at hw
      cases et : t ρ w with
      | ok v w1 =>
        rw [et] at hw
        have key := (hc b.s b.H b.pn).run ip s σ H (fun v' H' => v' = v ∧ ∃ g', Xt g1 g' ∧ Rp g' H' w1) st.inv ⟨g1, ρ, w, hK, st.rp, st.en, by
          rw [et]
          exact fun v' H' g' x r q => ⟨q, g', x, r⟩⟩
        refine wpAny_mono key (fun v' s' hs => ?_) fun x s' hx => hx.elim
        obtain ⟨H', I', rfl, g', xt, r'⟩ := hs
        have st2 : Gs c ip b g' ρ w1 σ H' s' := ⟨I', r', st.en.mono xt.toXt0, xt.k.trans st.k, st.x.trans xt, st.lo, st.sz⟩
        cases v' with
        | true =>
          rw [if_pos rfl]
          intro J'
          simp only [cond_true] at hw
          refine hb L Ph hY ip _ _ _ J' id id { nx := fun ρ2 w2 y2 => wish D (gWl t f m ρ2 w2 y2), ct := fun ρ2 w2 y2 => wish D (gWl t f m ρ2 w2 y2), bk := D.nx, rt := D.rt } ys b g' ρ w1 σ H' s' (gl _) ⟨fun ρ w ys q => (app_wl ha m).pre pre q, pre.nx, fun ρ w ys q => (app_wl ha m).pre pre q, pre.rt⟩ (fun ys3 b3 s3 fl hs => ?_) st2 ?_
          · cases fl with
            | next => obtain ⟨g3, ρ3, w3, σ3, H3, x3, q1, q2⟩ := hs; exact segw_again rfl (ih ys3 b3 g3 ρ3 w3 σ3 H3 s3 ((xg.trans xt.toXt0).trans x3) q1 q2)
            | cont => obtain ⟨g3, ρ3, w3, σ3, H3, x3, q1, q2⟩ := hs; exact segw_again rfl (ih ys3 b3 g3 ρ3 w3 σ3 H3 s3 ((xg.trans xt.toXt0).trans x3) q1 q2)
            | brk => exact segw_leaf (.ok .next) (gk.mono (xg.trans xt.toXt0) ys3 b3 s3 .next hs)
            | ret u => exact segw_leaf (.ok (.ret u)) (gk.mono (xg.trans xt.toXt0) ys3 b3 s3 (.ret u) hs)
          · cases e : f ρ w1 ys with
            | nx ρ1 w2 y => rw [e] at hw; exact hw
            | rt w2 y => rw [e] at hw; exact hw
            | bk ρ1 w2 y => rw [e] at hw; exact hw
            | ct ρ1 w2 y => rw [e] at hw; exact hw
            | no => rw [e] at hw; exact hw
        | false =>
          rw [if_neg Bool.false_ne_true]
          exact segw_leaf (.ok .next) (gk ys b s' .next ⟨g', ρ, w1, σ, H', xg.trans xt.toXt0, st2, hw⟩)
      | ex c0 f0 w1 => rw [et] at hw; exact hw.elim
      | no => rw [et] at hw; exact hw.elim
  exact loop 1000000 ys b g ρ w σ H s (Xt.refl g).toXt0 st' hw
end Tg

set_option Elab.async false
set_option linter.all false
set_option maxRecDepth 100000
set_option maxHeartbeats 4000000
namespace Tg
open PySem PySem.Spec PyProof.Rows L2 Td GenW
/-! ### what stood before the generator -/
def trunc (n : Nat) (s : Shared) : Shared := { s with heap := { s.heap with objs := s.heap.objs.extract 0 n } }
theorem trunc_size {n : Nat} {s : Shared} (h : n ≤ s.heap.objs.size) : (trunc n s).heap.objs.size = n := by
  show (s.heap.objs.extract 0 n).size = n
  simp; omega
theorem extract_get {α : Type} (xs : Array α) (n b : Nat) (h : b < n) : (xs.extract 0 n)[b]? = xs[b]? := by
  rw [Array.getElem?_extract]
  by_cases hb : b < xs.size
  · rw [if_pos (by omega)]; simp
  · rw [if_neg (by omega), Array.getElem?_eq_none (by omega)]
theorem trunc_get {n : Nat} {s : Shared} {b : Addr} (h : b < n) : (trunc n s).heap.get? b = s.heap.get? b := by
  show (match (s.heap.objs.extract 0 n)[b]? with | some ⟨_, _, .freed, _⟩ => none | o => o) = _
  rw [extract_get _ _ _ h]
  rfl
theorem trunc_some {n : Nat} {s : Shared} {b : Addr} {o : Obj} (hn : n ≤ s.heap.objs.size) (h : (trunc n s).heap.get? b = some o) : b < n ∧ s.heap.get? b = some o := by
  have hb : b < n := by have := Heap.lt_size h; rw [trunc_size hn] at this; exact this
  exact ⟨hb, by rw [← trunc_get hb]; exact h⟩
def ownA (g : Gd) : List Addr := (List.range g.n).map g.μ
theorem mem_own {g : Gd} {a : Addr} : a ∈ ownA g ↔ ∃ l, l < g.n ∧ g.μ l = a := by simp [ownA]
theorem own_cell {g : Gd} {H : Hp} {w : Ws} (r : Rp g H w) (hw : w.all plainOb = true) {a : Addr} (h : a ∈ ownA g) : g.F a = none ∧ ∃ o, H a = some o ∧ ((∃ xs, o = .lst xs) ∨ ∃ ks, o = .dK ks) := by
  obtain ⟨l, hl, rfl⟩ := mem_own.mp h
  have hl' : l < w.length := by rw [← r.len]; exact hl
  have e : w[l]? = some w[l] := List.getElem?_eq_getElem hl'
  have c := r.cell l _ e
  have p := List.all_eq_true.mp hw w[l] (List.getElem_mem hl')
  cases hq : w[l] with
  | lst ds => rw [hq] at c; obtain ⟨hn, xs, hx, _⟩ := c; exact ⟨hn, _, hx, .inl ⟨_, rfl⟩⟩
  | dK ds => rw [hq] at c; obtain ⟨hn, xs, hx, _⟩ := c; exact ⟨hn, _, hx, .inr ⟨_, rfl⟩⟩
  | ins _ _ => rw [hq] at p; cases p
  | dead => rw [hq] at p; cases p
/-- what a generator's def asks -/
structure GOk (c : GCx) : Prop where
  kind : c.scope.kind = .function
  nocell : ∀ x, c.env.kindOf x ≠ some .cell ∧ c.env.kindOf x ≠ some .free
  cells : c.env.cells = []
  hd : c.A.handled = none
  frs : ∀ b ∈ L2.frs c.outer, b < c.n0
  bsz : c.base.objs.size ≤ c.n0
/-- what a sleeping generator wants to be kept -/
def fpOf (c : GCx) (ip : List (Addr × Obj)) (g : Gd) : List Addr := c.n0 :: ((c.pn ++ ip).map (·.1) ++ ownA g)
/-- the heap that both know -/
def joinH (own : List Addr) (H Hc : Hp) : Hp := fun a => if a ∈ own then H a else Hc a
def pinC (gc : Gd) (Hc : Hp) : Hp := fun a => match gc.F a with
  | none => Hc a
  | some _ => none
def wakeG (c : GCx) (g gc : Gd) (Hc : Hp) : Gd := { K := c.K, F := gc.F, P := pinC gc Hc, μ := g.μ, n := g.n }
def wakeB (c : GCx) (g gc : Gd) (H Hc : Hp) (s : Shared) (q : List (Addr × Obj)) : Sg := ⟨trunc c.n0 s, joinH (ownA g) H Hc, wakeG c g gc Hc, q⟩
structure Wk (c : GCx) (q : List (Addr × Obj)) (fp : List Addr) (h : Heap) (g gc : Gd) (Hc : Hp) (s : Shared) : Prop where
  e0 : Env0 c.P c.w c.K c.mg c.base c.A c.outer s Hc
  sz : c.n0 ≤ s.heap.objs.size
  at_ : ∀ a ∈ fp, Hc a = none ∧ ∀ o, h.get? a = some o → s.heap.get? a = some o
  fro : ∀ a o, gc.F a = some o → Hc a = some o
  ex : ∀ a o, g.F a = some o → gc.F a = some o
  pn : ∀ p ∈ q, s.heap.get? p.1 = some p.2 ∧ Hc p.1 = none ∧ p.1 ∉ fp ∧ p.1 ∉ L2.frs c.outer ∧ ∀ v, p.2.data ≠ .cell v
theorem mid_mem {α : Type} {a b c : List α} {x : α} (h : x ∈ a ++ c) : x ∈ (a ++ b) ++ c := by
  rcases List.mem_append.mp h with h | h
  · exact List.mem_append_left _ (List.mem_append_left _ h)
  · exact List.mem_append_right _ h
theorem mid_cases {α : Type} {a b c : List α} {x : α} (h : x ∈ (a ++ b) ++ c) : x ∈ a ++ c ∨ x ∈ b := by
  rcases List.mem_append.mp h with h | h
  · rcases List.mem_append.mp h with h | h
    · exact .inl (List.mem_append_left _ h)
    · exact .inr h
  · exact .inl (List.mem_append_right _ h)
theorem funs_trunc {n : Nat} {s : Shared} {base : Heap} : ∀ {l : List Env}, (∀ b ∈ L2.frs l, b < n) → s.heap.FunFrames base l → (trunc n s).heap.FunFrames base l
  | [], _, _ => trivial
  | env :: l, hb, ⟨hk, ⟨L, o, hf, hn, ho, hd⟩, hr⟩ => by
    have e : L2.frs (env :: l) = L :: L2.frs l := by unfold L2.frs; rw [List.filterMap_cons, hf]
    rw [e] at hb
    exact ⟨hk, ⟨L, o, hf, hn, by rw [trunc_get (hb L List.mem_cons_self)]; exact ho, hd⟩, funs_trunc (fun b h => hb b (List.mem_cons_of_mem _ h)) hr⟩
theorem wake_ok {c : GCx} (ok : GOk c) {ip : List (Addr × Obj)} {b : Sg} {g : Gd} {ρ : Ev} {w : Ws} {σ : L2.St} {H : Hp} {s : Shared} (G : Gs c ip b g ρ w σ H s) (hw : w.all plainOb = true) {gc : Gd} {Hc : Hp} {s2 : Shared} {q : List (Addr × Obj)}
    (W : Wk c q (fpOf c ip g) s.heap g gc Hc s2) : Gs c ip (wakeB c g gc H Hc s2 q) (wakeG c g gc Hc) ρ w σ (joinH (ownA g) H Hc) s2 := by
  have inOwn : ∀ {a}, a ∈ ownA g → a ∈ fpOf c ip g := fun h => List.mem_cons_of_mem _ (List.mem_append_right _ h)
  have cOwn : ∀ {a}, a ∈ ownA g → Hc a = none := fun h => (W.at_ _ (inOwn h)).1
  have nOwn : ∀ {a o}, Hc a = some o → a ∉ ownA g := fun {a o} e z => by rw [cOwn z] at e; cases e
  have jc : ∀ {a o}, Hc a = some o → joinH (ownA g) H Hc a = some o := fun {a o} e => by unfold joinH; rw [if_neg (nOwn e)]; exact e
  have jo : ∀ {a}, a ∈ ownA g → joinH (ownA g) H Hc a = H a := fun h => by unfold joinH; rw [if_pos h]
  have jn : ∀ {a}, H a = none → Hc a = none → joinH (ownA g) H Hc a = none := fun h1 h2 => by unfold joinH; split; exact h1; exact h2
  have x0 : Xt0 g (wakeG c g gc Hc) := ⟨G.k.symm ▸ rfl, W.ex, fun _ _ => rfl, Nat.le_refl _⟩
  have rp : Rp (wakeG c g gc Hc) (joinH (ownA g) H Hc) w := by
    refine ⟨fun a o e => jc (W.fro a o e), G.rp.len, fun l ob e => ?_, G.rp.inj, fun a o e => ?_⟩
    · have hl : l < g.n := by rw [G.rp.len]; exact (List.getElem?_eq_some_iff.mp e).1
      have ho : g.μ l ∈ ownA g := mem_own.mpr ⟨l, hl, rfl⟩
      have fn : gc.F (g.μ l) = none := by
        cases q : gc.F (g.μ l) with
        | none => rfl
        | some o => have := W.fro _ _ q; rw [cOwn ho] at this; cases this
      have cc := G.rp.cell l ob e
      have p := List.all_eq_true.mp hw ob (List.mem_of_getElem? e)
      cases ob with
      | lst ds => obtain ⟨_, xs, hx, d⟩ := cc; exact ⟨fn, xs, (jo ho).trans hx, d.mono x0 _ _⟩
      | dK ds => obtain ⟨_, xs, hx, d⟩ := cc; exact ⟨fn, xs, (jo ho).trans hx, d.mono x0⟩
      | ins _ _ => cases p
      | dead => cases p
    · have e : pinC gc Hc a = some o := e
      unfold pinC at e
      cases q : gc.F a with
      | some u => rw [q] at e; cases e
      | none =>
        rw [q] at e
        refine ⟨jc e, q, fun l hl z => ?_⟩
        have : Hc a = none := by rw [← z]; exact cOwn (mem_own.mpr ⟨l, hl, rfl⟩)
        rw [this] at e; cases e
  have hok : HOk c.P c.w (joinH (ownA g) H Hc) s2.heap := fun a o e => by
    by_cases ha : a ∈ ownA g
    · rw [jo ha] at e
      obtain ⟨_, o', e', k⟩ := own_cell G.rp hw ha
      rw [e] at e'
      cases e'
      have q := G.inv.hok a o e
      have kp := (W.at_ a (inOwn ha)).2
      rcases k with ⟨xs, rfl⟩ | ⟨ks, rfl⟩
      · obtain ⟨z, its, n, r, e⟩ := q
        exact ⟨z, its, n, r, kp _ e⟩
      · obtain ⟨z, y, vs, r, ob, es, ep, e, cc⟩ := q
        exact ⟨z, y, vs, r, ob, es, ep, kp _ e, cc⟩
    · have e' : Hc a = some o := by unfold joinH at e; rw [if_neg ha] at e; exact e
      exact (W.e0.hok a o e').stay (fun _ _ _ q => q) (fun _ q => jc q) fun _ _ q => jc q
  have I := G.inv
  have pnOk : ∀ p ∈ c.pn ++ ip, p.1 ∈ fpOf c ip g := fun p hp => List.mem_cons_of_mem _ (List.mem_append_left _ (List.mem_map.mpr ⟨p, hp, rfl⟩))
  have inv : Inv (c.X (trunc c.n0 s2) (joinH (ownA g) H Hc) q) ip σ (joinH (ownA g) H Hc) s2 := by
    refine ⟨⟨W.e0.mod, ok.kind, rfl, rfl, by show (trunc c.n0 s2).heap.objs.size ≤ c.n0; rw [trunc_size W.sz]; exact Nat.le_refl _, fun x y a h => ?_, fun x h => ?_, fun x a _ h => ?_, fun _ => ok.hd, Around.frames_deeper W.e0.frames, .inr ⟨rfl, rfl⟩, fun b z => absurd (show b ∈ ([] : List Addr) from z) (by simp),
        fun a o e => ?_, by show c.base.objs.size ≤ (trunc c.n0 s2).heap.objs.size; rw [trunc_size W.sz]; exact ok.bsz, fun a o _ z => absurd (show a ∈ ([] : List Addr) from z) (by simp), fun b z => absurd (show b ∈ ([] : List Addr) from z) (by simp), funs_trunc ok.frs W.e0.funs, fun a ha => ?_⟩,
      rfl, W.e0.bare, ⟨fun a o e _ _ _ => (trunc_some W.sz e).2, fun a o e _ _ _ => ⟨o.slots, (trunc_some W.sz e).2⟩, fun _ _ _ h _ => h, fun a o e _ => ⟨o, (trunc_some W.sz e).2⟩, fun _ _ h => h, fun _ _ _ h => h, fun _ ps h => ⟨#[], by rw [Array.append_empty]; exact h⟩⟩, ?_, fun x a h => ?_, ?_, fun x a h => ?_, fun p hp => ?_, hok, I.len⟩
    · rw [show (c.X (trunc c.n0 s2) (joinH (ownA g) H Hc) q).env.cells = [] from ok.cells] at h; cases h
    · rcases h with h | h
      · exact absurd h (ok.nocell x).1
      · exact absurd h (ok.nocell x).2
    · rw [show (c.X (trunc c.n0 s2) (joinH (ownA g) H Hc) q).env.cells = [] from ok.cells] at h; cases h
    · have hb : a < c.n0 := Nat.lt_of_lt_of_le (Heap.lt_size e) ok.bsz
      obtain ⟨q1, q2⟩ := W.e0.bs a o e
      exact ⟨by show (trunc c.n0 s2).heap.get? a = _; rw [trunc_get hb]; exact q1, jn (I.bs a o e).2 q2⟩
    · exact jn (I.stkFree a (by show a ∈ L2.frs (c.env :: c.outer); unfold L2.frs; rw [List.filterMap_cons]; exact List.mem_cons_of_mem _ ha)) (W.e0.frf a ha)
    · obtain ⟨m, hn, hl⟩ := I.loc
      obtain ⟨o, es, ep, e, r⟩ := hn
      refine ⟨m, ⟨o, es, ep, (W.at_ c.n0 List.mem_cons_self).2 o e, r⟩, fun i x v h1 h2 h3 => ?_⟩
      obtain ⟨u, ru, lk⟩ := hl i x v h1 h2 h3
      refine ⟨u, ru, ?_⟩
      rcases lk with q | ⟨_, a, q, _⟩
      · exact .inl q
      · rw [show (c.X b.s b.H b.pn).env.cells = [] from ok.cells] at q; cases q
    · rw [show (c.X (trunc c.n0 s2) (joinH (ownA g) H Hc) q).env.cells = [] from ok.cells] at h; cases h
    · exact jn I.free (W.at_ c.n0 List.mem_cons_self).1
    · rw [show (c.X (trunc c.n0 s2) (joinH (ownA g) H Hc) q).env.cells = [] from ok.cells] at h; cases h
    · rcases mid_cases (show p ∈ (c.pn ++ q) ++ ip from hp) with hp | hp
      · obtain ⟨p1, p2, p3, p4, p5⟩ := I.pin p (mid_mem hp)
        obtain ⟨q1, q2⟩ := W.at_ p.1 (pnOk p hp)
        exact ⟨q2 _ p1, jn p2 q1, p3, p4, p5⟩
      · obtain ⟨p1, p2, p3, p4, p5⟩ := W.pn p hp
        refine ⟨p1, ?_, fun z => p3 ?_, p4, p5⟩
        · unfold joinH; rw [if_neg fun z => p3 (inOwn z)]; exact p2
        · rw [show p.1 = c.n0 from z]; exact List.mem_cons_self
  exact ⟨inv, rp, G.en.mono x0, rfl, Xt.refl _, fun p hp => ⟨(G.lo p hp).1, fun r hr z => (W.pn r hr).2.2.1 (by rw [z]; exact pnOk p hp)⟩, trunc_size W.sz⟩
theorem wake_xt {c : GCx} {ip : List (Addr × Obj)} {b : Sg} {g : Gd} {ρ : Ev} {w : Ws} {σ : L2.St} {H : Hp} {s : Shared} (G : Gs c ip b g ρ w σ H s) {gc : Gd} {Hc : Hp} (ex : ∀ a o, g.F a = some o → gc.F a = some o) : Xt0 g (wakeG c g gc Hc) :=
  ⟨G.k.symm ▸ rfl, ex, fun _ _ => rfl, Nat.le_refl _⟩
end Tg

set_option Elab.async false
set_option linter.all false
set_option maxRecDepth 100000
set_option maxHeartbeats 4000000
namespace Tg
open PySem PySem.Spec PyProof.Rows L2 Td GenW
/-! ### the consumer behind a stop -/
/-- no object of the consumer -/
structure Pl (X : Cx) (pins : List (Addr × Obj)) (a : Addr) : Prop where
  old : ∀ o, X.s_0.heap.get? a ≠ some o
  loc : a ≠ X.env.locals
  cel : ∀ x c, X.env.cells.lookup x = some c → c ≠ a
  pin : ∀ p ∈ X.pn ++ pins, p.1 ≠ a
/-- all that the consumer has stood before the generator, but for what is at ba -/
structure Lo (X : Cx) (pins : List (Addr × Obj)) (n : Nat) (ba : List Addr) : Prop where
  s0 : X.s_0.heap.objs.size ≤ n
  loc : X.env.locals < n ∨ X.env.locals ∈ ba
  cel : ∀ x c, X.env.cells.lookup x = some c → c < n
  pin : ∀ p ∈ X.pn ++ pins, p.1 < n ∨ p.1 ∈ ba
  ex : X.ex = []
  own : ∀ a ∈ ba, n ≤ a ∧ (a = X.env.locals ∨ ∃ o, (a, o) ∈ X.pn ++ pins)
theorem Lo.pl {X : Cx} {pins : List (Addr × Obj)} {n : Nat} {ba : List Addr} (h : Lo X pins n ba) {a : Addr} (ha : n ≤ a) (hb : a ∉ ba) : Pl X pins a where
  old := fun o e => absurd (Nat.lt_of_lt_of_le (Heap.lt_size e) (Nat.le_trans h.s0 ha)) (Nat.lt_irrefl _)
  loc := fun z => by
    rcases h.loc with q | q
    · rw [← z] at q; exact absurd (Nat.lt_of_lt_of_le q ha) (Nat.lt_irrefl _)
    · rw [← z] at q; exact hb q
  cel := fun x c e z => by have := h.cel x c e; rw [z] at this; exact absurd (Nat.lt_of_lt_of_le this ha) (Nat.lt_irrefl _)
  pin := fun p hp z => by
    rcases h.pin p hp with q | q
    · rw [z] at q; exact absurd (Nat.lt_of_lt_of_le q ha) (Nat.lt_irrefl _)
    · rw [z] at q; exact hb q
structure Sits (c : GCx) (X : Cx) : Prop where
  P : c.P = X.prog
  w : c.w = X.w
  K : c.K = X.K
  mg : c.mg = X.mg
  base : c.base = X.base
  outer : c.outer = X.stack
def backH (g1 : Gd) (H1 : Hp) : Hp := fun a => if a ∈ ownA g1 then none else H1 a
def backG (gc g1 : Gd) : Gd := { K := gc.K, F := g1.F, P := gc.P, μ := gc.μ, n := gc.n }
structure Back (c : GCx) (X : Cx) (pins : List (Addr × Obj)) (σc : L2.St) (wc : Ws) (gc : Gd) (ip1 : List (Addr × Obj)) (g1 : Gd) (H1 : Hp) (s1 : Shared) : Prop where
  inv : Inv X pins σc (backH g1 H1) s1
  rp : Rp (backG gc g1) (backH g1 H1) wc
  x : Xt gc (backG gc g1)
  fp : ∀ a ∈ fpOf c ip1 g1, backH g1 H1 a = none ∧ Pl X pins a ∧ ∃ o, s1.heap.get? a = some o ∧ ∀ v, o.data ≠ .cell v
theorem back_ok {c : GCx} {X : Cx} {pins : List (Addr × Obj)} {σc : L2.St} {Hc : Hp} {s2 : Shared} {gc : Gd} {wc : Ws} (ok : GOk c) (si : Sits c X) (I : Inv X pins σc Hc s2) (rc : Rp gc Hc wc) {ba : List Addr} (lo : Lo X pins c.n0 ba)
    {ip : List (Addr × Obj)} {g : Gd} {H : Hp} {h0 : Heap} (W : Wk c (pinsAt ba s2.heap) (fpOf c ip g) h0 g gc Hc s2) (pl' : ∀ a ∈ fpOf c ip g, Pl X pins a)
    {ip1 : List (Addr × Obj)} {g1 : Gd} {ρ1 : Ev} {w1 : Ws} {σ1 : L2.St} {H1 : Hp} {s1 : Shared} (G1 : Gs c ip1 (wakeB c g gc H Hc s2 (pinsAt ba s2.heap)) g1 ρ1 w1 σ1 H1 s1) (hw1 : w1.all plainOb = true) : Back c X pins σc wc gc ip1 g1 H1 s1 := by
  have inOwn : ∀ {a}, a ∈ ownA g → a ∈ fpOf c ip g := fun h => List.mem_cons_of_mem _ (List.mem_append_right _ h)
  have pl : ∀ a ∈ ownA g, Pl X pins a := fun a h => pl' a (inOwn h)
  have pinB : ∀ {a o}, a ∈ ba → s2.heap.get? a = some o → s1.heap.get? a = some o ∧ H1 a = none := fun {a o} ha e =>
    let z := G1.inv.pin (a, o) (List.mem_append_left _ (List.mem_append_right _ (mem_pinsAt ha e)))
    ⟨z.1, z.2.1⟩
  have cOwn : ∀ {a}, a ∈ ownA g → Hc a = none := fun h => (W.at_ _ (inOwn h)).1
  have jn : ∀ {a}, a ∉ ownA g → Hc a = none → joinH (ownA g) H Hc a = none := fun h1 h2 => by unfold joinH; rw [if_neg h1]; exact h2
  have own1 := fun {a : Addr} (h : a ∈ ownA g1) => own_cell G1.rp hw1 h
  have fK : ∀ {a o}, Hc a = some o → g1.F a = gc.F a := fun {a o} e => by
    cases q : gc.F a with
    | some u => exact G1.x.ex a u q
    | none =>
      have : g1.P a = some o := by rw [G1.x.p]; show pinC gc Hc a = some o; unfold pinC; rw [q]; exact e
      exact (G1.rp.pin a o this).2.1
  have ext : ∀ {a o}, Hc a = some o → H1 a = some o ∧ a ∉ ownA g1 := fun {a o} e => by
    cases q : gc.F a with
    | some u =>
      have e1 := W.fro a u q
      rw [e] at e1
      cases e1
      have e2 : g1.F a = some o := G1.x.ex a o q
      exact ⟨G1.rp.fro a o e2, fun z => by rw [(own1 z).1] at e2; cases e2⟩
    | none =>
      have : g1.P a = some o := by rw [G1.x.p]; show pinC gc Hc a = some o; unfold pinC; rw [q]; exact e
      obtain ⟨p1, p2, p3⟩ := G1.rp.pin a o this
      exact ⟨p1, fun z => by obtain ⟨l, hl, e⟩ := mem_own.mp z; exact p3 l hl e⟩
  have back_c : ∀ {a o}, Hc a = some o → backH g1 H1 a = some o := fun {a o} e => by unfold backH; rw [if_neg (ext e).2]; exact (ext e).1
  have nox : ∀ a : Addr, a ∉ (c.X (trunc c.n0 s2) (joinH (ownA g) H Hc) (pinsAt ba s2.heap)).ex := fun a z => absurd (show a ∈ ([] : List Addr) from z) (by simp)
  have U := G1.inv.base
  have fsE : (c.X (trunc c.n0 s2) (joinH (ownA g) H Hc) (pinsAt ba s2.heap)).fs = L2.frs X.stack := by show L2.frs c.outer = _; rw [si.outer]
  have tg : ∀ {a o}, a < c.n0 → s2.heap.get? a = some o → (trunc c.n0 s2).heap.get? a = some o := fun h e => by rw [trunc_get h]; exact e
  have freeA : ∀ {a o}, (a < c.n0 ∨ a ∈ ba) → s2.heap.get? a = some o → Hc a = none → a ∉ ownA g → H1 a = none := fun h e n no => h.elim (fun h => U.free _ _ (tg h e) (jn no n) (nox _)) fun h => (pinB h e).2
  have keepA : ∀ {a o}, (a < c.n0 ∨ a ∈ ba) → s2.heap.get? a = some o → Hc a = none → a ∉ ownA g → a ∉ L2.frs X.stack → s1.heap.get? a = some o := fun h e n no nf => h.elim (fun h => U.keep _ _ (tg h e) (jn no n) (show _ ∉ (c.X (trunc c.n0 s2) (joinH (ownA g) H Hc) (pinsAt ba s2.heap)).fs by rw [fsE]; exact nf) (nox _)) fun h => (pinB h e).1
  have anyA : ∀ {a o}, (a < c.n0 ∨ a ∈ ba) → s2.heap.get? a = some o → Hc a = none → a ∉ ownA g → ∃ sl, s1.heap.get? a = some { o with slots := sl } := fun {a o} h e n no => h.elim (fun h => U.any (tg h e) (jn no n) (nox _)) fun h => ⟨o.slots, (pinB h e).1⟩
  have thereA : ∀ {a o}, a < c.n0 → s2.heap.get? a = some o → ∃ o', s1.heap.get? a = some o' := fun h e => U.there _ _ (tg h e) (nox _)
  have bn : ∀ {a}, H1 a = none → backH g1 H1 a = none := fun h => by unfold backH; split; rfl; exact h
  have new : ∀ {a o}, a ∈ ownA g1 → (a < c.n0 ∨ a ∈ ba) → s2.heap.get? a = some o → Hc a = none → a ∈ ownA g := fun {a o} ha hl e n => Classical.byContradiction fun no => by
    obtain ⟨_, o', e', _⟩ := own1 ha
    rw [freeA hl e n no] at e'; cases e'
  have hex : ∀ b, b ∉ X.ex := fun b z => by rw [lo.ex] at z; cases z
  have ltS : ∀ {b o}, X.s_0.heap.get? b = some o → b < c.n0 := fun e => Nat.lt_of_lt_of_le (Heap.lt_size e) lo.s0
  have noS : ∀ {b o}, X.s_0.heap.get? b = some o → b ∉ ownA g := fun e z => (pl _ z).old _ e
  have nL : ∀ {b o}, X.s_0.heap.get? b = some o → b ≠ X.env.locals := fun e => Nat.ne_of_lt (Nat.lt_of_lt_of_le (Heap.lt_size e) I.ok.above)
  have stkN : ∀ {b}, b ≠ X.env.locals → b ∉ X.fs → b ∉ L2.frs X.stack := fun h1 h2 z => (List.mem_cons.mp (I.stkSub _ z)).elim h1 h2
  have hokB : HOk X.prog X.w (backH g1 H1) s1.heap := fun a o e => by
    unfold backH at e
    by_cases ha : a ∈ ownA g1
    · rw [if_pos ha] at e; cases e
    · rw [if_neg ha] at e
      have q := G1.inv.hok a o e
      have q' : ObjOk X.prog X.w H1 s1.heap a o := by rw [← si.P, ← si.w]; exact q
      refine q'.stay (fun _ _ _ z => z) (fun d z => ?_) fun d xs z => ?_
      · unfold backH
        rw [if_neg fun zz => ?_]; exact z
        obtain ⟨_, o', e', k⟩ := own1 zz
        rw [z] at e'; cases e'
        rcases k with ⟨_, k⟩ | ⟨_, k⟩ <;> cases k
      · unfold backH
        rw [if_neg fun zz => ?_]; exact z
        obtain ⟨_, o', e', k⟩ := own1 zz
        rw [z] at e'; cases e'
        rcases k with ⟨_, k⟩ | ⟨_, k⟩ <;> cases k
  have exL : ∃ o, s2.heap.get? X.env.locals = some o := by obtain ⟨m, ⟨o, _, _, e, _⟩, _⟩ := I.loc; exact ⟨o, e⟩
  have noL : X.env.locals ∉ ownA g := fun z => (pl _ z).loc rfl
  have cellK : ∀ x a, X.env.cells.lookup x = some a → ∀ v, s2.heap.IsCell a v → s1.heap.IsCell a v := fun x a e v ⟨o, ho, hd⟩ => by
    obtain ⟨sl, q⟩ := anyA (.inl (lo.cel x a e)) ho (I.freeC x a e) fun z => (pl _ z).cel x a e rfl
    exact ⟨_, q, hd⟩
  have inv : Inv X pins σc (backH g1 H1) s1 := by
    refine ⟨I.ok, by rw [G1.inv.os]; exact I.os, G1.inv.bare, ⟨fun b o e n hb hx => ?_, fun b o e n hb hx => ?_, fun b o e n hx => ?_, fun b o e hx => ?_, fun b xs e => back_c (I.base.tups b xs e), fun b o xs e => back_c (I.base.frzs b o xs e), fun b ps e => ?_⟩, ?_, fun x a e => ?_, ?_, fun x a e => ?_, fun p hp => ?_, hokB, I.len⟩
    · exact keepA (.inl (ltS e)) (I.base.keep b o e n hb hx) (I.base.free b o e n hx) (noS e) (stkN (nL e) hb)
    · obtain ⟨sl, e1⟩ := I.base.slot b o e n hb hx
      obtain ⟨sl', e2⟩ := anyA (.inl (ltS e)) e1 (I.base.free b o e n hx) (noS e)
      exact ⟨sl', e2⟩
    · obtain ⟨o', e1⟩ := I.base.there b o e hx
      exact bn (freeA (.inl (ltS e)) e1 (I.base.free b o e n hx) (noS e))
    · obtain ⟨o', e1⟩ := I.base.there b o e hx
      exact thereA (ltS e) e1
    · obtain ⟨m1, e1⟩ := I.base.tbls b ps e
      exact ⟨m1, back_c e1⟩
    · obtain ⟨m, hn, hl⟩ := I.loc
      obtain ⟨o, es, ep, e, r⟩ := hn
      obtain ⟨sl, q⟩ := anyA lo.loc e I.free noL
      refine ⟨m, ⟨_, es, ep, q, r⟩, fun i x v h1 h2 h3 => ?_⟩
      obtain ⟨u, ru, lk⟩ := hl i x v h1 h2 h3
      refine ⟨u, ru, ?_⟩
      rcases lk with q | ⟨k, a, q, z⟩
      · exact .inl q
      · exact .inr ⟨k, a, q, cellK x a q _ z⟩
    · obtain ⟨v, z⟩ := I.cell x a e
      exact ⟨v, cellK x a e v z⟩
    · obtain ⟨o, e⟩ := exL
      exact bn (freeA lo.loc e I.free noL)
    · obtain ⟨v, o, ho, _⟩ := I.cell x a e
      exact bn (freeA (.inl (lo.cel x a e)) ho (I.freeC x a e) fun z => (pl _ z).cel x a e rfl)
    · obtain ⟨p1, p2, p3, p4, p5⟩ := I.pin p hp
      have no : p.1 ∉ ownA g := fun z => (pl _ z).pin p hp rfl
      exact ⟨keepA (lo.pin p hp) p1 p2 no (stkN p3 p4), bn (freeA (lo.pin p hp) p1 p2 no), p3, p4, p5⟩
  have x0 : Xt gc (backG gc g1) := ⟨⟨rfl, fun a o e => G1.x.ex a o e, fun _ _ => rfl, Nat.le_refl _⟩, rfl⟩
  refine ⟨inv, ⟨fun a o e => ?_, rc.len, fun l ob e => ?_, rc.inj, fun a o e => ?_⟩, x0, fun a ha => ?_⟩
  · have e : g1.F a = some o := e
    unfold backH
    rw [if_neg fun z => by rw [(own1 z).1] at e; cases e]
    exact G1.rp.fro a o e
  · refine (rc.cell l ob e).new x0.toXt0 fun b hb => ?_
    obtain ⟨o, ho⟩ := Option.isSome_iff_exists.mp hb
    exact ⟨fK ho, by rw [back_c ho, ho]⟩
  · obtain ⟨p1, p2, p3⟩ := rc.pin a o e
    exact ⟨back_c p1, (fK p1).trans p2, p3⟩
  · rcases List.mem_cons.mp ha with rfl | ha
    · refine ⟨bn G1.inv.free, pl' _ List.mem_cons_self, ?_⟩
      obtain ⟨m, ⟨o, es, ep, e, d, _⟩, _⟩ := G1.inv.loc
      exact ⟨o, e, fun v z => by rw [d] at z; cases z⟩
    · rcases List.mem_append.mp ha with ha | ha
      · obtain ⟨p, hp, rfl⟩ := List.mem_map.mp ha
        obtain ⟨p1, p2, p3, p4, p5⟩ := G1.inv.pin p (mid_mem hp)
        refine ⟨bn p2, lo.pl (G1.lo p hp).1 fun hb => ?_, _, p1, p5⟩
        rcases (lo.own _ hb).2 with z | ⟨o, hq⟩
        · obtain ⟨o, e⟩ := exL
          exact (G1.lo p hp).2 (p.1, o) (mem_pinsAt hb (by rw [z]; exact e)) rfl
        · exact (G1.lo p hp).2 (p.1, o) (mem_pinsAt hb (I.pin _ hq).1) rfl
      · obtain ⟨_, o, e, k⟩ := own1 ha
        have q := G1.inv.hok a o e
        refine ⟨by unfold backH; rw [if_pos ha], ⟨fun o' e' => ?_, fun z => ?_, fun x cc e' z => ?_, fun p hp z => ?_⟩, ?_⟩
        · obtain ⟨o2, e2⟩ := I.base.there a o' e' (hex a)
          cases hq : Hc a with
          | some u => exact (ext hq).2 ha
          | none => exact noS e' (new ha (.inl (ltS e')) e2 hq)
        · subst z
          obtain ⟨o', e'⟩ := exL
          exact noL (new ha lo.loc e' I.free)
        · subst z
          obtain ⟨v, o', ho, _⟩ := I.cell x cc e'
          exact (pl _ (new ha (.inl (lo.cel x cc e')) ho (I.freeC x cc e'))).cel x cc e' rfl
        · obtain ⟨p1, p2, p3, p4, p5⟩ := I.pin p hp
          rw [← z] at ha
          exact (pl _ (new ha (lo.pin p hp) p1 p2)).pin p hp rfl
        · rcases k with ⟨xs, rfl⟩ | ⟨ks, rfl⟩
          · obtain ⟨_, its, n, _, e⟩ := q
            exact ⟨_, e, fun v z => by cases z⟩
          · obtain ⟨_, _, vs, _, ob, es, ep, e, cc⟩ := q
            refine ⟨ob, e, fun v z => ?_⟩
            rw [cc.2.1] at z
            cases z
/-- what is handed out is the consumer's -/
theorem dq_back {gc g1 : Gd} {x : V} {d : PyData} (hK : g1.K = gc.K) (h : Dq g1 x d) (hb : bnd 0 d = true) : Dq (backG gc g1) x d :=
  (h.cut d x hb : Dq (g1.cut 0) x d).mono (g := g1.cut 0) (g' := backG gc g1) ⟨hK.symm, fun _ _ e => e, fun l hl => absurd hl (Nat.not_lt_zero l), Nat.zero_le _⟩ d x
end Tg

set_option Elab.async false
set_option linter.all false
set_option maxRecDepth 100000
set_option maxHeartbeats 4000000
namespace Tg
open PySem PySem.Spec PyProof.Rows L2 Td GenW
/-! ### what is handed out, one by one -/
def endOk (c : GCx) (L ys : List PyData) (b : Sg) (s : Shared) : Prop := ys = L ∧ ∃ g ρ w σ H, Gs c [] b g ρ w σ H s ∧ w.all plainOb = true
def PhR (c : GCx) (L : List PyData) : Nat → PhT
  | 0 => fun ys b e s => match e with
    | .ret r => r = .ok (.ret .none) ∧ endOk c L ys b s
    | .susp .. => False
  | m + 1 => fun ys b e s => match e with
    | .ret r => r = .ok (.ret .none) ∧ endOk c L ys b s
    | .susp v gd l k code p fs => gd = false ∧ fs.any Frame.guarded = false ∧ splitAtGen fs = none ∧ ∃ ip g ρ w σ H d x, Gs c ip b g ρ w σ H s ∧ w.all plainOb = true ∧ RelV x v ∧ Dq g x d ∧ bnd 0 d = true ∧ ys ++ [d] <+: L ∧
        ∀ b' g' H' s', Xt0 g g' → Gs c ip b' g' ρ w σ H' s' → SegW (model c.P c.w) c.A (PhR c L m (ys ++ [d]) b') code (k (.send .none)) fs s'
def Ph (c : GCx) (L : List PyData) : PhT := fun ys => PhR c L (L.length - ys.length) ys
theorem ph_yields (c : GCx) (L : List PyData) : Yields c L (Ph c L) := by
  intro ys b ip g ρ w σ H s d x v l k code p fs G rv dq hb hw hp hs hg hk
  have hl : ys.length + 1 ≤ L.length := by have := hp.length_le; simpa using this
  unfold Ph
  rw [show L.length - ys.length = (L.length - (ys.length + 1)) + 1 by omega]
  refine ⟨rfl, hg, hs, ip, g, ρ, w, σ, H, d, x, G, hw, rv, dq, hb, hp, fun b' g' H' s' x' G' => ?_⟩
  have := hk b' g' H' s' x' G'
  unfold Ph at this
  simpa using this
theorem ph_end {c : GCx} {L ys : List PyData} {b : Sg} {s : Shared} (h : endOk c L ys b s) : Ph c L ys b (.ret (.ok (.ret .none))) s := by
  unfold Ph
  cases L.length - ys.length <;> exact ⟨rfl, h⟩
theorem ph_ret {c : GCx} {L ys : List PyData} {b : Sg} {s : Shared} {r : Result} (h : Ph c L ys b (.ret r) s) : r = .ok (.ret .none) ∧ endOk c L ys b s := by
  unfold Ph at h
  cases e : L.length - ys.length with
  | zero => rw [e] at h; exact h
  | succ m => rw [e] at h; exact h
/-! ### next -/
def GoW (M : Model) (A : Around) (Φ : End → Shared → Prop) (gs : GenState) (s : Shared) : Prop := match gs with
  | .fresh code => SegW M A Φ code (M.den code) [] s
  | .suspended k _ code _ fs _ => SegW M A Φ code (k (.send .none)) fs s
  | _ => False
theorem wpAny_resumeW {M : Model} {A : Around} {Φ : End → Shared → Prop} {E : Value → Shared → Prop} {s : Shared} {g : Nat} {gs : GenState} {l : List Value} {α : Type} {k : GenResult → Sem α} {Q : α → Shared → Prop} (hg : s.gens[g]? = some gs)
    (hgo : GoW M A Φ gs (s.setGen g .running)) (hq : ∀ e s₁, Φ e s₁ → e.quiet = true) (h : ∀ e s₁, Φ e s₁ → wpAny M A (k e.result) Q E (s₁.setGen g e.genState)) : wpAny M A (.resume g (.send .none) l k) Q E s := by
  intro Γ p hΓ
  rw [Sem.wp_resume]
  have hB : ∀ c, (Γ.wake c p).Woken A := fun c => hΓ.wake c p
  cases gs with
  | fresh code =>
    obtain ⟨e₁, s₁, hr, he⟩ := hgo (Γ.wake code p) p rfl (hB code)
    exact ⟨_, _, by unfold Wakes; rw [hg]; exact ⟨e₁, s₁, hr, hq e₁ s₁ he, rfl, rfl⟩, h e₁ s₁ he Γ p hΓ⟩
  | suspended k₀ l₀ c₀ p₀ fs₀ cl =>
    obtain ⟨e₁, s₁, hr, he⟩ := hgo (Γ.wake c₀ p) p₀ rfl (hB c₀)
    exact ⟨_, _, by unfold Wakes; rw [hg]; exact ⟨e₁, s₁, hr, hq e₁ s₁ he, rfl, rfl⟩, h e₁ s₁ he Γ p hΓ⟩
  | running => exact hgo.elim
  | finished => exact hgo.elim
theorem next_genW {P : Program} {w : World} {A : Around} {E : Value → Shared → Prop} {s : Shared} {a : Addr} {g : Nat} {gs : GenState} {Φ : End → Shared → Prop} {Q : Option Value → Shared → Prop} (hh : A.handled = none)
    (hl : s.heap.NoLimit) (hroom : A.depth < recursionLimit) (hg : s.heap.IsGen a g) (hgs : s.gens[g]? = some gs) (hgo : GoW (model P w) A.in1 Φ gs (s.setGen g .running))
    (hR : ∀ r s₁, Φ (.ret r) s₁ → r = .ok (.ret .none) ∧ ∀ h', (∀ b o, s₁.heap.get? b = some o → h'.get? b = some o) → Q none { s₁.setGen g .finished with heap := h' })
    (hY : ∀ v gd l k code p fs s₁, Φ (.susp v gd l k code p fs) s₁ → gd = false ∧ fs.any Frame.guarded = false ∧ Q (some v) (s₁.setGen g (.suspended k l code p fs false))) :
    wpAny (model P w) A (pyNext (.ref a)) Q E s := by
  unfold pyNext
  refine wpAny_bind (wpAny_attempt (wpAny_callSpecial?_slot (name := Str.ofString "__next__") hg.typeIs slot_gen_next
    (wpAny_call_entry slot_gen_next hg.typeIs entry_gen_next ?_ (args_gen_next _))))
  show wpAny _ A.in1 (Builtin.Generator.genWake (.ref a) (.send .none)) _ _ s
  unfold Builtin.Generator.genWake
  refine wpAny_bind (wpAny_holding (wpAny_genNumber hg (wpAny_bind (wpAny_genState hgs ?_))))
  cases gs with
  | running => exact hgo.elim
  | finished => exact hgo.elim
  | _ =>
    refine wpAny_bind (wpAny_roomToWake hl hroom ?_)
    show wpAny _ A.in1 (.resume g (.send .none) [] _) _ _ s
    refine wpAny_resumeW hgs hgo (fun e s₁ he => ?_) fun e s₁ he => ?_
    · cases e with
      | ret r => rfl
      | susp v gd l k code p fs =>
        obtain ⟨h1, h2, _⟩ := hY v gd l k code p fs s₁ he
        simp only [End.quiet, h1, h2]
        rfl
    · cases e with
      | ret r =>
        obtain ⟨rfl, hp⟩ := hR r s₁ he
        show wpAny _ A.in1 (newExc (.type "StopIteration") [] >>= _) _ _ _
        refine wpAny_bind ?_
        simp only [newExc, newTuple]
        refine wpAny_bind (wpAny_newObj_type ?_ (by size_fits))
        refine wpAny_bind (m := firstArgMember _ _) (wpAny_of_eq (a := Value.none) (by first | rfl | (simp only [firstArgMember]; rfl)) ?_)
        refine wpAny_newObj_type ?_ (by size_fits)
        simp only [raiseNew]
        refine wpAny_bind (wpAny_bind (wpAny_handled ?_))
        first | rw [show A.in1.handled = none from hh] | rw [hh]
        refine wpAny_throw ?_
        refine wpAny_bind (wpAny_isInstance (T := "StopIteration") (b := true) ⟨_, Heap.get?_push_size _ rfl, rfl⟩ isSubtype_stop ?_)
        exact wpAny_pure (hp _ fun b o hb => Heap.get?_push_of_some _ (Heap.get?_push_of_some _ hb))
      | susp v gd l k code p fs =>
        obtain ⟨h1, h2, hq⟩ := hY v gd l k code p fs s₁ he
        subst h1
        have e : End.genState (.susp v false l k code p fs) = .suspended k l code p fs false := by
          show GenState.suspended k l code p fs (false || fs.any Frame.guarded) = _
          rw [h2]; rfl
        rw [e]
        exact wpAny_pure ⟨v, rfl, wpAny_pure hq⟩
end Tg

set_option Elab.async false
set_option linter.all false
set_option maxRecDepth 100000
set_option maxHeartbeats 4000000
namespace Tg
open PySem PySem.Spec PyProof.Rows L2 Td GenW
/-! ### a generator is made -/
def genF (m n : Nat) (body : FGn) : List PyData → Option (List PyData) := fun ds => if ds.length = n ∧ bndA 0 ds = true then match body (startE m ds) [] [] with
    | .nx _ w ys => cond (w.all plainOb) (some ys) none
    | _ => none
  else none
structure Made (P : Program) (w : World) (K : PySem.W.Frag) (mg : Str → Option Value) (base : Heap) (outer : List Env) (A : Around) (H : Hp) (s : Shared) (gc : Gd) (L : List PyData) (u : Value) (s' : Shared) : Prop where
  ex : ∃ (c : GCx) (a0 : Addr) (gi : Nat) (code : Code) (go : Obj) (g : Gd) (ρ : Ev) (σ : L2.St), u = .ref a0 ∧ GOk c ∧ (c.P = P ∧ c.w = w ∧ c.K = K ∧ c.mg = mg ∧ c.base = base ∧ c.outer = outer ∧ c.A = A.in1 ∧ c.n0 = s.heap.objs.size ∧ c.pn = [(a0, go)]) ∧
    ((∀ h : Heap, h.get? a0 = some go → h.IsGen a0 gi) ∧ ∃ vs, go.data = .fields vs ∧ go.cls = .type "generator") ∧ s'.gens[gi]? = some (.fresh code) ∧ s'.os = s.os ∧ AllBare s'.gens ∧ (∀ b o, s.heap.get? b = some o → s'.heap.get? b = some o) ∧ Gs c [] ⟨s, H, g, []⟩ g ρ [] σ H s' ∧ (∀ a o, g.F a = some o → gc.F a = some o) ∧ g.n = 0 ∧
    ∀ b' g' H' s2, Gs c [] b' g' ρ [] σ H' s2 → SegW (model P w) c.A (Ph c L [] b') code ((model P w).den code) [] s2
structure GnF (P : Program) (w : World) (K : PySem.W.Frag) (mg : Str → Option Value) (base : Heap) (k : Nat) (f : Addr) (fd : FuncData) (ps : List Str) (gf : List PyData → Option (List PyData)) : Prop where
  len : ∀ ds L, gf ds = some L → ds.length = ps.length
  run : ∀ (A : Around) (outer : List Env) (s : Shared) (H : Hp) (args : Args) (us : List Value) (vs : List V) (gc : Gd) (ds L : List PyData), Room k A → A.guards = some [] → Env0 P w K mg base A outer s H → BindsTo s fd args (ps.zip us) → Vals vs us →
    gc.K = K → (∀ a o, gc.F a = some o → H a = some o) → DqA gc vs ds → gf ds = some L →
    codeAny (model P w) A (.call (.ref f) args) (fun r s' => match r with | .ok (.ret u) => Made P w K mg base outer A H s gc L u s' | _ => False) s
theorem GnF.mono {P : Program} {w : World} {K : PySem.W.Frag} {mg : Str → Option Value} {base : Heap} {j k : Nat} {f : Addr} {fd : FuncData} {ps : List Str} {gf : List PyData → Option (List PyData)} (F : GnF P w K mg base j f fd ps gf) (h : j ≤ k) : GnF P w K mg base k f fd ps gf :=
  ⟨F.len, fun A outer s H args us vs gc ds L hr => F.run A outer s H args us vs gc ds L (hr.mono h)⟩
theorem cells_none : ∀ {l : List (Str × NameKind)} (n : Nat), (l.all fun y => !decide (y.2 = .cell)) = true → ∀ acc, cellsFrom n l acc = acc
  | [], _, _, _ => rfl
  | (x, k) :: l, n, h, acc => by
    have h' : (!decide (k = .cell)) = true ∧ (l.all fun y => !decide (y.2 = .cell)) = true := by simpa using h
    have hk : (k == .cell) = false := by
      have : k ≠ .cell := by simpa using h'.1
      cases k <;> first | rfl | exact absurd rfl this
    unfold cellsFrom
    rw [hk]
    exact cells_none n h'.2 acc
theorem gnf_of {P : Program} {w : World} {K : PySem.W.Frag} {mg : Str → Option Value} {base : Heap} {x qual : Str} {st : Stmt} {f : Addr} {fd : FuncData} {N ps : List Str} {k : Nat} {bf : FGn} (F : Fun K x qual st f fd) (S : GScope N ps (defScope st))
    (hn : ((defScope st).names.all fun y => !decide (y.2 = .cell)) = true)
    (hbody : ∀ c : GCx, c.P = P → c.w = w → c.K = K → c.mg = mg → c.base = base → c.N = N → c.qual = qual → c.scope = defScope st → c.f = f → Room k (c.A.deeper c.env) → c.A.guards = some [] → GJs c (defBody st) bf) : GnF P w K mg base (k + 2) f fd ps (genF N.length ps.length bf) := by
  obtain ⟨oc, od, kV, doc, pm, an, cdv, ct, osl, rfl, lk, hcd⟩ := F.ex
  refine ⟨fun ds L h => ?_, fun A outer s H args us vs gc ds L hr hg e0 hb r hK hF hd hgf => ?_⟩
  · unfold genF at h
    split at h
    · rename_i q; exact q.1
    · cases h
  obtain ⟨⟨hlen, hbnd⟩, hbod⟩ : (ds.length = ps.length ∧ bndA 0 ds = true) ∧ ∃ ρ' w', bf (startE N.length ds) [] [] = .nx ρ' w' L ∧ w'.all plainOb = true := by
    unfold genF at hgf
    split at hgf
    · rename_i q
      refine ⟨q, ?_⟩
      split at hgf
      · rename_i ρ' w' ys e
        cases hw : w'.all plainOb with
        | true => rw [hw] at hgf; cases hgf; exact ⟨ρ', w', e, hw⟩
        | false => rw [hw] at hgf; cases hgf
      · cases hgf
    · cases hgf
  have hl : vs.length = ps.length := by rw [hd.length]; exact hlen
  have KX : K.In s.heap := e0.mod.kin.keeps fun b o e => (e0.bs b o e).1
  have lim : s.heap.NoLimit := e0.mod.nolimit.keeps fun b o e => (e0.bs b o e).1
  have hkind : ∀ y ∈ ps.zip us, (defScope st).names.lookup y.1 = some .local ∨ ((defScope st).names.lookup y.1 = some .cell ∧ ((cellsFrom (s.heap.objs.size + 1) (defScope st).names []).lookup y.1).isSome = true) := fun ⟨n, v⟩ hy => by
    rcases S.par n (List.of_mem_zip hy).1 with q | q
    · exact .inl q
    · exact .inr ⟨q, PySem.W.cellsFrom_some _ _ _ (.inl q)⟩
  refine codeAny_call_generator hr.depth (KX _ _ lk) rfl S.co S.gen rfl (PySem.W.codeRec_of KX hcd) (hb _ _ _ _ ?_)
  refine wpAny_newFunctionEnv_cells S.kind hkind fun env he s1 xx => ?_
  subst he
  have lim1 : s1.heap.NoLimit := lim.keeps xx.toInCall.keep
  refine ⟨lim1, ?_⟩
  obtain ⟨h1, tk, es1, hk1⟩ := xx.done
  have os1 : s1.os = s.os := by rw [es1]
  have gen1 : s1.gens = s.gens := by rw [es1]
  have lt1 : s.heap.objs.size < s1.heap.objs.size := xx.toInCall.ns.lt
  have kp1 : ∀ b o, s.heap.get? b = some o → s1.heap.get? b = some o := xx.toInCall.keep
  have main : ∀ (go : Obj) (nm qn : Value) (tk2 : Nat), go.cls = .type "generator" → go.data = .fields #[.int s1.gens.size 0, nm, qn] → go.slots = #[] → (∀ h : Heap, (h.push go).get? h.objs.size = some go) →
      Made P w K mg base outer A H s gc L (.ref s1.heap.objs.size) { s1 with gens := s1.gens.push (.fresh (.func (defBody st) (envOfC qual (defScope st) s.heap.objs.size f cdv))), toks := tk2, heap := s1.heap.push go } := by
    intro go nm qn tk2 hgc hgd0 hgs hgp
    have hgen : ∀ h : Heap, h.get? s1.heap.objs.size = some go → h.IsGen s1.heap.objs.size s1.gens.size := fun h e => ⟨go, nm, qn, e, hgc, hgd0, hgs⟩
    have hpushed : (s1.heap.push go).get? s1.heap.objs.size = some go := hgp _
    have e0w : Env0 P w K mg base A.in1 outer s H := ⟨e0.frames, e0.mod, e0.bs, e0.bsz, e0.funs, e0.frf, e0.hok, e0.bare⟩
    have I1 : Inv (gcxOf P w K mg base N qual (defScope st) f cdv A.in1 outer s H (fun _ _ _ => False) []) [] (start N vs) H s1 := inv_startG S hr.hd e0w hl r xx
    have bare' : AllBare (s1.gens.push (.fresh (.func (defBody st) (envOfC qual (defScope st) s.heap.objs.size f cdv)))) := AllBare.push (by rw [gen1]; exact e0.bare) rfl
    have kp2 : ∀ b o, s1.heap.get? b = some o → (s1.heap.push go).get? b = some o := fun b o e => Heap.get?_push_of_some _ e
    have I2 : Inv (gcxOf P w K mg base N qual (defScope st) f cdv A.in1 outer s H (fun _ _ _ => False) []) [] (start N vs) H { s1 with gens := s1.gens.push (.fresh (.func (defBody st) (envOfC qual (defScope st) s.heap.objs.size f cdv))), toks := tk2, heap := s1.heap.push go } :=
      I1.call' (ch := []) rfl (Un.kept kp2) (I1.hok.kept kp2) bare' fun b z => by simp at z
    let c : GCx := ⟨P, w, K, mg, base, N, qual, defScope st, f, cdv, outer, A.in1, s.heap.objs.size, [(s1.heap.objs.size, go)]⟩
    have cn := cells_none (l := (defScope st).names) (s.heap.objs.size + 1) hn []
    have inv : Inv (c.X s H []) [] (start N vs) H { s1 with gens := s1.gens.push (.fresh (.func (defBody st) (envOfC qual (defScope st) s.heap.objs.size f cdv))), toks := tk2, heap := s1.heap.push go } := by
      refine ⟨⟨I2.ok.mod, I2.ok.kind, I2.ok.glob, I2.ok.blt, I2.ok.above, I2.ok.inj, I2.ok.has, I2.ok.cab, I2.ok.hd, I2.ok.frames, I2.ok.stk, I2.ok.exf, I2.ok.bs, I2.ok.bsz, I2.ok.noex, I2.ok.exfs, I2.ok.funs, I2.ok.frf⟩, I2.os, I2.bare, I2.base, I2.loc, I2.cell, I2.free, I2.freeC, fun p hp => ?_, I2.hok, I2.len⟩
      have hp : p ∈ ([(s1.heap.objs.size, go)] ++ []) ++ [] := hp
      rw [List.append_nil, List.append_nil, List.mem_singleton] at hp
      subst hp
      exact ⟨hpushed, I1.hok.fresh (Nat.le_refl _), Nat.ne_of_gt lt1, I1.nofs (Nat.le_refl _), fun v q => by rw [hgd0] at q; cases q⟩
    let g0 : Gd := ⟨K, gc.F, fun _ => none, fun _ => 0, 0⟩
    have dq0 : DqA g0 vs ds := (hd.cutA ds vs hbnd : DqA (gc.cut 0) vs ds).mono (g := gc.cut 0) (g' := g0) ⟨hK.symm, fun _ _ e => e, fun l hl => absurd hl (Nat.not_lt_zero l), Nat.le_refl _⟩ ds vs
    have rp0 : Rp g0 H [] := ⟨hF, rfl, fun l ob e => by simp at e, fun l m hl => absurd hl (Nat.not_lt_zero l), fun a o e => by cases e⟩
    have ok : GOk c := by
      refine ⟨S.kind, fun y => ⟨fun h => ?_, fun h => ?_⟩, cn, hr.hd, fun b hb => ?_, e0.bsz⟩
      · have h : (defScope st).names.lookup y = some .cell := h
        have := List.all_eq_true.mp hn _ (PySem.mem_of_lookup h)
        simp at this
      · have h : (defScope st).names.lookup y = some .free := h
        exact absurd rfl (S.nofree _ (PySem.mem_of_lookup h))
      · obtain ⟨_, o, ho, _⟩ := e0.funs.mem hb
        exact Heap.lt_size ho
    have room : Room k (c.A.deeper c.env) := (hr.in1).deeper _
    have gj := hbody c rfl rfl rfl rfl rfl rfl rfl rfl rfl room hg
    refine ⟨c, s1.heap.objs.size, s1.gens.size, .func (defBody st) c.env, go, g0, startE N.length ds, start N vs, rfl, ok, ⟨rfl, rfl, rfl, rfl, rfl, rfl, rfl, rfl, rfl⟩, ⟨hgen, _, hgd0, hgc⟩, Array.getElem?_push_size .., os1, bare', fun b o e => kp2 b o (kp1 b o e), ⟨inv, rp0, EnR.begin dq0, rfl, Xt.refl _, fun p hp => ?_, rfl⟩, fun _ _ e => e, rfl, fun b' g' H' s2 G => ?_⟩
    · have hp : p ∈ [(s1.heap.objs.size, go)] ++ [] := hp
      rw [List.append_nil, List.mem_singleton] at hp
      subst hp
      exact ⟨Nat.le_of_lt lt1, fun q hq => absurd (show q ∈ ([] : List (Addr × Obj)) from hq) (by simp)⟩
    · refine segw_func fun J => ?_
      obtain ⟨ρ', w', eb, hw'⟩ := hbod
      refine gj L (Ph c L) (ph_yields c L) [] _ [] _ J id id { nx := fun _ w ys => ys = L ∧ w.all plainOb = true, rt := fun _ _ => False, bk := fun _ _ _ => False, ct := fun _ _ _ => False } [] b' g' _ _ _ H' s2 ⟨over_func, rfl, rfl, rfl⟩ ⟨fun _ _ _ h => by rw [h.1]; exact List.prefix_rfl, fun _ _ _ h => h.elim, fun _ _ _ h => h.elim, fun _ _ h => h.elim⟩ (fun ys b3 s3 fl h3 => ?_) G ?_
      · cases fl with
        | next =>
          obtain ⟨g3, ρ3, w3, σ3, H3, _, G3, e3, hw3⟩ := h3
          exact segw_end (.ok (.ret .none)) (ph_end ⟨e3, g3, ρ3, w3, σ3, H3, G3, hw3⟩)
        | brk => obtain ⟨_, _, _, _, _, _, _, q⟩ := h3; exact q.elim
        | cont => obtain ⟨_, _, _, _, _, _, _, q⟩ := h3; exact q.elim
        | ret u => obtain ⟨_, _, _, _, _, _, _, q⟩ := h3; exact q.elim
      · rw [eb]
        exact ⟨rfl, hw'⟩
  exact main _ _ _ _ rfl rfl rfl fun h => Heap.get?_push_size _ rfl
end Tg

set_option Elab.async false
set_option linter.all false
set_option maxRecDepth 100000
set_option maxHeartbeats 4000000
namespace Tg
open PySem PySem.Spec PyProof.Rows L2 Td GenW
/-! ### a sleeping generator, seen by its consumer -/
structure Slp (c : GCx) (X : Cx) (pins : List (Addr × Obj)) (L : List PyData) (gs : GenState) (i : Nat) (gc : Gd) (Hc : Hp) (fp : List Addr) (s : Shared) : Prop where
  ex : ∃ ip g ρ w σ H b sY, fp = fpOf c ip g ∧ Gs c ip b g ρ w σ H sY ∧ w.all plainOb = true ∧ (∀ a o, g.F a = some o → gc.F a = some o) ∧
    (∀ a ∈ fpOf c ip g, Hc a = none ∧ Pl X pins a ∧ ∃ o, sY.heap.get? a = some o ∧ s.heap.get? a = some o ∧ ∀ v, o.data ≠ .cell v) ∧
    ∀ b' g' H' s2, Xt0 g g' → Gs c ip b' g' ρ w σ H' s2 → GoW (model c.P c.w) c.A (Ph c L (L.take i) b') gs s2
theorem inv_heap {X : Cx} {pins : List (Addr × Obj)} {σ : L2.St} {H : Hp} {T s : Shared} (I : Inv X pins σ H T) (h : s.heap = T.heap) (o : s.os = T.os) (b : AllBare s.gens) : Inv X pins σ H s :=
  ⟨I.ok, o.trans I.os, b, by rw [h]; exact I.base, by rw [h]; exact I.loc, by rw [h]; exact I.cell, I.free, I.freeC, by rw [h]; exact I.pin, by rw [h]; exact I.hok, I.len⟩
/-- the generator's own -/
structure Own (c : GCx) (X : Cx) (a0 : Addr) (gi : Nat) (go : Obj) : Prop where
  ok : GOk c
  si : Sits c X
  A : c.A = X.A.in1
  pn : c.pn = [(a0, go)]
  gen : ∀ h : Heap, h.get? a0 = some go → h.IsGen a0 gi
theorem Slp.gen {c : GCx} {X : Cx} {pins : List (Addr × Obj)} {L : List PyData} {gs : GenState} {i : Nat} {gc : Gd} {Hc : Hp} {fp : List Addr} {s : Shared} {a0 : Addr} {gi : Nat} {go : Obj} (ow : Own c X a0 gi go) (S : Slp c X pins L gs i gc Hc fp s) : s.heap.get? a0 = some go := by
  obtain ⟨ip, g, ρ, w, σ, H, b, sY, rfl, G, hw, hF, hfp, hgo⟩ := S.ex
  have hm : (a0, go) ∈ c.pn ++ ip := by rw [ow.pn]; exact List.mem_append_left _ (List.mem_singleton.mpr rfl)
  have h1 := (G.inv.pin (a0, go) (mid_mem hm)).1
  obtain ⟨_, _, o, e1, e2, _⟩ := hfp a0 (List.mem_cons_of_mem _ (List.mem_append_left _ (List.mem_map.mpr ⟨(a0, go), hm, rfl⟩)))
  rw [h1] at e1
  cases e1
  exact e2
/-- what next(g) comes to -/
def NextP (c : GCx) (X : Cx) (pins : List (Addr × Obj)) (L : List PyData) (gi : Nat) (i : Nat) (σc : L2.St) (wc : Ws) (gc : Gd) (r : Option Value) (s1 : Shared) : Prop :=
  (r = none ∧ L.take i = L ∧ ∃ Hc1 gc1, Xt gc gc1 ∧ Inv X pins σc Hc1 s1 ∧ Rp gc1 Hc1 wc) ∨
  ∃ u d x gs1 fp1 Hc1 gc1, r = some u ∧ L[i]? = some d ∧ RelV x u ∧ Dq gc1 x d ∧ Xt gc gc1 ∧ Inv X pins σc Hc1 s1 ∧ Rp gc1 Hc1 wc ∧ isSusp gs1 = true ∧ s1.gens[gi]? = some gs1 ∧ Slp c X pins L gs1 (i + 1) gc1 Hc1 fp1 s1
theorem resume_ok {c : GCx} {X : Cx} {pins : List (Addr × Obj)} {L : List PyData} {a0 : Addr} {gi : Nat} {go : Obj} {gs : GenState} {i : Nat} {gc : Gd} {Hc : Hp} {fp : List Addr} {wc : Ws} {σc : L2.St} {s : Shared} {E : Value → Shared → Prop}
    (ow : Own c X a0 gi go) (hh : X.A.handled = none) (hd : X.A.depth < recursionLimit) {ba : List Addr} (lo : Lo X pins c.n0 ba) (I : Inv X pins σc Hc s) (rc : Rp gc Hc wc) (hK : gc.K = X.K) (hi : i ≤ L.length) (hgs : s.gens[gi]? = some gs) (S : Slp c X pins L gs i gc Hc fp s) (hsz : c.n0 ≤ s.heap.objs.size) :
    wpAny (model X.prog X.w) X.A (pyNext (.ref a0)) (NextP c X pins L gi i σc wc gc) E s := by
  have hgen := ow.gen _ (S.gen ow)
  have hgl : gi < s.gens.size := (Array.getElem?_eq_some_iff.mp hgs).1
  obtain ⟨ip, g, ρ, w, σ, H, b, sY, rfl, G, hw, hF, hfp, hgo⟩ := S.ex
  have si := ow.si
  have W : Wk c (pinsAt ba (s.setGen gi .running).heap) (fpOf c ip g) sY.heap g gc Hc (s.setGen gi .running) := by
    have e := I.env0
    refine ⟨?_, hsz, fun a ha => ?_, rc.fro, hF, fun p hp => ?_⟩
    · rw [si.P, si.w, si.K, si.mg, si.base, si.outer]
      exact ⟨by rw [ow.A]; exact e.frames, e.mod, e.bs, e.bsz, e.funs, e.frf, e.hok, allBare_setGen e.bare rfl⟩
    · obtain ⟨h1, h2, o, e1, e2, _⟩ := hfp a ha
      refine ⟨h1, fun o' e' => ?_⟩
      rw [e1] at e'
      cases e'
      exact e2
    · obtain ⟨ha, e⟩ := of_pinsAt hp
      have e : s.heap.get? p.1 = some p.2 := e
      obtain ⟨hn, hx⟩ := lo.own _ ha
      refine ⟨e, ?_, fun hf => ?_, fun hz => absurd (Nat.lt_of_lt_of_le (ow.ok.frs _ hz) hn) (Nat.lt_irrefl _), fun v hv => ?_⟩
      · rcases hx with z | ⟨o, z⟩
        · rw [z]; exact I.free
        · exact (I.pin _ z).2.1
      · have q := (hfp _ hf).2.1
        rcases hx with z | ⟨o, z⟩
        · exact q.loc z
        · exact q.pin _ z rfl
      · rcases hx with z | ⟨o, z⟩
        · obtain ⟨m, ⟨o, es, ep, ho, d, _⟩, _⟩ := I.loc
          rw [z, ho] at e
          cases e
          rw [d] at hv
          cases hv
        · have q := I.pin _ z
          have q1 : s.heap.get? p.1 = some o := q.1
          rw [e] at q1
          cases q1
          exact q.2.2.2.2 v hv
  have Gw := wake_ok ow.ok G hw W
  have Ir : Inv X pins σc Hc (s.setGen gi .running) := inv_heap I rfl rfl (allBare_setGen I.bare rfl)
  have plO : ∀ a ∈ fpOf c ip g, Pl X pins a := fun a ha => (hfp a ha).2.1
  have go' := hgo _ _ _ _ (wake_xt G hF) Gw
  rw [si.P, si.w, ow.A] at go'
  have lt : (L.take i).length = i := by rw [List.length_take]; omega
  refine wpAny_gsz (n := gi + 1) hgl (next_genW (Φ := Ph c L (L.take i) (wakeB c g gc H Hc (s.setGen gi .running) (pinsAt ba (s.setGen gi .running).heap))) hh I.nolimit hd hgen hgs go' (fun r s₁ hr => ?_) fun v gd l k code p fs s₁ hs => ?_)
  · obtain ⟨rfl, hL, g1, ρ1, w1, σ1, H1, G1, hw1⟩ := ph_ret hr
    refine ⟨rfl, fun h' hk _ => .inl ⟨rfl, hL, ?_⟩⟩
    have B := back_ok ow.ok si Ir rc lo W plO G1 hw1
    refine ⟨backH g1 H1, backG gc g1, B.x, ?_, B.rp⟩
    exact B.inv.call' (ch := []) rfl (Un.kept hk) (B.inv.hok.kept hk) (allBare_setGen B.inv.bare rfl) fun b z => by simp at z
  · unfold Ph at hs
    cases em : L.length - (L.take i).length with
    | zero => rw [em] at hs; exact hs.elim
    | succ m =>
      rw [em] at hs
      obtain ⟨h1, h2, h3, ip1, g1, ρ1, w1, σ1, H1, d, x, G1, hw1, rv, dq, hb, hp, hk⟩ := hs
      refine ⟨h1, h2, fun hz => .inr ?_⟩
      have B := back_ok ow.ok si Ir rc lo W plO G1 hw1
      have hlt : i < L.length := by have := hp.length_le; rw [List.length_append, lt, List.length_singleton] at this; exact this
      have hd' : L[i]? = some d := by
        obtain ⟨t, ht⟩ := hp
        have : L[i]? = (L.take i ++ [d] ++ t)[i]? := by rw [ht]
        rw [this, List.append_assoc, List.getElem?_append_right (by omega), lt]
        simp
      have tk : L.take (i + 1) = L.take i ++ [d] := by
        rw [List.take_add_one, hd']; rfl
      have K1 : g1.K = gc.K := by rw [G1.k, si.K, hK]
      have zz : gi < s₁.gens.size := by
        have q : (s₁.setGen gi (.suspended k l code p fs false)).gens.size = s₁.gens.size := setGen_size _ _ _
        have hz' : gi + 1 ≤ (s₁.setGen gi (.suspended k l code p fs false)).gens.size := hz
        omega
      refine ⟨v, d, x, .suspended k l code p fs false, fpOf c ip1 g1, backH g1 H1, backG gc g1, rfl, hd', rv, dq_back K1 dq hb, B.x, inv_heap B.inv rfl rfl (allBare_setGen B.inv.bare rfl), B.rp, rfl, setGen_at zz, ⟨ip1, g1, ρ1, w1, σ1, H1, _, s₁, rfl, G1, hw1, fun _ _ e => e, fun a ha => ?_, fun b' g' H' s2 x' G' => ?_⟩⟩
      · obtain ⟨q1, q2, o, q3, q4⟩ := B.fp a ha
        exact ⟨q1, q2, o, q3, q3, q4⟩
      · show SegW _ _ _ code (k (.send .none)) fs s2
        have := hk b' g' H' s2 x' G'
        unfold Ph
        rw [tk, show L.length - (L.take i ++ [d]).length = m by rw [List.length_append, List.length_singleton]; omega]
        exact this
/-- while the consumer goes on the generator's things are pinned -/
theorem Slp.pinned {c : GCx} {X : Cx} {pins : List (Addr × Obj)} {L : List PyData} {gs : GenState} {i : Nat} {gc : Gd} {Hc : Hp} {fp : List Addr} {σc : L2.St} {s : Shared} (S : Slp c X pins L gs i gc Hc fp s) (I : Inv X pins σc Hc s) : Inv X (pins ++ pinsAt fp s.heap) σc Hc s := by
  obtain ⟨ip, g, ρ, w, σ, H, b, sY, rfl, G, hw, hF, hfp, hgo⟩ := S.ex
  refine I.pins_of fun p hp => (List.mem_append.mp hp).elim (fun z => I.pin p (List.mem_append_right _ z)) fun z => ?_
  obtain ⟨ha, e⟩ := of_pinsAt z
  obtain ⟨h1, h2, o, _, e2, d⟩ := hfp p.1 ha
  rw [e] at e2
  cases e2
  refine ⟨e, h1, h2.loc, fun zf => ?_, d⟩
  obtain ⟨_, o, ho, _⟩ := I.ok.funs.mem zf
  exact h2.old o ho
/-- .. and stand behind it as before -/
theorem Slp.after {c : GCx} {X : Cx} {pins : List (Addr × Obj)} {L : List PyData} {gs : GenState} {i : Nat} {gc gc' : Gd} {Hc Hc' : Hp} {fp : List Addr} {σc σc' : L2.St} {s s' : Shared} (S : Slp c X pins L gs i gc Hc fp s) (x : Xt0 gc gc') (I : Inv X (pins ++ pinsAt fp s.heap) σc' Hc' s') : Slp c X pins L gs i gc' Hc' fp s' := by
  obtain ⟨ip, g, ρ, w, σ, H, b, sY, rfl, G, hw, hF, hfp, hgo⟩ := S.ex
  refine ⟨ip, g, ρ, w, σ, H, b, sY, rfl, G, hw, fun a o e => x.ex a o (hF a o e), fun a ha => ?_, hgo⟩
  obtain ⟨h1, h2, o, e1, e2, d⟩ := hfp a ha
  have q := I.pin (a, o) (List.mem_append_right _ (List.mem_append_right _ (mem_pinsAt ha e2)))
  exact ⟨q.2.1, h2, o, e1, q.1, d⟩
end Tg

set_option Elab.async false
set_option linter.all false
set_option maxRecDepth 100000
set_option maxHeartbeats 4000000
namespace Tg
open PySem PySem.Spec PyProof.Rows L2 Td GenW
/-! ### for x in g(..) -/
def iGen (gf : List PyData → Option (List PyData)) (fa : FA) : FA := fun ρ w => (fa ρ w).bind fun ds w1 => match gf ds with
  | some L => .ok L w1
  | none => .no
def nx0 (f : FS) : FS := fun ρ w => match f ρ w with
  | .ex _ _ _ _ => .no
  | o => o
theorem Made.own {X : Cx} {pins : List (Addr × Obj)} {σ : L2.St} {H : Hp} {s s' : Shared} {gc : Gd} {L : List PyData} {u : Value} (I : Inv X pins σ H s) (hex : X.ex = []) (M : Made X.prog X.w X.K X.mg X.base X.stack X.A H s gc L u s') :
    ∃ c a0 gi go gs fp, u = .ref a0 ∧ Own c X a0 gi go ∧ (∃ vs, go.data = .fields vs ∧ go.cls = .type "generator") ∧ Lo X pins c.n0 [] ∧ Inv X pins σ H s' ∧ s'.gens[gi]? = some gs ∧ (∀ a ∈ fp, c.n0 ≤ a) ∧ Slp c X pins L gs 0 gc H fp s' := by
  obtain ⟨c, a0, gi, code, go, g, ρ, σg, rfl, ok, ⟨e1, e2, e3, e4, e5, e6, e7, e8, e9⟩, ⟨hgen, hgo⟩, hgs, hos, hba, hkp, G, hF, hn, seg⟩ := M.ex
  have lo : Lo X pins c.n0 [] := by
    rw [e8]
    refine ⟨I.sz, .inl I.lt, fun x a e => ?_, fun p hp => .inl (Heap.lt_size (I.pin p hp).1), hex, fun a z => by cases z⟩
    obtain ⟨v, o, ho, _⟩ := I.cell x a e
    exact Heap.lt_size ho
  have own0 : ownA g = [] := by unfold ownA; rw [hn]; rfl
  refine ⟨c, a0, gi, go, .fresh code, fpOf c [] g, rfl, ⟨ok, ⟨e1, e2, e3, e4, e5, e6⟩, e7, e9, hgen⟩, hgo, lo, I.call' (ch := []) hos (Un.kept hkp) (I.hok.kept hkp) hba (fun b z => by simp at z), hgs, fun a ha => ?_, ⟨[], g, ρ, [], σg, H, _, s', rfl, G, rfl, hF, fun a ha => ?_, fun b' g' H' s2 _ G' => ?_⟩⟩
  · unfold fpOf at ha
    rw [own0, List.append_nil] at ha
    rcases List.mem_cons.mp ha with rfl | ha
    · exact Nat.le_refl _
    · obtain ⟨p, hp, rfl⟩ := List.mem_map.mp ha
      exact (G.lo p hp).1
  · unfold fpOf at ha
    rw [own0, List.append_nil] at ha
    rcases List.mem_cons.mp ha with rfl | ha
    · refine ⟨G.inv.free, lo.pl (Nat.le_refl _) (by simp), ?_⟩
      obtain ⟨m, ⟨o, es, ep, e, d, _⟩, _⟩ := G.inv.loc
      exact ⟨o, e, e, fun v z => by rw [d] at z; cases z⟩
    · obtain ⟨p, hp, rfl⟩ := List.mem_map.mp ha
      obtain ⟨p1, p2, p3, p4, p5⟩ := G.inv.pin p (mid_mem hp)
      exact ⟨p2, lo.pl (G.lo p hp).1 (by simp), _, p1, p1, p5⟩
  · rw [List.take_zero]
    show SegW _ _ _ _ _ _ _
    rw [e1, e2]
    exact seg b' g' H' s2 G'
theorem Slp.sz {c : GCx} {X : Cx} {pins : List (Addr × Obj)} {L : List PyData} {gs : GenState} {i : Nat} {gc : Gd} {Hc : Hp} {fp : List Addr} {s : Shared} (S : Slp c X pins L gs i gc Hc fp s) : c.n0 ≤ s.heap.objs.size := by
  obtain ⟨ip, g, ρ, w, σ, H, b, sY, rfl, G, hw, hF, hfp, hgo⟩ := S.ex
  obtain ⟨_, _, o, _, e, _⟩ := hfp c.n0 List.mem_cons_self
  exact Nat.le_of_lt (Heap.lt_size e)
section
variable {X : Cx} {W : WX}
/-- the value of g(..): a generator that has not begun -/
theorem call_genZ {x : Str} {f : Addr} {fd : FuncData} {ps : List Str} {gf : List PyData → Option (List PyData)} {k : Nat} {e : Expr} {es : List Expr} {p cpos : Pos} {fa : FA}
    (F : GnF X.prog X.w X.K X.mg X.base k f fd ps gf) (hr : Room k X.A) (hgu : X.A.guards = some []) (hgl : Gl X x) (hm : X.mg x = some (.ref f)) (hk : PySem.W.keepIn X.K (.ref f) = true) (hb0 : Binds X.K fd ps []) (ha : PAf X W (e :: es) fa)
    {pins : List (Addr × Obj)} {s : Shared} {σ : L2.St} {H : Hp} {g : Gd} {Q : Value → Shared → Prop} (hex : X.ex = []) (I : Inv X pins σ H s) (hK : g.K = X.K)
    {Z : Gd → List PyData → Ws → Prop} (want : lX X.K W DqA fa σ H (fun vs H1 => ∃ g1 ds w1 L, gf ds = some L ∧ Xt g g1 ∧ Rp g1 H1 w1 ∧ DqA g1 vs ds ∧ Z g1 L w1))
    (h : ∀ L w1 g1 H1 s' c a0 gi go gs fp, Xt g g1 → Rp g1 H1 w1 → Z g1 L w1 → Own c X a0 gi go → (∃ vs, go.data = .fields vs ∧ go.cls = .type "generator") → Lo X pins c.n0 [] → Inv X pins σ H1 s' → s'.gens[gi]? = some gs → (∀ a ∈ fp, c.n0 ≤ a) → Slp c X pins L gs 0 g1 H1 fp s' → Q (.ref a0) s')
    (hdb : (x == ("__debug__" : Str)) = false := by decide) (he : starEach (e :: es) X.env = (false, eval e X.env) :: starEach es X.env := by rfl) (hpl : (backTo cpos (starEach es X.env)).any (·.1) = false := by rfl) :
    wpAny (model X.prog X.w) X.A (eval (.Call (.Name x p) (e :: es) [] cpos) X.env) Q X.xe s := by
  refine wpAny_Call_Name_kw (ld_glob I hgl hm ?_ hdb)
  refine PySem.W.callWith_K (h₀ := X.base) I.ok.mod.kin hk (thn (ha.run cpos pins s σ H _ I want) fun us s1 ⟨vs, H1, I1, rv, q⟩ => ⟨I1.kIn, ?_⟩) he hpl
  obtain ⟨g1, ds, w1, L, hgf, xt, r1, d, z⟩ := q
  have hl : us.length = ps.length := by rw [← rv.length, d.length]; exact F.len ds L hgf
  have bt := hb0 s1 us I1.kIn (by rw [List.append_nil]; exact hl)
  rw [List.append_nil] at bt
  refine wpAny_call (codeAny_mono (F.run X.A X.stack s1 H1 ⟨us, []⟩ us vs g1 ds L hr hgu I1.env0 bt rv (xt.k.trans hK) r1.fro d hgf) fun r s' hq => ?_)
  cases r with
  | error e => exact False.elim hq
  | ok fl =>
    cases fl with
    | ret u =>
      obtain ⟨c, a0, gi, go, gs, fp, rfl, ow, hgo, lo, I', hgs, hfp, S⟩ := Made.own I1 hex hq
      exact h L w1 g1 H1 s' c a0 gi go gs fp xt r1 z ow hgo lo I' hgs hfp S
    | next => exact False.elim hq
    | brk => exact False.elim hq
    | cont => exact False.elim hq
theorem call_gen {x : Str} {f : Addr} {fd : FuncData} {ps : List Str} {gf : List PyData → Option (List PyData)} {k : Nat} {e : Expr} {es : List Expr} {p cpos : Pos} {fa : FA}
    (F : GnF X.prog X.w X.K X.mg X.base k f fd ps gf) (hr : Room k X.A) (hgu : X.A.guards = some []) (hgl : Gl X x) (hm : X.mg x = some (.ref f)) (hk : PySem.W.keepIn X.K (.ref f) = true) (hb0 : Binds X.K fd ps []) (ha : PAf X W (e :: es) fa)
    {pins : List (Addr × Obj)} {s : Shared} {σ : L2.St} {H : Hp} {ρ : Ev} {w : Ws} {g : Gd} {Q : Value → Shared → Prop} (hex : X.ex = []) (I : Inv X pins σ H s) (hK : g.K = X.K) (r : Rp g H w) (en : EnR g σ ρ)
    {D : Ends} {kk : List PyData → Ws → Os} (ho : oSt W g D ((iGen gf fa ρ w).thenS ρ kk))
    (h : ∀ L w1 g1 H1 s' c a0 gi go gs fp, Xt g g1 → Rp g1 H1 w1 → oSt W g1 D (kk L w1) → Own c X a0 gi go → (∃ vs, go.data = .fields vs ∧ go.cls = .type "generator") → Lo X pins c.n0 [] → Inv X pins σ H1 s' → s'.gens[gi]? = some gs → (∀ a ∈ fp, c.n0 ≤ a) → Slp c X pins L gs 0 g1 H1 fp s' → Q (.ref a0) s')
    (hdb : (x == ("__debug__" : Str)) = false := by decide) (he : starEach (e :: es) X.env = (false, eval e X.env) :: starEach es X.env := by rfl) (hpl : (backTo cpos (starEach es X.env)).any (·.1) = false := by rfl) :
    wpAny (model X.prog X.w) X.A (eval (.Call (.Name x p) (e :: es) [] cpos) X.env) Q X.xe s := by
  have ho : oSt W g D ((fa ρ w).thenS ρ fun ds w1 => match gf ds with | some L => kk L w1 | none => .no) := by
    unfold iGen at ho
    cases q : fa ρ w with
    | ok ds w1 =>
      rw [q] at ho
      simp only [Oc.bind, Oc.thenS] at ho ⊢
      cases hq : gf ds with
      | some L => rw [hq] at ho; exact ho
      | none => rw [hq] at ho; exact ho
    | ex c0 f0 w1 => rw [q] at ho; exact ho
    | no => rw [q] at ho; exact ho
  refine call_genZ (Z := fun g1 L w1 => oSt W g1 D (kk L w1)) F hr hgu hgl hm hk hb0 ha hex I hK (lX_then hK r en ho fun vs H1 g1 ds w1 xt r1 e1 d z => ?_) h hdb he hpl
  cases hq : gf ds with
  | some L => rw [hq] at z; exact ⟨g1, ds, w1, L, hq, xt, r1, d, z⟩
  | none => rw [hq] at z; exact z.elim
/-- .. within an expression -/
theorem call_genE {x : Str} {f : Addr} {fd : FuncData} {ps : List Str} {gf : List PyData → Option (List PyData)} {k : Nat} {e : Expr} {es : List Expr} {p cpos : Pos} {fa : FA}
    (F : GnF X.prog X.w X.K X.mg X.base k f fd ps gf) (hr : Room k X.A) (hgu : X.A.guards = some []) (hgl : Gl X x) (hm : X.mg x = some (.ref f)) (hk : PySem.W.keepIn X.K (.ref f) = true) (hb0 : Binds X.K fd ps []) (ha : PAf X W (e :: es) fa)
    {pins : List (Addr × Obj)} {s : Shared} {σ : L2.St} {H : Hp} {ρ : Ev} {w : Ws} {g : Gd} {Q : Value → Shared → Prop} (hex : X.ex = []) (I : Inv X pins σ H s) (hK : g.K = X.K) (r : Rp g H w) (en : EnR g σ ρ)
    {β γ : Type} {S : Gd → β → γ → Prop} {Q0 : β → Hp → Prop} {kk : List PyData → Ws → Oc γ} (ho : oX W σ S g Q0 ((iGen gf fa ρ w).bind kk))
    (h : ∀ L w1 g1 H1 s' c a0 gi go gs fp, Xt g g1 → Rp g1 H1 w1 → oX W σ S g1 Q0 (kk L w1) → Own c X a0 gi go → (∃ vs, go.data = .fields vs ∧ go.cls = .type "generator") → Lo X pins c.n0 [] → Inv X pins σ H1 s' → s'.gens[gi]? = some gs → (∀ a ∈ fp, c.n0 ≤ a) → Slp c X pins L gs 0 g1 H1 fp s' → Q (.ref a0) s')
    (hdb : (x == ("__debug__" : Str)) = false := by decide) (he : starEach (e :: es) X.env = (false, eval e X.env) :: starEach es X.env := by rfl) (hpl : (backTo cpos (starEach es X.env)).any (·.1) = false := by rfl) :
    wpAny (model X.prog X.w) X.A (eval (.Call (.Name x p) (e :: es) [] cpos) X.env) Q X.xe s := by
  have ho : oX W σ S g Q0 ((fa ρ w).bind fun ds w1 => match gf ds with | some L => kk L w1 | none => .no) := by
    unfold iGen at ho
    cases q : fa ρ w with
    | ok ds w1 =>
      rw [q] at ho
      simp only [Oc.bind] at ho ⊢
      cases hq : gf ds with
      | some L => rw [hq] at ho; exact ho
      | none => rw [hq] at ho; exact ho
    | ex c0 f0 w1 => rw [q] at ho; exact ho
    | no => rw [q] at ho; exact ho
  refine call_genZ (Z := fun g1 L w1 => oX W σ S g1 Q0 (kk L w1)) F hr hgu hgl hm hk hb0 ha hex I hK (lX_bind hK r en ho fun vs H1 g1 ds w1 xt r1 e1 d z => ?_) h hdb he hpl
  cases hq : gf ds with
  | some L => rw [hq] at z; exact ⟨g1, ds, w1, L, hq, xt, r1, d, z⟩
  | none => rw [hq] at z; exact z.elim
theorem psf_forG {x : Str} {f : Addr} {fd : FuncData} {ps : List Str} {gf : List PyData → Option (List PyData)} {k : Nat} {tg e : Expr} {es : List Expr} {body : List Stmt} {p cpos pos : Pos} {fa : FA} {gt : FG} {is : List Nat} {fb : FS}
    (hp : PassesOwn (model X.prog X.w) X.A X.env X.xe) (hc : X.calm = true) (hex : X.ex = [])
    (F : GnF X.prog X.w X.K X.mg X.base k f fd ps gf) (hr : Room k X.A) (hgu : X.A.guards = some []) (hgl : Gl X x) (hm : X.mg x = some (.ref f)) (hk : PySem.W.keepIn X.K (.ref f) = true) (hb0 : Binds X.K fd ps []) (ha : PAf X W (e :: es) fa)
    (hg : PGf X.nox is tg gt) (hb : PSsf X.nox W0 body fb) (hs : ∀ v, foldedSetIterable (.Call (.Name x p) (e :: es) [] cpos) X.env v = pure v := by intro _; rfl)
    (hdb : (x == ("__debug__" : Str)) = false := by decide) (he : starEach (e :: es) X.env = (false, eval e X.env) :: starEach es X.env := by rfl) (hpl : (backTo cpos (starEach es X.env)).any (·.1) = false := by rfl) :
    PSf X W (.For tg (.Call (.Name x p) (e :: es) [] cpos) body [] pos) (sFor (iGen gf fa) gt (nx0 fb)) := by
  refine ⟨fun pins s σ H D I ⟨g, ρ, w, hK, r, en, q⟩ => ?_⟩
  refine wpAny_For (call_gen F hr hgu hgl hm hk hb0 ha hex I hK r en q (fun L w1 g1 H1 s' c a0 gi go gs fp xt r1 z ow hgo lo I' hgs _ S => ?_) hdb he hpl) hs
  refine wpAny_pyIter_gen (ow.gen _ (S.gen ow)) ?_
  refine codeAny_forLoop_any (fun n s3 => ∃ i σ3 ρ3 w3 g3 H3 gs3 fp3, n = L.length - i ∧ i ≤ L.length ∧ Inv X pins σ3 H3 s3 ∧ Xt g1 g3 ∧ Rp g3 H3 w3 ∧ EnR g3 σ3 ρ3 ∧ oSt W g3 D (forL gt (nx0 fb) (L.drop i) ρ3 w3) ∧ s3.gens[gi]? = some gs3 ∧ Slp c X pins L gs3 i g3 H3 fp3 s3) ?_ L.length
    ⟨0, σ, ρ, w1, g1, H1, gs, fp, by simp, Nat.zero_le _, I', Xt.refl _, r1, en.mono xt.toXt0, by rw [List.drop_zero]; exact z, hgs, S⟩
  rintro n s3 ⟨i, σ3, ρ3, w3, g3, H3, gs3, fp3, rfl, hi, I3, x3, r3, e3, z3, hgs3, S3⟩
  refine wpAny_passesOwn hp (thn (resume_ok ow (I.ok.hd hc) hr.depth lo I3 r3 (x3.k.trans (xt.k.trans hK)) hi hgs3 S3 S3.sz) fun rr s4 h4 => ?_)
  rcases h4 with ⟨rfl, hL, H4, g4, x4, I4, r4⟩ | ⟨u, d, v, gs4, fp4, H4, g4, rfl, hd, rv, dq, x4, I4, r4, hsu, hgs4, S4⟩
  · have ei : i = L.length := by
      have := congrArg List.length hL
      rw [List.length_take] at this
      omega
    subst ei
    rw [List.drop_length, forL] at z3
    exact wpAny_execs_nil ⟨σ3, H4, I4, z3 σ3 H4 g4 x4 r4 (e3.mono x4.toXt0)⟩
  · have hlt : i < L.length := (List.getElem?_eq_some_iff.mp hd).1
    have ed : L.drop i = d :: L.drop (i + 1) := by
      rw [List.drop_eq_getElem_cons hlt]
      rw [List.getElem?_eq_getElem hlt] at hd
      rw [Option.some.inj hd]
    rw [ed, forL] at z3
    obtain ⟨vs, hgd, hgc⟩ := hgo
    refine wpAny_passesOwn hp (go_of (S4.gen ow) hgc hgd (by decide) ?_)
    cases hgt : gt d ρ3 w3 with
    | ok ρ5 w5 =>
      rw [hgt] at z3
      have hK4 : g4.K = X.K := x4.k.trans (x3.k.trans (xt.k.trans hK))
      have J4 : Inv X.nox (pins ++ pinsAt fp4 s4.heap) σ3 H4 (killS s4) := inv_heap ((S4.pinned I4).wish _) rfl rfl (bare_kill I4.bare)
      have kA := wpAny_keep (s := s4) (E := X.xe) (hg.run _ (killS s4) σ3 H4 v u (fun σ' H' => ∃ g', Xt g4 g' ∧ Rp g' H' w5 ∧ EnR g' σ' ρ5) J4 rv ⟨g4, ρ3, w3, d, hK4, r4, e3.mono x4.toXt0, dq, by
        rw [hgt]
        exact fun σ' H' g' xg rg eg _ => ⟨g', xg, rg, eg⟩⟩)
      refine wpAny_passesOwn hp (thn kA fun _ s5 ⟨kp5, T5, ⟨σ5, H5, I5, g5, x5, r5, e5⟩, hh5, ho5, hb5⟩ => ?_)
      have I5' : Inv X.nox (pins ++ pinsAt fp4 s4.heap) σ5 H5 s5 := inv_heap I5 hh5 ho5 (hb5 I5.bare)
      have z5 := oSt.mono (x4.trans x5) z3
      simp only at z5
      have kB := wpAny_keep (s := s5) (E := X.xe) (hb.run (pins ++ pinsAt fp4 s4.heap) (killS s5) σ5 H5 { nx := fun σ' H' => ∃ g' ρ' w', Xt g5 g' ∧ Rp g' H' w' ∧ EnR g' σ' ρ' ∧ oSt W g' D (forL gt (nx0 fb) (L.drop (i + 1)) ρ' w'), ct := fun σ' H' => ∃ g' ρ' w', Xt g5 g' ∧ Rp g' H' w' ∧ EnR g' σ' ρ' ∧ oSt W g' D (forL gt (nx0 fb) (L.drop (i + 1)) ρ' w'), bk := D.nx, rt := D.rt } (inv_heap I5' rfl rfl (bare_kill I5'.bare)) ⟨g5, ρ5, w5, x5.k.trans hK4, r5, e5, by
        unfold nx0 at z5
        cases hf : fb ρ5 w5 with
        | nx ρ6 w6 => rw [hf] at z5; exact fun σ' H' g' xg rg eg => ⟨g', ρ6, w6, xg, rg, eg, oSt.mono xg z5⟩
        | ct ρ6 w6 => rw [hf] at z5; exact fun σ' H' g' xg rg eg => ⟨g', ρ6, w6, xg, rg, eg, oSt.mono xg z5⟩
        | bk ρ6 w6 => rw [hf] at z5; exact z5
        | rt d w6 => rw [hf] at z5; exact z5
        | ex ρ6 c6 f6 w6 => rw [hf] at z5; exact z5.elim
        | no => rw [hf] at z5; exact z5.elim⟩)
      refine wpAny_passesOwn hp (thn kB fun fl s7 ⟨kp7, T7, h7, hh7, ho7, hb7⟩ => ?_)
      have gens7 : s7.gens[gi]? = some gs4 := kp7 gi gs4 (kp5 gi gs4 hgs4 hsu) hsu
      have again : ∀ {σ7 : L2.St} {H7 : Hp}, Inv X.nox (pins ++ pinsAt fp4 s4.heap) σ7 H7 T7 → (∃ g' ρ' w', Xt g5 g' ∧ Rp g' H7 w' ∧ EnR g' σ7 ρ' ∧ oSt W g' D (forL gt (nx0 fb) (L.drop (i + 1)) ρ' w')) →
          ∃ m, m < L.length - i ∧ ∃ i σ3 ρ3 w3 g3 H3 gs3 fp3, m = L.length - i ∧ i ≤ L.length ∧ Inv X pins σ3 H3 s7 ∧ Xt g1 g3 ∧ Rp g3 H3 w3 ∧ EnR g3 σ3 ρ3 ∧ oSt W g3 D (forL gt (nx0 fb) (L.drop i) ρ3 w3) ∧ s7.gens[gi]? = some gs3 ∧ Slp c X pins L gs3 i g3 H3 fp3 s7 := fun {σ7 H7} I7 ⟨g7, ρ7, w7, x7, r7, e7, z7⟩ => by
        have I7' : Inv X (pins ++ pinsAt fp4 s4.heap) σ7 H7 s7 := (inv_heap I7 hh7 ho7 (hb7 I7.bare)).unwish
        have xx : Xt g4 g7 := x5.trans x7
        exact ⟨L.length - (i + 1), by omega, i + 1, σ7, ρ7, w7, g7, H7, gs4, fp4, rfl, hlt, I7'.unpinned, x3.trans (x4.trans xx), r7, e7, z7, gens7, S4.after (σc := σ7) xx.toXt0 I7'⟩
      cases fl with
      | next => obtain ⟨σ7, H7, I7, n7⟩ := h7; exact again I7 n7
      | cont => obtain ⟨σ7, H7, I7, n7⟩ := h7; exact again I7 n7
      | brk => obtain ⟨σ7, H7, I7, q7⟩ := h7; exact ⟨σ7, H7, (inv_heap I7 hh7 ho7 (hb7 I7.bare)).unwish.unpinned, q7⟩
      | ret v7 => obtain ⟨x7, σ7, H7, I7, rv7, q7⟩ := h7; exact ⟨x7, σ7, H7, (inv_heap I7 hh7 ho7 (hb7 I7.bare)).unwish.unpinned, rv7, q7⟩
    | ex c0 f0 w0 => rw [hgt] at z3; exact z3.elim
    | no => rw [hgt] at z3; exact z3.elim
end
end Tg

set_option Elab.async false
set_option linter.all false
set_option maxRecDepth 100000
set_option maxHeartbeats 4000000
namespace Tg
open PySem PySem.Spec PyProof.Rows L2 Td GenW
/-! ### a block whose ground is what stood before the generator -/
theorem inv_trunc {Y : Cx} {pins : List (Addr × Obj)} {σ : L2.St} {H : Hp} {s : Shared} {n : Nat} (I : Inv Y pins σ H s) (hex : Y.ex = []) (hn : n ≤ Y.s_0.heap.objs.size) (hb : Y.base.objs.size ≤ n) (hf : ∀ b ∈ L2.frs Y.outer, b < n) :
    Inv { Y with s_0 := trunc n Y.s_0 } pins σ H s := by
  have o := I.ok
  have hx : ∀ {b : Addr}, b ∉ Y.ex := fun {b} z => by rw [hex] at z; cases z
  have U := I.base
  refine ⟨⟨o.mod, o.kind, o.glob, o.blt, ?_, o.inj, o.has, fun x c h e => ?_, o.hd, o.frames, o.stk, o.exf, fun b ob e => ?_, ?_, o.noex, o.exfs, funs_trunc hf o.funs, o.frf⟩, I.os, I.bare,
    ⟨fun b ob e => U.keep b ob (trunc_some hn e).2, fun b ob e => U.slot b ob (trunc_some hn e).2, fun b ob e => U.free b ob (trunc_some hn e).2, fun b ob e => U.there b ob (trunc_some hn e).2, U.tups, U.frzs, U.tbls⟩, I.loc, I.cell, I.free, I.freeC, I.pin, I.hok, I.len⟩
  · show (trunc n Y.s_0).heap.objs.size ≤ _
    rw [trunc_size hn]
    exact Nat.le_trans hn o.above
  · show (trunc n Y.s_0).heap.objs.size ≤ _
    rw [trunc_size hn]
    exact Nat.le_trans hn (o.cab x c h e)
  · obtain ⟨q1, q2⟩ := o.bs b ob e
    exact ⟨by show (trunc n Y.s_0).heap.get? b = _; rw [trunc_get (Nat.lt_of_lt_of_le (Heap.lt_size e) hb)]; exact q1, q2⟩
  · show _ ≤ (trunc n Y.s_0).heap.objs.size
    rw [trunc_size hn]
    exact hb
theorem inv_leave {X : Cx} {pins : List (Addr × Obj)} {σ : L2.St} {H H' : Hp} {s s' : Shared} {n : Nat} (I : Inv X pins σ H s) (lo : Lo X pins n []) (ho : s'.os = s.os) (u : Un (L2.frs X.stack) [] H H' (trunc n s).heap s'.heap) (hok : HOk X.prog X.w H' s'.heap) (hg : AllBare s'.gens) : Inv X pins σ H' s' := by
  have cut : ∀ {b o}, s.heap.get? b = some o → b ∉ (List.range s.heap.objs.size).filter (fun b => decide (n ≤ b)) → (trunc n s).heap.get? b = some o := fun {b o} e h => by
    have hb : b < n := Classical.byContradiction fun z => h (List.mem_filter.mpr ⟨List.mem_range.mpr (Heap.lt_size e), decide_eq_true (Nat.le_of_not_lt z)⟩)
    rw [trunc_get hb]
    exact e
  refine I.call' (ch := (List.range s.heap.objs.size).filter fun b => decide (n ≤ b)) ho ⟨fun b o e n hb hc => u.keep b o (cut e hc) n hb (by simp), fun b o e n hb hc => u.slot b o (cut e hc) n hb (by simp), fun b o e n hc => u.free b o (cut e hc) n (by simp), fun b o e hc => u.there b o (cut e hc) (by simp), u.tups, u.frzs, u.tbls⟩ hok hg fun b hb => ?_
  have hn : n ≤ b := of_decide_eq_true (List.mem_filter.mp hb).2
  have p := lo.pl hn (by simp)
  exact ⟨.inr (Nat.le_trans lo.s0 hn), p.loc, p.cel, p.pin⟩
theorem Slp.enter {c : GCx} {X B : Cx} {pins pins' : List (Addr × Obj)} {L : List PyData} {gs : GenState} {i : Nat} {gc gc' : Gd} {Hc Hc' : Hp} {fp : List Addr} {s s' : Shared} (S : Slp c X pins L gs i gc Hc fp s) (x : ∀ a o, gc.F a = some o → gc'.F a = some o)
    (hf : ∀ a ∈ fp, Hc' a = none ∧ Pl B pins' a ∧ ∀ o, s.heap.get? a = some o → s'.heap.get? a = some o) : Slp c B pins' L gs i gc' Hc' fp s' := by
  obtain ⟨ip, g, ρ, w, σ, H, b, sY, rfl, G, hw, hF, hfp, hgo⟩ := S.ex
  refine ⟨ip, g, ρ, w, σ, H, b, sY, rfl, G, hw, fun a o e => x a o (hF a o e), fun a ha => ?_, hgo⟩
  obtain ⟨h1, h2, o, e1, e2, d⟩ := hfp a ha
  obtain ⟨q1, q2, q3⟩ := hf a ha
  exact ⟨q1, q2, o, e1, q3 o e2, d⟩
theorem Slp.fpLt {c : GCx} {X : Cx} {pins : List (Addr × Obj)} {L : List PyData} {gs : GenState} {i : Nat} {gc : Gd} {Hc : Hp} {fp : List Addr} {s : Shared} (S : Slp c X pins L gs i gc Hc fp s) : ∀ a ∈ fp, a < s.heap.objs.size ∧ Hc a = none := by
  obtain ⟨ip, g, ρ, w, σ, H, b, sY, rfl, G, hw, hF, hfp, hgo⟩ := S.ex
  intro a ha
  obtain ⟨h1, h2, o, e1, e2, d⟩ := hfp a ha
  exact ⟨Heap.lt_size e2, h1⟩
theorem cloFrom_lt {cells : List (Str × Addr)} {names : List (Str × NameKind)} {n : Nat} (h : ∀ y ∈ names, y.2 = .free → ∃ c, cells.lookup y.1 = some c) (hc : ∀ x c, cells.lookup x = some c → c < n) : ∀ x c, (cloFrom cells names []).lookup x = some c → c < n := fun x c e => by
  rcases cloFrom_mem (PySem.mem_of_lookup e) with z | ⟨z1, z2⟩
  · cases z
  · obtain ⟨c', hc'⟩ := h _ z1 rfl
    have hc' : cells.lookup x = some c' := hc'
    rw [hc'] at z2
    subst z2
    exact hc x c hc'
end Tg

set_option Elab.async false
set_option linter.all false
set_option maxRecDepth 100000
set_option maxHeartbeats 4000000
namespace Tg
open PySem PySem.Spec PyProof.Rows L2 Td GenW
/-- one turn of a comprehension's block over a generator -/
theorem turnG {B : Cx} {pins : List (Addr × Obj)} {σ : L2.St} {elt tg : Expr} {ifs : List Expr} {vs : List Nat} {gt : FG} {tt : FT} {fe : FE} {is : List Nat} {ρ : Ev} {w5 : Ws} {g5 : Gd} {H5 : Hp} {s5 : Shared} {L : List PyData} {i : Nat} {ba : List Addr}
    {c : GCx} {a0 : Addr} {gi : Nat} {go : Obj} {gs : GenState} {fp : List Addr} (hx : B.xe = fun _ _ => False) (hd : B.A.handled = none) (hdp : B.A.depth < recursionLimit)
    (hg : PGf B is tg gt) (ht : PTs B ifs (lT B.K W0 tt)) (he : PF B W0 elt fe) (his : ∀ i ∈ is, i ∈ vs)
    (hK : g5.K = B.K) (r5 : Rp g5 H5 w5) (en : EnR g5 (wipe σ vs) (wipeE ρ vs))
    (ow : Own c B a0 gi go) (hgo : ∃ vs, go.data = .fields vs ∧ go.cls = .type "generator") (lo : Lo B pins c.n0 ba) (I5 : Inv B pins (wipe σ vs) H5 s5) (hi : i ≤ L.length) (hgs : s5.gens[gi]? = some gs) (S : Slp c B pins L gs i g5 H5 fp s5)
    {R0 : Shared → Prop} {R1 : Shared → Prop} {R2 : Value → Shared → Prop} {E1 E2 E3 E4 E5 : Value → Shared → Prop}
    (hstop : ∀ H6 g6 s6, i = L.length → Xt g5 g6 → Inv B pins (wipe σ vs) H6 s6 → Rp g6 H6 w5 → R0 s6)
    (hgt : ∀ d, L[i]? = some d → ∃ ρ7 w7 b w8, gt d (wipeE ρ vs) w5 = .ok ρ7 w7 ∧ tt ρ7 w7 = .ok b w8 ∧ (b = true → ∃ y w9, fe ρ7 w8 = .ok y w9))
    (hno : ∀ d ρ7 w7 w8 H9 g9 s9 gs6 fp6, L[i]? = some d → gt d (wipeE ρ vs) w5 = .ok ρ7 w7 → tt ρ7 w7 = .ok false w8 → Xt g5 g9 → Inv B pins (wipe σ vs) H9 s9 → Rp g9 H9 w8 → s9.gens[gi]? = some gs6 → Slp c B pins L gs6 (i + 1) g9 H9 fp6 s9 → R1 s9)
    (hyes : ∀ d ρ7 w7 w8 y w9 u yv σ8 H9 g9 s9 gs6 fp6 PP, L[i]? = some d → gt d (wipeE ρ vs) w5 = .ok ρ7 w7 → tt ρ7 w7 = .ok true w8 → fe ρ7 w8 = .ok y w9 → Xt g5 g9 → RelV yv u → Dq g9 yv y → Inv B (pins ++ PP) σ8 H9 s9 → Rp g9 H9 w9 → s9.gens[gi]? = some gs6 → isSusp gs6 = true →
      (∀ {g' H' s'}, Xt0 g9 g' → Inv B (pins ++ PP) σ8 H' s' → Inv B pins (wipe σ vs) H' s' ∧ Slp c B pins L gs6 (i + 1) g' H' fp6 s') → R2 u s9) :
    wpAny (model B.prog B.w) B.A (pyNext (.ref a0)) (fun r s6 => match r with
      | none => R0 s6
      | some v => wpAny (model B.prog B.w) B.A (letOwnedTupleGo tg (.ref a0) v) (fun _ s7 => wpAny (model B.prog B.w) B.A (assign tg B.env v) (fun _ s8 =>
          wpAny (model B.prog B.w) B.A (forIn ifs true fun c r => if r = true then do let ok ← isTrue c B.env (eval c B.env); pure (ForInStep.yield ok) else pure (ForInStep.yield r)) (fun ok s9 =>
            if ok = true then wpAny (model B.prog B.w) B.A (eval elt B.env) R2 E5 s9 else R1 s9) E4 s8) E3 s7) E2 s6) E1 s5 := by
  refine thn (resume_ok ow hd hdp lo I5 r5 hK hi hgs S S.sz) fun rr s6 h6 => ?_
  rcases h6 with ⟨rfl, hL, H6, g6, x6, I6, r6⟩ | ⟨u, d, v, gs6, fp6, H6, g6, rfl, hd6, rv, dq, x6, I6, r6, hsu, hgs6, S6⟩
  · have ei : i = L.length := by
      have := congrArg List.length hL
      rw [List.length_take] at this
      omega
    exact hstop H6 g6 s6 ei x6 I6 r6
  · obtain ⟨vs', hgd, hgc⟩ := hgo
    refine go_of (S6.gen ow) hgc hgd (by decide) ?_
    have hK6 : g6.K = B.K := x6.k.trans hK
    obtain ⟨ρ7, w7, b, w8, egt, ett, efe⟩ := hgt d hd6
    have J6 : Inv B (pins ++ pinsAt fp6 s6.heap) (wipe σ vs) H6 (killS s6) := inv_heap (S6.pinned I6) rfl rfl (bare_kill I6.bare)
    have e6 : EnR g6 (wipe σ vs) (wipeE ρ vs) := en.mono x6.toXt0
    have kA := hg.run _ (killS s6) _ H6 v u (fun σ' H' => wipe σ' vs = wipe σ vs ∧ ∃ g', Xt g6 g' ∧ Rp g' H' w7 ∧ EnR g' σ' ρ7) J6 rv ⟨g6, wipeE ρ vs, w5, d, hK6, r6, e6, dq, by
      rw [egt]
      exact fun σ' H' g' xg rg eg sm => ⟨wipe_of_sm sm his, g', xg, rg, eg⟩⟩
    rw [hx] at kA
    refine thn (wpAny_keep (s := s6) kA) fun _ s7 ⟨kp7, T7, ⟨σ7, H7, I7, hw7, g7, x7, r7, e7⟩, hh7, ho7, hb7⟩ => ?_
    have I7' : Inv B (pins ++ pinsAt fp6 s6.heap) σ7 H7 s7 := inv_heap I7 hh7 ho7 (hb7 I7.bare)
    have hgs7 : s7.gens[gi]? = some gs6 := kp7 gi gs6 hgs6 hsu
    have kB := ht.run (pins ++ pinsAt fp6 s6.heap) (killS s7) σ7 H7 (fun b' H' => b' = b ∧ ∃ g', Xt g7 g' ∧ Rp g' H' w8) (inv_heap I7' rfl rfl (bare_kill I7'.bare)) ⟨g7, ρ7, w7, x7.k.trans hK6, r7, e7, by
      rw [ett]
      exact fun b' H' g' xg rg eb => ⟨eb, g', xg, rg⟩⟩
    rw [hx] at kB
    refine thn (wpAny_keep (s := s7) kB) fun bb s8 ⟨kp8, T8, ⟨H8, I8, eb, g8, x8, r8⟩, hh8, ho8, hb8⟩ => ?_
    subst eb
    have I8' : Inv B (pins ++ pinsAt fp6 s6.heap) σ7 H8 s8 := inv_heap I8 hh8 ho8 (hb8 I8.bare)
    have hgs8 : s8.gens[gi]? = some gs6 := kp8 gi gs6 hgs7 hsu
    have x68 : Xt g6 g8 := x7.trans x8
    have hl : (wipe σ vs).length = σ7.length := by rw [← hw7, wipe_length]
    have back : ∀ {g' : Gd} {H' : Hp} {s' : Shared}, Xt0 g6 g' → Inv B (pins ++ pinsAt fp6 s6.heap) σ7 H' s' → Inv B pins (wipe σ vs) H' s' ∧ Slp c B pins L gs6 (i + 1) g' H' fp6 s' := fun {g' H' s'} x I' => by
      refine ⟨I'.unpinned.weak hl (fun j v e => ?_), S6.after (σc := σ) x I'⟩
      rw [← hw7] at e
      exact (wipe_some e).1
    cases bb with
    | false =>
      obtain ⟨I9, S9⟩ := back x68.toXt0 I8'
      simp only [Bool.false_eq_true, if_false]
      exact hno d ρ7 w7 w8 H8 g8 s8 gs6 fp6 hd6 egt ett (x6.trans x68) I9 r8 hgs8 S9
    | true =>
      simp only [if_true]
      obtain ⟨y, w9, ey⟩ := efe rfl
      have kC := he.run (pins ++ pinsAt fp6 s6.heap) (killS s8) σ7 H8 (fun yv H' => ∃ g', Xt g8 g' ∧ Rp g' H' w9 ∧ Dq g' yv y) (inv_heap I8' rfl rfl (bare_kill I8'.bare)) ⟨g8, ρ7, w8, x68.k.trans hK6, r8, e7.mono x8.toXt0, by
        rw [ey]
        exact fun v' H' g' xg rg dv => ⟨g', xg, rg, dv⟩⟩
      rw [hx] at kC
      refine thn (wpAny_keep (s := s8) kC) fun uu s9 ⟨kp9, T9, ⟨yv, H9, I9, rv9, g9, x9, r9, d9⟩, hh9, ho9, hb9⟩ => ?_
      have I9' : Inv B (pins ++ pinsAt fp6 s6.heap) σ7 H9 s9 := inv_heap I9 hh9 ho9 (hb9 I9.bare)
      exact hyes d ρ7 w7 w8 y w9 uu yv σ7 H9 g9 s9 gs6 fp6 _ hd6 egt ett ey (x6.trans (x68.trans x9)) rv9 d9 I9' r9 (kp9 gi gs6 hgs8 hsu) hsu fun {g' H' s'} x I' => back ((x68.trans x9).toXt0.trans x) I'
end Tg

set_option Elab.async false
set_option linter.all false
set_option maxRecDepth 100000
set_option maxHeartbeats 4000000
namespace Tg
open PySem PySem.Spec PyProof.Rows L2 Td GenW
def ceOf (X : Cx) (scope : Scope) (n : Nat) : Env := compEnvC scope (cellsFrom (n + 1) scope.names (cloFrom X.env.cells scope.names [])) n X.env
def blkS (s : Shared) (scope : Scope) : Shared := { s with heap := pushCells (s.heap.push { cls := .type "dict", data := .dict #[] }) scope.names }
def blkB (X : Cx) (s : Shared) (H : Hp) (scope : Scope) (n : Nat) : Cx := X.blk (trunc n s) H scope (ceOf X scope s.heap.objs.size) []
theorem blk_setup {X : Cx} {pins : List (Addr × Obj)} {σ : L2.St} {H3 : Hp} {s3 : Shared} {scope : Scope} {own : List (Str × Nat)} {c : GCx} {a0 : Addr} {gi : Nat} {go : Obj} (hN : X.N.Nodup) (ok : BlkOk X.N X.env.scope scope own) (hcl : (scope.names.all fun y => !decide (y.2 = .cell)) = true)
    (I3 : Inv X pins σ H3 s3) (lo : Lo X pins c.n0 []) (ow : Own c X a0 gi go) (hn3 : c.n0 ≤ s3.heap.objs.size) :
    Inv (blkB X s3 H3 scope c.n0) [] (wipe σ (own.map (·.2))) H3 (blkS s3 scope) ∧ Own c (blkB X s3 H3 scope c.n0) a0 gi go ∧ (∀ b o, s3.heap.get? b = some o → (blkS s3 scope).heap.get? b = some o) ∧
    ∀ pins' ba, (∀ p ∈ pins', p.1 ∈ ba) → (∀ a ∈ ba, c.n0 ≤ a ∧ (a = s3.heap.objs.size ∨ ∃ o, (a, o) ∈ pins')) → s3.heap.objs.size ∈ ba → Lo (blkB X s3 H3 scope c.n0) pins' c.n0 ba := by
  have I4 := block_start (fp := []) I3 ok hN (fun b hb => absurd hb (by simp))
  have cn := cells_none (l := scope.names) (s3.heap.objs.size + 1) hcl (cloFrom X.env.cells scope.names [])
  have hfree : ∀ y ∈ scope.names, y.2 = .free → ∃ c, X.env.cells.lookup y.1 = some c := fun y hy e => by
    rcases ok.free y hy e with k | k
    · exact I3.ok.has _ (.inl k)
    · exact I3.ok.has _ (.inr k)
  refine ⟨inv_trunc (n := c.n0) I4 rfl hn3 (by have := ow.ok.bsz; rw [ow.si.base] at this; exact this) (by have := ow.ok.frs; rw [ow.si.outer] at this; exact this), ⟨ow.ok, ⟨ow.si.P, ow.si.w, ow.si.K, ow.si.mg, ow.si.base, ow.si.outer⟩, ow.A, ow.pn, ow.gen⟩, fun b o e => pushCells_keeps _ _ _ _ (Heap.get?_push_of_some _ e), fun pins' ba h1 h2 h3 => ?_⟩
  refine ⟨Nat.le_of_eq (trunc_size hn3), .inr h3, fun x b e => ?_, fun p hp => .inr (h1 p ?_), rfl, fun a ha => ?_⟩
  · have e : (cellsFrom (s3.heap.objs.size + 1) scope.names (cloFrom X.env.cells scope.names [])).lookup x = some b := e
    rw [cn] at e
    exact cloFrom_lt hfree lo.cel x b e
  · exact (show p ∈ ([] : List (Addr × Obj)) ++ pins' from hp)
  · obtain ⟨q1, q2⟩ := h2 a ha
    refine ⟨q1, q2.imp id fun ⟨o, q⟩ => ⟨o, ?_⟩⟩
    exact (show (a, o) ∈ ([] : List (Addr × Obj)) ++ pins' from q)
theorem lcL_nox {gt : FG} {tt : FT} {fe : FE} {ρ : Ev} {c0 : Value} {f0 : List (Str × PyData)} {w0 : Ws} : ∀ (L : List PyData) (w : Ws) (acc : List PyData), lcL gt tt fe ρ L w acc ≠ .ex c0 f0 w0
  | [], w, acc, h => by rw [lcL] at h; cases h
  | d :: ds, w, acc, h => by
    rw [lcL] at h
    cases h1 : gt d ρ w with
    | ok ρ7 w7 =>
      rw [h1] at h
      simp only at h
      cases h2 : tt ρ7 w7 with
      | ok b w8 =>
        rw [h2] at h
        cases b with
        | false => exact lcL_nox ds _ _ h
        | true =>
          simp only at h
          cases h3 : fe ρ7 w8 with
          | ok y w9 =>
            rw [h3] at h
            simp only at h
            by_cases hz : acc.length < sizeLine
            · rw [if_pos hz] at h; exact lcL_nox ds _ _ h
            · rw [if_neg hz] at h; cases h
          | ex c0 f0 w0 => rw [h3] at h; cases h
          | no => rw [h3] at h; cases h
      | ex c0 f0 w0 => rw [h2] at h; cases h
      | no => rw [h2] at h; cases h
    | ex c0 f0 w0 => rw [h1] at h; cases h
    | no => rw [h1] at h; cases h
theorem lcL_step {gt : FG} {tt : FT} {fe : FE} {ρ : Ev} {L : List PyData} {i : Nat} {w w1 : Ws} {acc out : List PyData} {wo : Ws} {d : PyData} (hd : L[i]? = some d) (z : lcL gt tt fe ρ (L.drop i) w acc = .ok out wo) :
    ∃ ρ7 w7 b w8, gt d ρ w = .ok ρ7 w7 ∧ tt ρ7 w7 = .ok b w8 ∧ (b = true → ∃ y w9, fe ρ7 w8 = .ok y w9) := by
  have hlt : i < L.length := (List.getElem?_eq_some_iff.mp hd).1
  have ed : L.drop i = d :: L.drop (i + 1) := by
    rw [List.drop_eq_getElem_cons hlt]
    rw [List.getElem?_eq_getElem hlt] at hd
    rw [Option.some.inj hd]
  rw [ed, lcL] at z
  cases h1 : gt d ρ w with
  | ok ρ7 w7 =>
    rw [h1] at z
    simp only at z
    cases h2 : tt ρ7 w7 with
    | ok b w8 =>
      rw [h2] at z
      refine ⟨ρ7, w7, b, w8, rfl, h2, fun e => ?_⟩
      subst e
      simp only at z
      cases h3 : fe ρ7 w8 with
      | ok y w9 => exact ⟨y, w9, rfl⟩
      | ex c0 f0 w0 => rw [h3] at z; cases z
      | no => rw [h3] at z; cases z
    | ex c0 f0 w0 => rw [h2] at z; cases z
    | no => rw [h2] at z; cases z
  | ex c0 f0 w0 => rw [h1] at z; cases z
  | no => rw [h1] at z; cases z
theorem lcL_no {gt : FG} {tt : FT} {fe : FE} {ρ : Ev} {L : List PyData} {i : Nat} {w w7 w8 : Ws} {acc : List PyData} {d : PyData} {ρ7 : Ev} (hd : L[i]? = some d) (h1 : gt d ρ w = .ok ρ7 w7) (h2 : tt ρ7 w7 = .ok false w8) :
    lcL gt tt fe ρ (L.drop i) w acc = lcL gt tt fe ρ (L.drop (i + 1)) w8 acc := by
  have hlt : i < L.length := (List.getElem?_eq_some_iff.mp hd).1
  have ed : L.drop i = d :: L.drop (i + 1) := by
    rw [List.drop_eq_getElem_cons hlt]
    rw [List.getElem?_eq_getElem hlt] at hd
    rw [Option.some.inj hd]
  rw [ed, lcL, h1]
  simp only
  rw [h2]
theorem lcL_yes {gt : FG} {tt : FT} {fe : FE} {ρ : Ev} {L : List PyData} {i : Nat} {w w7 w8 w9 wo : Ws} {acc out : List PyData} {d y : PyData} {ρ7 : Ev} (hd : L[i]? = some d) (h1 : gt d ρ w = .ok ρ7 w7) (h2 : tt ρ7 w7 = .ok true w8) (h3 : fe ρ7 w8 = .ok y w9)
    (z : lcL gt tt fe ρ (L.drop i) w acc = .ok out wo) : acc.length < sizeLine ∧ lcL gt tt fe ρ (L.drop (i + 1)) w9 (acc ++ [y]) = .ok out wo := by
  have hlt : i < L.length := (List.getElem?_eq_some_iff.mp hd).1
  have ed : L.drop i = d :: L.drop (i + 1) := by
    rw [List.drop_eq_getElem_cons hlt]
    rw [List.getElem?_eq_getElem hlt] at hd
    rw [Option.some.inj hd]
  rw [ed, lcL, h1] at z
  simp only at z
  rw [h2] at z
  simp only at z
  rw [h3] at z
  simp only at z
  by_cases hz : acc.length < sizeLine
  · rw [if_pos hz] at z
    exact ⟨hz, z⟩
  · rw [if_neg hz] at z; cases z
section
variable {X : Cx} {W : WX}
theorem pf_lcG {x : Str} {f : Addr} {fd : FuncData} {ps : List Str} {gf : List PyData → Option (List PyData)} {k : Nat} {elt tg e : Expr} {es : List Expr} {ifs : List Expr} {scope : Scope} {own : List (Str × Nat)} {p cpos pos : Pos} {fa : FA} {gt : FG} {tt : FT} {fe : FE} {is : List Nat}
    (hc : X.calm = true) (hN : X.N.Nodup) (hex : X.ex = [])
    (F : GnF X.prog X.w X.K X.mg X.base k f fd ps gf) (hr : Room k X.A) (hgu : X.A.guards = some []) (hgl : Gl X x) (hm : X.mg x = some (.ref f)) (hk : PySem.W.keepIn X.K (.ref f) = true) (hb0 : Binds X.K fd ps []) (ha : PAf X W (e :: es) fa)
    (ok : BlkOk X.N X.env.scope scope own) (hcl : (scope.names.all fun y => !decide (y.2 = .cell)) = true)
    (hg : ∀ (s : Shared) (H : Hp) (C : Addr) (cl : List (Str × Addr)) (fp : List Addr), PGf (X.blk s H scope (compEnvC scope cl C X.env) fp) is tg gt)
    (ht : ∀ (s : Shared) (H : Hp) (C : Addr) (cl : List (Str × Addr)) (fp : List Addr), PTs (X.blk s H scope (compEnvC scope cl C X.env) fp) ifs (lT X.K W0 tt))
    (he : ∀ (s : Shared) (H : Hp) (C : Addr) (cl : List (Str × Addr)) (fp : List Addr), PF (X.blk s H scope (compEnvC scope cl C X.env) fp) W0 elt fe)
    (hs : ∀ v, foldedSetIterable (.Call (.Name x p) (e :: es) [] cpos) X.env v = pure v := by intro _; rfl) (his : ∀ i ∈ is, i ∈ own.map (·.2) := by decide)
    (hdb : (x == ("__debug__" : Str)) = false := by decide) (hst : starEach (e :: es) X.env = (false, eval e X.env) :: starEach es X.env := by rfl) (hpl : (backTo cpos (starEach es X.env)).any (·.1) = false := by rfl) :
    PF X W (.ListComp elt [⟨tg, .Call (.Name x p) (e :: es) [] cpos, ifs, 0⟩] scope pos) (eLc (iGen gf fa) gt tt fe (own.map (·.2))) := by
  refine ⟨fun pins s σ H Q I ⟨g, ρ, w, hK, r, en, q⟩ => ?_⟩
  rw [eval_ListComp]
  have hfree : ∀ y ∈ scope.names, y.2 = .free → ∃ c, X.env.cells.lookup y.1 = some c := fun y hy e => by
    rcases ok.free y hy e with k | k
    · exact I.ok.has _ (.inl k)
    · exact I.ok.has _ (.inr k)
  refine wpAny_comprehension_free (use := none) rfl hs (closure_ok hfree) ok.kind (fun y hy e => by rw [ok.uniq y hy, e])
    (call_genE F hr hgu hgl hm hk hb0 ha hex I hK r en q (fun L w1 g1 H1 s2 c a0 gi go gs fp xt r1 z ow hgo lo I2 hgs hfn S => ?_) hdb hst hpl)
  refine wpAny_pyIter_gen (ow.gen _ (S.gen ow)) ?_
  refine wpAny_newObj_type (newEnv_comp ?_) (by show 0 ≤ sizeLine; decide)
  generalize hD : s2.heap.objs.size = D
  have hDn : H1 D = none := I2.hok.fresh (Nat.le_of_eq hD)
  generalize hs3 : ({ s2 with heap := s2.heap.push { cls := .type "list", data := .seq ([] : List Value).toArray } } : Shared) = s3
  have I3 : Inv X pins σ (upd H1 D (.lst [])) s3 := by
    rw [← hs3]
    refine I2.laid (t' := s2.toks) (fun b o e => Heap.get?_push_of_some _ e) (Nat.le_of_eq hD) ⟨Nat.zero_le _, [], 0, .nil, ?_⟩
    rw [← hD]
    exact Heap.get?_push_size _ rfl
  have h3 : s3.heap = s2.heap.push { cls := .type "list", data := .seq ([] : List Value).toArray } := by rw [← hs3]
  have hn3 : c.n0 ≤ s3.heap.objs.size := Nat.le_trans S.sz (by rw [h3, Heap.size_push]; exact Nat.le_succ _)
  obtain ⟨I5, owB, k4, loB⟩ := blk_setup hN ok hcl I3 lo ow hn3
  have loB := loB [] [s3.heap.objs.size] (by simp) (by simp [hn3]) (by simp)
  show codeAny _ _ (.compStart (.ListComp elt [⟨tg, .Call (.Name x p) (e :: es) [] cpos, ifs, 0⟩] scope pos) 0 (.ref a0) (.ref D) (ceOf X scope s3.heap.objs.size)) (compPost (model X.prog X.w) X.A X.xe none (EP X pins σ Q) (.ref D) s3.heap.objs.size) (blkS s3 scope)
  have pg : PGf (blkB X s3 (upd H1 D (.lst [])) scope c.n0) is tg gt := hg _ _ _ _ _
  have pt : PTs (blkB X s3 (upd H1 D (.lst [])) scope c.n0) ifs (lT X.K W0 tt) := ht _ _ _ _ _
  have pe : PF (blkB X s3 (upd H1 D (.lst [])) scope c.n0) W0 elt fe := he _ _ _ _ _
  have SB : Slp c (blkB X s3 (upd H1 D (.lst [])) scope c.n0) [] L gs 0 (g1.pn (upd g1.P D (.lst []))) (upd H1 D (.lst [])) fp (blkS s3 scope) := by
    refine S.enter (fun a o e => e) fun a ha => ?_
    obtain ⟨q1, q2⟩ := S.fpLt a ha
    have nD : a ≠ D := by rw [← hD]; exact Nat.ne_of_lt q1
    refine ⟨by rw [upd_ne nD]; exact q2, loB.pl (hfn a ha) (fun z => ?_), fun o e => k4 a o (by rw [h3]; exact Heap.get?_push_of_some _ e)⟩
    rw [List.mem_singleton, h3, Heap.size_push] at z
    rw [z] at q1
    exact absurd q1 (by simp)
  have pD : g1.P D = none := by
    cases h : g1.P D with
    | none => rfl
    | some o => rw [(r1.pin D o h).1] at hDn; cases hDn
  have r0 := pin_new r1 hDn (.lst [])
  have hK1 : g1.K = X.K := xt.k.trans hK
  have en1 : EnR g1 σ ρ := en.mono xt.toXt0
  obtain ⟨out, wo, eo⟩ : ∃ out wo, lcL gt tt fe (wipeE ρ (own.map (·.2))) L w1 [] = .ok out wo := by
    cases h : lcL gt tt fe (wipeE ρ (own.map (·.2))) L w1 [] with
    | ok out wo => exact ⟨out, wo, rfl⟩
    | ex c0 f0 w0 =>
      exact (lcL_nox _ _ _ h).elim
    | no => rw [h] at z; exact z.elim
  rw [eo] at z
  have loop : codeAny (model X.prog X.w) X.A (.compLoop (.ListComp elt [⟨tg, .Call (.Name x p) (e :: es) [] cpos, ifs, 0⟩] scope pos) 0 (.ref a0) (.ref D) (ceOf X scope s3.heap.objs.size)) (compPost (model X.prog X.w) X.A X.xe none (EP X pins σ Q) (.ref D) s3.heap.objs.size) (blkS s3 scope) := by
    refine compLoop_any (fun n s' => ∃ i H' g' w' acc dacc gs' fp', n = L.length - i ∧ i ≤ L.length ∧ Inv (blkB X s3 (upd H1 D (.lst [])) scope c.n0) [] (wipe σ (own.map (·.2))) H' s' ∧ Xt0 g1 g' ∧ g'.P = upd g1.P D (.lst acc) ∧ Rp g' H' w' ∧ DqA g' acc dacc ∧ lcL gt tt fe (wipeE ρ (own.map (·.2))) (L.drop i) w' dacc = .ok out wo ∧ s'.gens[gi]? = some gs' ∧ Slp c (blkB X s3 (upd H1 D (.lst [])) scope c.n0) [] L gs' i g' H' fp' s') ?_ L.length
      ⟨0, _, _, w1, [], [], gs, fp, rfl, Nat.zero_le _, I5, g1.pn_xt _, rfl, r0, .nil, by rw [List.drop_zero]; exact eo, (by show s3.gens[gi]? = _; rw [← hs3]; exact hgs), SB⟩
    rintro n s5 ⟨i, H5, g5, w5, acc, dacc, gs5, fp5, rfl, hi, I5, x5, P5, r5, da5, z5, hgs5, S5⟩
    have e5 : EnR g5 (wipe σ (own.map (·.2))) (wipeE ρ (own.map (·.2))) := (en1.mono x5).wipe _
    refine turnG (B := blkB X s3 (upd H1 D (.lst [])) scope c.n0) (hx := rfl) (I5.ok.hd hc) hr.depth pg pt pe his (x5.k.trans hK1) r5 e5 owB hgo loB I5 hi hgs5 S5 (fun H6 g6 s6 ei x6 I6 r6 => ?_) (fun d hd => lcL_step (w1 := w1) hd z5)
      (fun d ρ7 w7 w8 H9 g9 s9 gs6 fp6 hd h1 h2 x9 I9 r9 hgs9 S9 => ?_) (fun d ρ7 w7 w8 y w9 u yv σ8 H9 g9 s9 gs6 fp6 PP hd h1 h2 h3' x9 rv9 dq9 I9 r9 hgs9 hsu back => ?_)
    · subst ei
      rw [List.drop_length, lcL] at z5
      cases z5
      have P6 : g6.P = upd g1.P D (.lst acc) := x6.p.trans P5
      have nC : H6 s3.heap.objs.size = none := I6.free
      have I7 : Inv X pins σ H6 s6 := inv_leave I3 lo I6.os I6.base I6.hok I6.bare
      obtain ⟨m, hn, _⟩ := I6.loc
      obtain ⟨f0, f1, f2, f3, f4, f5⟩ := I3.fpOk (H' := H6) (Nat.le_refl _) nC
      refine ⟨m, hn, fun h'' sb => ?_⟩
      have pD6 := r6.pin D (.lst acc) (by rw [P6]; exact upd_same)
      have xo : Xt0 g6 { g6 with P := g1.P, F := upd g6.F D (.lst acc) } := ⟨rfl, fun a u e => (upd_ne (ne_of_none e pD6.2.1)).trans e, fun _ _ => rfl, Nat.le_refl _⟩
      exact ⟨.ref D, H6, I7.turned (t' := s6.toks) (fun b o hb e => (sb.2 b hb).trans e) f0 f1 f3 f4 f5, rfl,
        z _ H6 { g6 with P := g1.P, F := upd g6.F D (.lst acc) } ⟨(x5.trans x6.toXt0).trans xo, rfl⟩ (pin_out r6 P6 (fun a z => nomatch z) pD) (.lst (SqL.of upd_same) (da5.mono (x6.toXt0.trans xo) _ _))⟩
    · have hlt : i < L.length := (List.getElem?_eq_some_iff.mp hd).1
      rw [lcL_no hd h1 h2] at z5
      exact ⟨L.length - (i + 1), by omega, i + 1, H9, g9, w8, acc, dacc, gs6, fp6, rfl, hlt, I9, x5.trans x9.toXt0, x9.p.trans P5, r9, da5.mono x9.toXt0 _ _, z5, hgs9, S9⟩
    · have hlt : i < L.length := (List.getElem?_eq_some_iff.mp hd).1
      obtain ⟨hz, z9⟩ := lcL_yes hd h1 h2 h3' z5
      have P9 : g9.P = upd g1.P D (.lst acc) := x9.p.trans P5
      have pD9 := r9.pin D (.lst acc) (by rw [P9]; exact upd_same)
      have kA := app_ok (X := blkB X s3 (upd H1 D (.lst [])) scope c.n0) (E := fun _ _ => False) (s := killS s9) (Q := fun _ s' => Inv (blkB X s3 (upd H1 D (.lst [])) scope c.n0) ([] ++ PP) σ8 (upd H9 D (.lst (acc ++ [yv]))) s') (inv_heap I9 rfl rfl (bare_kill I9.bare)) pD9.1 (by rw [da5.length]; exact hz) rv9 fun s' I' => I'
      refine thn (wpAny_keep (s := s9) kA) fun _ s10 ⟨kp, T, I10, hh, ho, hb⟩ => ?_
      have x10 : Xt0 g9 (g9.pn (upd g1.P D (.lst (acc ++ [yv])))) := g9.pn_xt _
      obtain ⟨I11, S11⟩ := back x10 (inv_heap I10 hh ho (hb I10.bare))
      refine ⟨L.length - (i + 1), by omega, i + 1, _, g9.pn (upd g1.P D (.lst (acc ++ [yv]))), w9, acc ++ [yv], dacc ++ [y], gs6, fp6, rfl, hlt, I11, (x5.trans x9.toXt0).trans x10, rfl, pin_set r9 P9 (fun a z => nomatch z), ?_, z9, kp gi gs6 hgs9 hsu, S11⟩
      exact (da5.mono (x9.toXt0.trans x10) _ _).append (.cons (dq9.mono x10 _ _) .nil)
  exact codeAny_compStart_list loop (wpAny_pyIter_gen (owB.gen _ (SB.gen owB)) loop)
end
end Tg

set_option Elab.async false
set_option linter.all false
set_option maxRecDepth 100000
set_option maxHeartbeats 4000000
namespace Tg
open PySem PySem.Spec PyProof.Rows L2 Td GenW
/-! ### sorted({e for x in g(..) if ..}), texts -/
def TxO (w : World) (a : Addr) (L : List Str) : HO := .ext fun h => TxS w h a L
theorem txO_new {w : World} {P : Program} {H : Hp} {h : Heap} {a : Addr} {L : List Str} (R : TxS w h a L) : ObjOk P w H h a (TxO w a L) := by
  have ⟨⟨o, _, _, _, ho, _⟩⟩ := R
  exact ⟨R, ⟨o, ho⟩, fun h1 h2 p k => TxS.at p k⟩
theorem tx_addC {P : Program} {w : World} {A : Around} {E : Value → Shared → Prop} {s : Shared} {a : Addr} {L : List Str} {k : Str} {t : Tok} {Q : Value → Shared → Prop} (R : TxS w s.heap a L) (room : L.length + 1 < scanBound)
    (hQ : ∀ h', Heap.SameBut a s.heap h' → TxS w h' a (addS L k) → Q .none { s with heap := h', toks := s.toks + 1 }) :
    wpAny (model P w) A (call (.builtin "set.add") [.ref a, .str k t]) Q E s := by
  have hT : s.TypeIs (.ref a) "set" := by
    obtain ⟨o, es, ep, t, ho, hex, _⟩ := R.ex
    exact ⟨o, ho, hex.1⟩
  refine wpAny_call_entry F.slot_set_add hT F.entry_set_add ?_ (F.args_set_add_2 _ _)
  unfold Builtin.«set.add» Builtin.Frozenset.oneOther
  simp only [List.isEmpty_nil, bind_assoc]
  unfold Builtin.Frozenset.addrOf setAdd
  refine wpAny_bind (wpAny_pure ?_)
  try dsimp only
  refine wpAny_bind (wpAny_pure ?_)
  try dsimp only
  refine wpAny_bind ?_
  refine wpAny_holding ?_
  refine wpAny_bind ((PySem.strKind P w).pyHash (k := k) (strKind_is _ _ _ _) ?_)
  refine tx_add (s := { s with toks := s.toks + 1 }) R room fun b h' sb r => ?_
  show wpAny _ _ (ret Value.none) _ _ _
  exact wpAny_pure ⟨_, rfl, hQ h' sb r⟩
theorem txO_add {X : Cx} {pins : List (Addr × Obj)} {σ : L2.St} {H : Hp} {s : Shared} {E : Value → Shared → Prop} {D : Addr} {L : List Str} {k : Str} {t : Tok} {Q : Value → Shared → Prop} (I : Inv X pins σ H s) (hD : H D = some (TxO X.w D L)) (room : L.length + 1 < scanBound)
    (h : ∀ s', Inv X pins σ (upd H D (TxO X.w D (addS L k))) s' → Q .none s') : wpAny (model X.prog X.w) X.A (call (.builtin "set.add") [.ref D, .str k t]) Q E s := by
  have R : TxS X.w s.heap D L := (I.hok D _ hD).1
  refine tx_addC R room fun h' sb new => ?_
  have he : ∃ u, h'.get? D = some u := by
    have ⟨⟨o, _, _, _, ho, _⟩⟩ := new
    exact ⟨o, ho⟩
  exact h _ (I.write (e := D) (t' := s.toks + 1) (by rw [hD]; trivial) (.inl rfl) (fun b u hb hu => (sb.2 b hb).trans hu) he (txO_new new))
theorem lcL_pre {gt : FG} {tt : FT} {fe : FE} {ρ : Ev} {out : List PyData} {wo : Ws} : ∀ (L : List PyData) (w : Ws) (acc : List PyData), lcL gt tt fe ρ L w acc = .ok out wo → acc <+: out
  | [], w, acc, h => by rw [lcL] at h; cases h; exact List.prefix_rfl
  | d :: ds, w, acc, h => by
    rw [lcL] at h
    cases h1 : gt d ρ w with
    | ok ρ7 w7 =>
      rw [h1] at h
      simp only at h
      cases h2 : tt ρ7 w7 with
      | ok b w8 =>
        rw [h2] at h
        cases b with
        | false => exact lcL_pre ds _ _ h
        | true =>
          simp only at h
          cases h3 : fe ρ7 w8 with
          | ok y w9 =>
            rw [h3] at h
            simp only at h
            by_cases hz : acc.length < sizeLine
            · rw [if_pos hz] at h; exact (List.prefix_append _ _).trans (lcL_pre ds _ _ h)
            · rw [if_neg hz] at h; cases h
          | ex c0 f0 w0 => rw [h3] at h; cases h
          | no => rw [h3] at h; cases h
      | ex c0 f0 w0 => rw [h2] at h; cases h
      | no => rw [h2] at h; cases h
    | ex c0 f0 w0 => rw [h1] at h; cases h
    | no => rw [h1] at h; cases h
theorem strsD_map : ∀ {ds : List PyData} {xs : List Str}, strsD ds = some xs → ds = xs.map .str
  | [], xs, h => by cases h; rfl
  | d :: ds, xs, h => by
    cases d with
    | str x =>
      simp only [strsD] at h
      cases e : strsD ds with
      | none => rw [e] at h; cases h
      | some ys => rw [e] at h; cases h; rw [strsD_map e]; rfl
    | _ => simp [strsD] at h
theorem pre_str {ys xs : List Str} {y : PyData} (h : ys.map PyData.str ++ [y] <+: xs.map PyData.str) : ∃ k, y = .str k ∧ ys.length < xs.length := by
  obtain ⟨t, ht⟩ := h
  have hl := congrArg List.length ht
  simp only [List.length_append, List.length_map, List.length_singleton] at hl
  have q : (ys.map PyData.str ++ [y] ++ t)[ys.length]? = (xs.map PyData.str)[ys.length]? := by rw [ht]
  rw [List.append_assoc, List.getElem?_append_right (by simp)] at q
  simp only [List.length_map, Nat.sub_self, List.singleton_append, List.getElem?_cons_zero, List.getElem?_map] at q
  rw [List.getElem?_eq_getElem (show ys.length < xs.length by omega)] at q
  exact ⟨_, Option.some.inj q, by omega⟩
def eSsc (fi : FA) (gt : FG) (tt : FT) (fe : FE) (vs : List Nat) : FE := fun ρ w => (fi ρ w).bind fun ds w1 => (lcL gt tt fe (wipeE ρ vs) ds w1 []).bind fun acc w2 => match strsD acc with
  | some xs => if decide (xs.length + 1 < scanBound) then .ok (.list ((srtS (ddS xs)).map .str)) w2 else .no
  | none => .no
theorem Rp.unpin {g : Gd} {H : Hp} {w : Ws} {P : Hp} {D : Addr} {o : HO} (r : Rp g H w) (hP : g.P = upd P D o) (hD : P D = none) : Rp { g with P := P } H w := by
  refine ⟨r.fro, r.len, fun l ob e => (r.cell l ob e).new (g := g) ⟨rfl, fun _ _ h => h, fun _ _ => rfl, Nat.le_refl _⟩ fun b hb => ⟨rfl, rfl⟩, r.inj, fun a u e => ?_⟩
  have e : P a = some u := e
  exact r.pin a u (by rw [hP, upd_ne (fun z => by rw [z, hD] at e; cases e)]; exact e)
section
variable {X : Cx} {W : WX}
theorem pf_sscG {x : Str} {f : Addr} {fd : FuncData} {ps : List Str} {gf : List PyData → Option (List PyData)} {k : Nat} {elt tg e : Expr} {es : List Expr} {ifs : List Expr} {scope : Scope} {own : List (Str × Nat)} {p p1 cpos pos pos1 : Pos} {fa : FA} {gt : FG} {tt : FT} {fe : FE} {is : List Nat}
    (hc : X.calm = true) (hN : X.N.Nodup) (hex : X.ex = []) (hgs1 : Gl X "sorted") (hms : X.mg "sorted" = none)
    (F : GnF X.prog X.w X.K X.mg X.base k f fd ps gf) (hr : Room k X.A) (hgu : X.A.guards = some []) (hgl : Gl X x) (hm : X.mg x = some (.ref f)) (hk : PySem.W.keepIn X.K (.ref f) = true) (hb0 : Binds X.K fd ps []) (ha : PAf X W (e :: es) fa)
    (ok : BlkOk X.N X.env.scope scope own) (hcl : (scope.names.all fun y => !decide (y.2 = .cell)) = true)
    (hg : ∀ (s : Shared) (H : Hp) (C : Addr) (cl : List (Str × Addr)) (fp : List Addr), PGf (X.blk s H scope (compEnvC scope cl C X.env) fp) is tg gt)
    (ht : ∀ (s : Shared) (H : Hp) (C : Addr) (cl : List (Str × Addr)) (fp : List Addr), PTs (X.blk s H scope (compEnvC scope cl C X.env) fp) ifs (lT X.K W0 tt))
    (he : ∀ (s : Shared) (H : Hp) (C : Addr) (cl : List (Str × Addr)) (fp : List Addr), PF (X.blk s H scope (compEnvC scope cl C X.env) fp) W0 elt fe)
    (hs : ∀ v, foldedSetIterable (.Call (.Name x p) (e :: es) [] cpos) X.env v = pure v := by intro _; rfl) (his : ∀ i ∈ is, i ∈ own.map (·.2) := by decide)
    (hdb : (x == ("__debug__" : Str)) = false := by decide) (hst : starEach (e :: es) X.env = (false, eval e X.env) :: starEach es X.env := by rfl) (hpl : (backTo cpos (starEach es X.env)).any (·.1) = false := by rfl) :
    PF X W (.Call (.Name "sorted" p1) [.SetComp elt [⟨tg, .Call (.Name x p) (e :: es) [] cpos, ifs, 0⟩] scope pos] [] pos1) (eSsc (iGen gf fa) gt tt fe (own.map (·.2))) := by
  refine ⟨fun pins s σ H Q I ⟨g, ρ, w, hK, r, en, q⟩ => ?_⟩
  have hfree : ∀ y ∈ scope.names, y.2 = .free → ∃ c, X.env.cells.lookup y.1 = some c := fun y hy e => by
    rcases ok.free y hy e with k | k
    · exact I.ok.has _ (.inl k)
    · exact I.ok.has _ (.inr k)
  refine Call_ (ld_blt I hgs1 hms boot_sorted ?_)
  refine PyProof.Rows.callWith_builtin1 (PyProof.Rows.args_cons ?_ rfl) rfl rfl
  rw [PpSet.eval_SetComp]
  refine wpAny_comprehension_free (use := none) rfl hs (closure_ok hfree) ok.kind (fun y hy e => by rw [ok.uniq y hy, e])
    (call_genE F hr hgu hgl hm hk hb0 ha hex I hK r en q (fun L w1 g1 H1 s2 c a0 gi go gs fp xt r1 z ow hgo lo I2 hgs hfn S => ?_) hdb hst hpl)
  refine wpAny_pyIter_gen (ow.gen _ (S.gen ow)) ?_
  refine PpSet.newSet_ok (newEnv_comp ?_)
  generalize hD : s2.heap.objs.size = D
  have hDn : H1 D = none := I2.hok.fresh (Nat.le_of_eq hD)
  generalize hs3 : ({ s2 with heap := s2.heap.push { cls := .type "set", dict := none, data := .set #[] 0 (.fresh 0 0 (!X.w.params.followText "set-order")) } } : Shared) = s3
  have h3 : s3.heap = s2.heap.push { cls := .type "set", dict := none, data := .set #[] 0 (.fresh 0 0 (!X.w.params.followText "set-order")) } := by rw [← hs3]
  have I3 : Inv X pins σ (upd H1 D (TxO X.w D [])) s3 := by
    rw [← hs3]
    refine I2.laid (t' := s2.toks) (fun b o e => Heap.get?_push_of_some _ e) (Nat.le_of_eq hD) (txO_new (TxS.new ?_))
    rw [← hD]
    exact Heap.get?_push_size _ rfl
  have hn3 : c.n0 ≤ s3.heap.objs.size := Nat.le_trans S.sz (by rw [h3, Heap.size_push]; exact Nat.le_succ _)
  obtain ⟨I5, owB, k4, loB⟩ := blk_setup hN ok hcl I3 lo ow hn3
  have loB := loB [] [s3.heap.objs.size] (by simp) (by simp [hn3]) (by simp)
  obtain ⟨Bx, hBx⟩ : ∃ Bx, Bx = blkB X s3 (upd H1 D (TxO X.w D [])) scope c.n0 := ⟨_, rfl⟩
  have pg : PGf (blkB X s3 (upd H1 D (TxO X.w D [])) scope c.n0) is tg gt := hg _ _ _ _ _
  have pt : PTs (blkB X s3 (upd H1 D (TxO X.w D [])) scope c.n0) ifs (lT X.K W0 tt) := ht _ _ _ _ _
  have pe : PF (blkB X s3 (upd H1 D (TxO X.w D [])) scope c.n0) W0 elt fe := he _ _ _ _ _
  have SB : Slp c (blkB X s3 (upd H1 D (TxO X.w D [])) scope c.n0) [] L gs 0 (g1.pn (upd g1.P D (TxO X.w D []))) (upd H1 D (TxO X.w D [])) fp (blkS s3 scope) := by
    refine S.enter (fun a o e => e) fun a ha => ?_
    obtain ⟨q1, q2⟩ := S.fpLt a ha
    have nD : a ≠ D := by rw [← hD]; exact Nat.ne_of_lt q1
    refine ⟨by rw [upd_ne nD]; exact q2, loB.pl (hfn a ha) (fun z => ?_), fun o e => k4 a o (by rw [h3]; exact Heap.get?_push_of_some _ e)⟩
    rw [List.mem_singleton, h3, Heap.size_push] at z
    rw [z] at q1
    exact absurd q1 (by simp)
  have pD : g1.P D = none := by
    cases h : g1.P D with
    | none => rfl
    | some o => rw [(r1.pin D o h).1] at hDn; cases hDn
  have nOwn : ∀ {l : List Str} (a : Addr), TxO X.w D l ≠ .own a := fun a z => nomatch z
  have r0 := pin_new r1 hDn (TxO X.w D [])
  have hK1 : g1.K = X.K := xt.k.trans hK
  have en1 : EnR g1 σ ρ := en.mono xt.toXt0
  obtain ⟨xs, wo, eo, hfew⟩ : ∃ (xs : List Str) (wo : Ws), lcL gt tt fe (wipeE ρ (own.map (·.2))) L w1 [] = .ok (xs.map .str) wo ∧ xs.length + 1 < scanBound := by
    cases h : lcL gt tt fe (wipeE ρ (own.map (·.2))) L w1 [] with
    | ok out wo =>
      rw [h] at z
      simp only [Oc.bind] at z
      cases hx : strsD out with
      | none => rw [hx] at z; exact z.elim
      | some xs =>
        rw [hx] at z
        simp only at z
        by_cases hb : decide (xs.length + 1 < scanBound) = true
        · exact ⟨xs, wo, by rw [strsD_map hx], of_decide_eq_true hb⟩
        · rw [if_neg hb] at z; exact z.elim
    | ex c0 f0 w0 => exact (lcL_nox _ _ _ h).elim
    | no => rw [h] at z; exact z.elim
  have strsOf : ∀ xs : List Str, strsD (xs.map PyData.str) = some xs := fun xs => by
    induction xs with
    | nil => rfl
    | cons a xs ih => show (strsD (xs.map PyData.str)).map (a :: ·) = _; rw [ih]; rfl
  rw [eo] at z
  simp only [Oc.bind, strsOf] at z
  rw [if_pos (decide_eq_true hfew)] at z
  -- the set stands
  have fin : ∀ H6 g6 s6, Xt0 g1 g6 → g6.P = upd g1.P D (TxO X.w D (ddS xs)) → Rp g6 H6 wo → Inv X pins σ H6 s6 → wpAny (model X.prog X.w) X.A (call (.builtin "sorted") [.ref D]) (EP X pins σ Q) X.xe s6 := fun H6 g6 s6 x6 P6 r6 I6 => by
    have hT : TxS X.w s6.heap D (ddS xs) := by
      have := (r6.pin D (TxO X.w D (ddS xs)) (by rw [P6]; exact upd_same)).1
      exact (I6.hok D _ this).1
    refine tx_sorted hT (I6.ok.hd hc) fun s' p out c k gg oo hp hg' hi => ?_
    have hn : H6 p = none := I6.hok.fresh hp
    have hlen : ((srtS (ddS xs)).map V.str).length ≤ sizeLine := by
      have h1 := (srtS_perm (ddS xs)).length_eq
      have h2 := ddS_len xs xs.length (Nat.le_refl _)
      rw [List.take_length] at h2
      rw [List.length_map, h1]
      exact Nat.le_trans h2 (fits_of_scanBound (Nat.lt_of_succ_lt hfew))
    have r7 : Rp { g6 with P := g1.P } H6 wo := Rp.unpin r6 P6 pD
    have x7 : Xt g1 { g6 with P := g1.P } := ⟨x6.trans ⟨rfl, fun _ _ h => h, fun _ _ => rfl, Nat.le_refl _⟩, rfl⟩
    exact ⟨.ref p, _, inv_strs I6 k gg oo hp hg' hlen hi, rfl, z _ _ _ (x7.trans (Xt.put (r7.fnone hn))) (r7.put hn) (newL r7 hn (dqA_strs _))⟩
  have loop : codeAny (model X.prog X.w) X.A (.compLoop (.SetComp elt [⟨tg, .Call (.Name x p) (e :: es) [] cpos, ifs, 0⟩] scope pos) 0 (.ref a0) (.ref D) (ceOf X scope s3.heap.objs.size)) (compPost (model X.prog X.w) X.A X.xe none (fun v s' => ∃ H6 g6, v = .ref D ∧ Xt0 g1 g6 ∧ g6.P = upd g1.P D (TxO X.w D (ddS xs)) ∧ Rp g6 H6 wo ∧ Inv X pins σ H6 s') (.ref D) s3.heap.objs.size) (blkS s3 scope) := by
    refine PpSet.compLoopS_any (fun n s' => ∃ (i : Nat) (H' : Hp) (g' : Gd) (w' : Ws) (ys : List Str) (gs' : GenState) (fp' : List Addr), n = L.length - i ∧ i ≤ L.length ∧ Inv (blkB X s3 (upd H1 D (TxO X.w D [])) scope c.n0) [] (wipe σ (own.map (·.2))) H' s' ∧ Xt0 g1 g' ∧ g'.P = upd g1.P D (TxO X.w D (ddS ys)) ∧ Rp g' H' w' ∧ lcL gt tt fe (wipeE ρ (own.map (·.2))) (L.drop i) w' (ys.map .str) = .ok (xs.map .str) wo ∧ s'.gens[gi]? = some gs' ∧ Slp c (blkB X s3 (upd H1 D (TxO X.w D [])) scope c.n0) [] L gs' i g' H' fp' s') ?_ L.length
      ⟨0, _, _, w1, [], gs, fp, rfl, Nat.zero_le _, I5, g1.pn_xt _, rfl, r0, by rw [List.drop_zero]; exact eo, (by show s3.gens[gi]? = _; rw [← hs3]; exact hgs), SB⟩
    rintro n s5 ⟨i, H5, g5, w5, ys, gs5, fp5, rfl, hi, I5, x5, P5, r5, z5, hgs5, S5⟩
    have e5 : EnR g5 (wipe σ (own.map (·.2))) (wipeE ρ (own.map (·.2))) := (en1.mono x5).wipe _
    refine turnG (B := blkB X s3 (upd H1 D (TxO X.w D [])) scope c.n0) (hx := rfl) (I5.ok.hd hc) hr.depth pg pt pe his (x5.k.trans hK1) r5 e5 owB hgo loB I5 hi hgs5 S5 (fun H6 g6 s6 ei x6 I6 r6 => ?_) (fun d hd => lcL_step (w1 := w1) hd z5)
      (fun d ρ7 w7 w8 H9 g9 s9 gs6 fp6 hd h1 h2 x9 I9 r9 hgs9 S9 => ?_) (fun d ρ7 w7 w8 y w9 u yv σ8 H9 g9 s9 gs6 fp6 PP hd h1 h2 h3' x9 rv9 dq9 I9 r9 hgs9 hsu back => ?_)
    · subst ei
      rw [List.drop_length, lcL] at z5
      obtain ⟨ey, ew⟩ := Oc.ok.inj z5
      subst ew
      have ey : ys = xs := by
        have := congrArg strsD ey
        rw [strsOf, strsOf] at this
        exact Option.some.inj this
      subst ey
      have P6 : g6.P = upd g1.P D (TxO X.w D (ddS ys)) := x6.p.trans P5
      have nC : H6 s3.heap.objs.size = none := I6.free
      have I7 : Inv X pins σ H6 s6 := inv_leave I3 lo I6.os I6.base I6.hok I6.bare
      obtain ⟨m, hn, _⟩ := I6.loc
      obtain ⟨f0, f1, f2, f3, f4, f5⟩ := I3.fpOk (H' := H6) (Nat.le_refl _) nC
      exact ⟨m, hn, fun h'' sb => ⟨H6, g6, rfl, x5.trans x6.toXt0, P6, r6, I7.turned (t' := s6.toks) (fun b o hb e => (sb.2 b hb).trans e) f0 f1 f3 f4 f5⟩⟩
    · have hlt : i < L.length := (List.getElem?_eq_some_iff.mp hd).1
      rw [lcL_no hd h1 h2] at z5
      exact ⟨L.length - (i + 1), by omega, i + 1, H9, g9, w8, ys, gs6, fp6, rfl, hlt, I9, x5.trans x9.toXt0, x9.p.trans P5, r9, z5, hgs9, S9⟩
    · have hlt : i < L.length := (List.getElem?_eq_some_iff.mp hd).1
      obtain ⟨hz, z9⟩ := lcL_yes hd h1 h2 h3' z5
      obtain ⟨kk, rfl, hys⟩ := pre_str (lcL_pre _ _ _ z9)
      cases dq9
      obtain ⟨t9, rfl⟩ := rv9
      have P9 : g9.P = upd g1.P D (TxO X.w D (ddS ys)) := x9.p.trans P5
      have pD9 := r9.pin D (TxO X.w D (ddS ys)) (by rw [P9]; exact upd_same)
      have hl := ddS_len ys ys.length (Nat.le_refl _)
      rw [List.take_length] at hl
      refine thn (wpAny_keep (s := s9) (txO_add (X := blkB X s3 (upd H1 D (TxO X.w D [])) scope c.n0) (E := fun _ _ => False) (s := killS s9) (Q := fun _ s' => Inv (blkB X s3 (upd H1 D (TxO X.w D [])) scope c.n0) ([] ++ PP) σ8 (upd H9 D (TxO X.w D (addS (ddS ys) kk))) s') (inv_heap I9 rfl rfl (bare_kill I9.bare)) pD9.1 (by omega) fun s' I' => I')) fun _ s10 ⟨kp, T, I10, hh, ho, hb⟩ => ?_
      rw [← ddS_snoc] at I10
      have x10 : Xt0 g9 (g9.pn (upd g1.P D (TxO X.w D (ddS (ys ++ [kk]))))) := g9.pn_xt _
      obtain ⟨I11, S11⟩ := back x10 (inv_heap I10 hh ho (hb I10.bare))
      exact ⟨L.length - (i + 1), by omega, i + 1, _, g9.pn (upd g1.P D (TxO X.w D (ddS (ys ++ [kk])))), w9, ys ++ [kk], gs6, fp6, rfl, hlt, I11, (x5.trans x9.toXt0).trans x10, rfl, pin_set r9 P9 nOwn, by rw [List.map_append]; exact z9, kp gi gs6 hgs9 hsu, S11⟩
  refine codeAny_mono (PpSet.codeAny_compStart_set loop (wpAny_pyIter_gen (owB.gen _ (SB.gen owB)) loop)) fun rr s' hq => ?_
  cases rr with
  | error e => exact hq
  | ok fl =>
    obtain ⟨m, hn, hq⟩ := hq
    refine ⟨m, hn, fun h' sb => ?_⟩
    obtain ⟨H6, g6, _, x6, P6, r6, I6⟩ := hq h' sb
    exact PyProof.Rows.args_nil (fin H6 g6 _ x6 P6 r6 I6)
end
end Tg

set_option Elab.async false
set_option linter.all false
set_option maxRecDepth 100000
set_option maxHeartbeats 4000000
namespace Td
open PySem PySem.Spec PyProof.Rows L2
/-- {} -/
def eD0 : FE := fun ρ w => .ok (rf w.length) (w ++ [.dK []])
theorem pf_d0 {X : Cx} {W : WX} {pos : Pos} : PF X W (.Dict [] [] pos) eD0 := by
  refine pe_imp pe_dnewK fun σ H Q ⟨g, ρ, w, hK, r, e, q⟩ => ?_
  intro p hp
  have hn := r.fnone hp
  have ra := r.alloc (o := .dK []) (ob := .dK []) hp (fun a z => nomatch z) ⟨hn, _, upd_same, .nil⟩
  refine q _ _ _ Gd.al_xt ra ?_
  rw [← r.len]
  exact Gd.al_ref
end Td

set_option Elab.async false
set_option linter.all false
set_option maxRecDepth 100000
set_option maxHeartbeats 4000000
namespace Td
open PySem L2 PySem.Spec PyProof.Rows
open AutoSeq1 (wpAny_loadPart')
/-! ### enumerate(tuple) -/
theorem meets_enumerate_newT (l : Addr) (items : Array Value) (n : Nat) (dct : Option Addr) (sl : Array (Option Value)) :
    Meets (Builtin.«enumerate.__new__» ⟨[.type "enumerate", .ref l], []⟩) (fun _ R s => s.heap.get? l = some { cls := .type "tuple", dict := dct, data := .seq items n, slots := sl } ∧
      R (.ok (.ret (.ref (s.heap.push { cls := .type "tuple_iterator", data := .fields #[.ref l, .int 0 0] }).objs.size)))
        { s with heap := (s.heap.push { cls := .type "tuple_iterator", data := .fields #[.ref l, .int 0 0] }).push { cls := .type "enumerate", data := .fields #[.none, .bool false, .ref s.heap.objs.size, rawInt 0, .none, .none] } }) :=
  .of_wp fun prog w A R s h => by
    obtain ⟨hp, g, d, tk, os⟩ := s; obtain ⟨hl, h⟩ := h
    have hsub := sub_enumerate
    have hL : Heap.IsTuple (Shared.heap ⟨hp, g, d, tk, os⟩) l items := ⟨_, hl, rfl, n, rfl⟩
    wp_walk using wpAny_loadPart' hl
    refine wpAny_stack_any fun st => wpAny_pure ?_
    split
    · rename_i c _ _ _ _ _
      cases (c == Value.type "enumerate")
      · wp_walk using wpAny_loadPart' hl, wpAny_pyIter_tuple hL
        exact ⟨_, rfl, h⟩
      · wp_walk using wpAny_loadPart' hl, wpAny_pyIter_tuple hL
        exact ⟨_, rfl, h⟩
    · wp_walk using wpAny_loadPart' hl, wpAny_pyIter_tuple hL
      exact ⟨_, rfl, h⟩
theorem call_enumerate_tuple {prog : Program} {w : World} {A : Around} {E : Value → Shared → Prop} {s : Shared} {l : Addr} {items : Array Value} {Q : Value → Shared → Prop} (hL : s.heap.IsTuple l items)
    (h : ∀ h', IsEnum h' (s.heap.objs.size + 1) s.heap.objs.size 0 .none → h'.IsTupleIter s.heap.objs.size l 0 → h'.objs.size = s.heap.objs.size + 2 →
      (∀ b o, s.heap.get? b = some o → h'.get? b = some o) → Q (.ref (s.heap.objs.size + 1)) { s with heap := h' }) :
    wpAny (model prog w) A (call (.type "enumerate") [.ref l]) Q E s := by
  obtain ⟨⟨c, dct, dt, sl⟩, hl, hc, n, hd⟩ := hL
  replace hc : c = .type "tuple" := hc
  replace hd : dt = .seq items n := hd
  subst hc hd
  refine callType_new F.called_enumerate (by decide) (F.typeCall_enumerate_1 _) (F.newCall_enumerate_1 _) (fun obj => F.args_object_init_2 obj _) F.entry_enumerate_new
    (meets_enumerate_newT l items n dct sl) ⟨hl, ?_⟩
  have hz : (s.heap.push { cls := .type "tuple_iterator", data := .fields #[.ref l, .int 0 0] }).objs.size = s.heap.objs.size + 1 := Heap.size_push ..
  show _ ∧ _
  rw [hz]
  have he : IsEnum ((s.heap.push { cls := .type "tuple_iterator", data := .fields #[.ref l, .int 0 0] }).push
      { cls := .type "enumerate", data := .fields #[.none, .bool false, .ref s.heap.objs.size, rawInt 0, .none, .none] }) (s.heap.objs.size + 1) s.heap.objs.size 0 .none := by
    have := Heap.get?_push_size (s.heap.push { cls := .type "tuple_iterator", data := .fields #[.ref l, .int 0 0] })
      (o := { cls := .type "enumerate", data := .fields #[.none, .bool false, .ref s.heap.objs.size, rawInt 0, .none, .none] }) rfl
    rw [hz] at this; exact this
  refine ⟨⟨_, he, rfl⟩, h _ he ⟨_, Heap.get?_push_of_some _ (Heap.get?_push_size _ rfl), rfl, rfl⟩ (by rw [Heap.size_push, hz]) fun b o x => Heap.get?_push_of_some _ (Heap.get?_push_of_some _ x)⟩
/-- the tuple at a, each item in a new pair -/
def Itet (K : PySem.W.Frag) (a : Addr) : It :=
  ⟨fun i H => ∃ (xs : List V) (x : V), SqT K H a xs ∧ xs[i]? = some x, fun i H v H' => ∃ T x, v = .ref T ∧ H T = none ∧ H' = upd H T (.tup [.int (i : Nat), x]) ∧ ∀ xs, SqT K H a xs → xs[i]? = some x, fun i H => ∃ xs : List V, SqT K H a xs ∧ xs.length = i⟩
theorem turn_enumT {P : Program} {w : World} {K : PySem.W.Frag} {elts : List Expr} {kk : Nat} {tpos : Pos} (a e it : Addr) :
    Turn P w K (.Tuple elts kk tpos) (Itet K a) [e, it] e (fun i h => (∃ old, IsEnum h e it ((i : Nat) : Int) old) ∧ h.IsTupleIter it a i ∧ e ≠ it) where
  mem := by simp
  obj := fun i h ⟨⟨old, he⟩, ⟨o, ho, hc, hd⟩, _⟩ b hb => by
    rcases (by simpa using hb : b = e ∨ b = it) with q | q
    · subst q; exact ⟨_, he, fun v q => nomatch q⟩
    · subst q; exact ⟨o, ho, fun v q => by rw [hd] at q; cases q⟩
  keep := fun i h h' ⟨⟨old, he⟩, ⟨o, ho, hr⟩, hne⟩ k => ⟨⟨old, k e (by simp) _ he⟩, ⟨o, k it (by simp) _ ho, hr⟩, hne⟩
  item := by
    intro X hP hw hK hc i pins s σ H E I hf st hg
    subst hP hw hK
    obtain ⟨⟨old, he⟩, hit, hne⟩ := st
    obtain ⟨xs, x, hq, hx⟩ := hg
    obtain ⟨its, rv, p, hz⟩ := I.tuple hq
    obtain ⟨u, hu, ru⟩ := rv.get hx
    have hel : e < s.heap.objs.size := Heap.lt_size he
    have hil : it < s.heap.objs.size := by obtain ⟨_, q, _⟩ := hit; exact Heap.lt_size q
    have ht : s.heap.IsTuple a its.toArray := by first | exact p | exact p.isTuple
    have hat : a ≠ it := fun z => by
      subst z
      obtain ⟨o1, g1, c1, _⟩ := ht
      obtain ⟨o2, g2, c2, _⟩ := hit
      rw [g1] at g2; cases g2
      rw [c1] at c2; exact absurd c2 (by decide)
    have hae : e ≠ a := fun z => by
      subst z
      obtain ⟨o1, g1, c1, _⟩ := ht
      have he' : s.heap.get? e = _ := he
      rw [g1] at he'; cases he'
      have c1 : Value.type "enumerate" = Value.type "tuple" := c1
      exact absurd c1 (by decide)
    have hlt : i < its.toArray.size := by
      have h1 := (List.getElem?_eq_some_iff.mp hu).1
      simpa using h1
    refine wpAny_pyNext_enum_itemD (Draws.tuple (A := X.A.in1) (I.ok.hd hc) it a hat its.toArray) he ⟨hit, ht⟩ hlt hne (by simp [hne, hae]) fun x' h' tk hP ho hit' hT hsz hk => ?_
    have exu : x' = u := by
      have h2 : its[i]? = some x' := by simpa using hP
      rw [hu] at h2; exact (Option.some.inj h2).symm
    subst exu
    refine ⟨_, rfl, wpAny_letOwnedTupleGo_enum (s := { s with heap := h', toks := tk + 1 }) ho fun h'' he' sb => ?_⟩
    have hT2 : h''.get? s.heap.objs.size = some { cls := .type "tuple", data := .seq #[.int i tk, x'] } := (sb.2 _ (Nat.ne_of_gt hel)).trans hT
    have new : ObjOk X.prog X.w (upd H s.heap.objs.size (.tup [.int (i : Nat), x])) h'' s.heap.objs.size (.tup [.int (i : Nat), x]) :=
      ⟨by show 2 ≤ sizeLine; decide, _, .cons ⟨tk, rfl⟩ (.cons ru .nil), ⟨_, hT2, rfl, _, rfl⟩⟩
    have J : Inv X pins σ (upd H s.heap.objs.size (.tup [.int (i : Nat), x])) { s with heap := h'', toks := tk + 1 } :=
      I.turnedNew (ch := [e, it]) (fun b ob hb q => (sb.2 b (fun y => hb (by simp [y]))).trans (hk b ob (fun y => hb (by simp [y])) (fun y => hb (by simp [y])) q)) hf (Nat.le_refl _) new
    refine ⟨.ref s.heap.objs.size, _, J, rfl, ⟨_, x, rfl, I.hok.fresh (Nat.le_refl _), rfl, fun ys hy => by rw [I.tuple_inj hy hq]; exact hx⟩, ⟨⟨x', ?_⟩, ?_, hne⟩, fun b hb => ?_⟩
    · rw [show ((i + 1 : Nat) : Int) = (i : Int) + 1 by omega]; exact he'
    · obtain ⟨o, ho', hr⟩ := hit'.1
      exact ⟨o, (sb.2 it (Ne.symm hne)).trans ho', hr⟩
    · have hb' : b < s.heap.objs.size := by
        rcases (by simpa using hb : b = e ∨ b = it) with y | y
        · subst y; exact hel
        · subst y; exact hil
      rw [upd_ne (Nat.ne_of_lt hb')]
      exact (hf b hb).1
  done := by
    intro X hP hw hK hc i pins s σ H E I hf st hg
    subst hP hw hK
    obtain ⟨⟨old, he⟩, hit, hne⟩ := st
    obtain ⟨f0, f1, f2, f3, f4, f5⟩ := hf it (by simp)
    obtain ⟨xs, hq, hx⟩ := hg
    obtain ⟨its, rv, p, hz⟩ := I.tuple hq
    have ht : s.heap.IsTuple a its.toArray := by first | exact p | exact p.isTuple
    have hat : a ≠ it := fun z => by
      subst z
      obtain ⟨o1, g1, c1, _⟩ := ht
      obtain ⟨o2, g2, c2, _⟩ := hit
      rw [g1] at g2; cases g2
      rw [c1] at c2; exact absurd c2 (by decide)
    have hl := rv.length
    have hi : i = its.toArray.size := by simp; omega
    subst hi
    exact wpAny_pyNext_enum_endD (Draws.tuple (A := X.A.in1) (I.ok.hd hc) it a hat its.toArray) he ⟨hit, ht⟩ fun h' eb => ⟨rfl, I.turned (t' := s.toks) (fun b o hb q => eb b o hb q) f0 f1 f3 f4 f5⟩
  self := fun A i s Q E ⟨⟨_, he⟩, _⟩ h => wpAny_pyIter_enum he h
theorem wk_enT {g : Gd} {a : Addr} {xs : List V} {ds : List PyData} (h : SqT g.K g.F a xs) (d : DqA g xs ds) : WkD (Itet g.K a) g (enD 0 ds) where
  stop := fun g' H w x r => by
    rw [enD_len, ← d.length]
    exact ⟨xs, x.k ▸ r.sqT (x.sqT h), rfl⟩
  go := fun g' H w i x r hi => by
    rw [enD_len, ← d.length] at hi
    exact ⟨xs, xs[i], x.k ▸ r.sqT (x.sqT h), by simp [hi]⟩
  yld := fun g' H w i v H2 x r hi y => by
    rw [enD_len] at hi
    obtain ⟨T, b, rfl, hT, rfl, hb⟩ := y
    have hb := hb xs (x.k ▸ r.sqT (x.sqT h))
    have hd := List.getElem?_eq_getElem hi
    obtain ⟨b', h3, h4⟩ := d.get hd
    rw [hb] at h3
    cases h3
    have he := enD_get ds 0 i _ hd
    rw [Nat.zero_add] at he
    exact ⟨g'.put T (.tup [.int (i : Nat), b]), _, he, Xt.put (r.fnone hT), r.put hT, newT r hT (.cons (.int _) (.cons (h4.mono x _ _) .nil))⟩
def iEn2 (fa : FA) : FA := fun ρ w => (fa ρ w).bind fun ds w1 => match ds with
  | [.str z] => .ok (enD 0 (chD z)) w1
  | [.list xs] => .ok (enD 0 xs) w1
  | [.tuple xs] => .ok (enD 0 xs) w1
  | _ => .no
section
variable {X : Cx} {W : WX}
def iEnA2 (K : PySem.W.Frag) (ta : TA) : TI := fun σ H R => ta σ H fun vs H1 => (∃ z, vs = [.str z] ∧ R (Ites z) H1) ∨ (∃ a xs, vs = [.ref a] ∧ SqL K H1 a xs ∧ R (Ite K a) H1) ∨ ∃ a xs, vs = [.ref a] ∧ SqT K H1 a xs ∧ R (Itet K a) H1
theorem pi_enA2 {e : Expr} {ta : TA} {p pos tpos : Pos} {elts : List Expr} {kk : Nat} (hg : Gl X "enumerate") (hm : X.mg "enumerate" = none) (ha : PA X [e] ta) (hs : starEach [e] X.env = [(false, eval e X.env)] := by rfl) : PI X (.Tuple elts kk tpos) (.Call (.Name "enumerate" p) [e] [] pos) (iEnA2 X.K ta) := by
  refine ⟨fun pins s σ H R I h => ?_⟩
  refine Call_ (ld_blt I hg hm boot_enumerate (PyProof.Rows.callWith_type1 (thn (ha.run pos pins s σ H _ I h) fun us s1 hv => ?_) hs rfl))
  obtain ⟨vs, H1, I1, r1, q1⟩ := hv
  have apart : ∀ b, b ∈ [s1.heap.objs.size + 1, s1.heap.objs.size] → FpOk X pins H1 b := fun b hb => by
    have hle : s1.heap.objs.size ≤ b := by
      rcases (by simpa using hb : b = s1.heap.objs.size + 1 ∨ b = s1.heap.objs.size) with y | y
      · rw [y]; exact Nat.le_add_right _ _
      · rw [y]; exact Nat.le_refl _
    exact I1.fpOk hle (I1.hok.fresh hle)
  rcases q1 with ⟨z, rfl, q⟩ | ⟨a, xs, rfl, hq, q⟩ | ⟨a, xs, rfl, hq, q⟩
  · obtain ⟨u, rfl, ⟨t, rfl⟩⟩ := vals1 r1
    refine call_enumerate_str fun h' he hit hsz hk => wpAny_pyIter_enum he ?_
    exact ⟨_, [s1.heap.objs.size + 1, s1.heap.objs.size], _, _, H1, rfl, I1.kept (t' := s1.toks) hk, turn_enumS z t _ _, ⟨⟨.none, he⟩, hit, Nat.succ_ne_self _⟩, apart, q⟩
  · obtain ⟨u, rfl, ru⟩ := vals1 r1
    cases ru
    obtain ⟨its, rv, pl, hz⟩ := I1.list hq
    refine call_enumerate_list pl.isList fun h' he hit hsz hk => wpAny_pyIter_enum he ?_
    exact ⟨_, [s1.heap.objs.size + 1, s1.heap.objs.size], _, _, H1, rfl, I1.kept (t' := s1.toks) hk, turn_enum a _ _, ⟨⟨.none, he⟩, hit, Nat.succ_ne_self _⟩, apart, q⟩
  · obtain ⟨u, rfl, ru⟩ := vals1 r1
    cases ru
    obtain ⟨its, rv, pl, hz⟩ := I1.tuple hq
    have ht : s1.heap.IsTuple a its.toArray := by first | exact pl | exact pl.isTuple
    refine call_enumerate_tuple ht fun h' he hit hsz hk => wpAny_pyIter_enum he ?_
    exact ⟨_, [s1.heap.objs.size + 1, s1.heap.objs.size], _, _, H1, rfl, I1.kept (t' := s1.toks) hk, turn_enumT a _ _, ⟨⟨.none, he⟩, hit, Nat.succ_ne_self _⟩, apart, q⟩
theorem pif_enum2 {e : Expr} {fa : FA} {p pos tpos : Pos} {elts : List Expr} {kk : Nat} (hg : Gl X "enumerate") (hm : X.mg "enumerate" = none) (ha : PAf X W [e] fa) (hs : starEach [e] X.env = [(false, eval e X.env)] := by rfl) : PIf X W (.Tuple elts kk tpos) (.Call (.Name "enumerate" p) [e] [] pos) (iEn2 fa) := by
  refine pi_imp (pi_enA2 hg hm ha hs) fun σ H R ⟨g, ρ, w, hK, r, e, q⟩ => ?_
  refine lX_bind hK r e q fun v H1 g1 d w1 x r1 e1 dv z => ?_
  have hK1 := x.k.trans hK
  split at z
  · cases dv with
    | cons d0 dn =>
      cases dn; cases d0
      exact .inl ⟨_, rfl, z _ H1 g1 (Xt.refl _) r1 wk_enS⟩
  · cases dv with
    | cons d0 dn =>
      cases dn
      cases d0 with
      | lst sq da => exact .inr (.inl ⟨_, _, rfl, hK1 ▸ r1.sqL sq, hK1 ▸ z _ H1 g1 (Xt.refl _) r1 (wk_enL sq da)⟩)
  · cases dv with
    | cons d0 dn =>
      cases dn
      cases d0 with
      | tup sq da => exact .inr (.inr ⟨_, _, rfl, hK1 ▸ r1.sqT sq, hK1 ▸ z _ H1 g1 (Xt.refl _) r1 (wk_enT sq da)⟩)
  · exact z.elim
end
end Td

set_option Elab.async false
set_option linter.all false
set_option maxRecDepth 100000
set_option maxHeartbeats 4000000
namespace Tg
open PySem PySem.Spec PyProof.Rows L2 Td GenW
open Sem (wp)
variable {c : GCx}
/-! ### for, in a generator -/
def gForL (gt : FG) (f : FGn) : List PyData → FGn
  | [] => fun ρ w ys => .nx ρ w ys
  | d :: ds => fun ρ w ys => match gt d ρ w with
    | .ok ρ1 w1 => match f ρ1 w1 ys with
      | .nx ρ2 w2 y2 => gForL gt f ds ρ2 w2 y2
      | .ct ρ2 w2 y2 => gForL gt f ds ρ2 w2 y2
      | .bk ρ2 w2 y2 => .nx ρ2 w2 y2
      | o => o
    | _ => .no
def gFr (fi : FA) (gt : FG) (f : FGn) : FGn := fun ρ w ys => match fi ρ w with
  | .ok ds w1 => gForL gt f ds ρ w1 ys
  | _ => .no
theorem app_forL {gt : FG} {f : FGn} (b : App f) : ∀ ds, App (gForL gt f ds)
  | [] => fun _ _ _ => List.prefix_rfl
  | d :: ds => fun ρ w ys => by
    unfold gForL
    cases gt d ρ w with
    | ok ρ1 w1 =>
      have q := b ρ1 w1 ys
      simp only
      cases e : f ρ1 w1 ys with
      | nx ρ1 w1 y => rw [e] at q; exact appO.trans q (app_forL b ds _ _ _)
      | rt w1 y => rw [e] at q; exact q
      | bk ρ1 w1 y => rw [e] at q; exact q
      | ct ρ1 w1 y => rw [e] at q; exact appO.trans q (app_forL b ds _ _ _)
      | no => trivial
    | _ => trivial
theorem app_fr {fi : FA} {gt : FG} {f : FGn} (b : App f) : App (gFr fi gt f) := fun ρ w ys => by
  unfold gFr
  cases fi ρ w with
  | ok ds w1 => exact app_forL b ds ρ w1 ys
  | _ => trivial
section
variable {M : Model} {A : Around} {Φ : End → Shared → Prop} {cd : Code} {fs : List Frame} {s : Shared} {env : Env} {K : Flow → Sem PySem.Fin} {H : Value → Sem PySem.Fin} {gd : Bool → Bool} {lv : List Value → List Value}
theorem segw_runOwn {c' : Code}
    (h : ∀ p, SegW M A Φ c' (M.den c')
      (.ret (fun r => ((match r with | .ok f => (.pure f : Sem Flow) | .error e => .raise e).onRaise fun (x : Value) => do
        if (← field x 1) == Value.none then unsupported "frame.own-activation:exception-without-traceback"
        setFlight x env.frame).wrap K H gd lv) none (gd false) (lv []) cd p [] :: fs) s) :
    SegW M A Φ cd ((runOwn c' env).wrap K H gd lv) fs s :=
  segw_call h
theorem segw_forLoop {prog : Program} {w : World} {tg : Expr} {it : Value} {body : List Stmt}
    (h : wpAny (model prog w) (A.over (.forLoop tg it body [] env) fs) (pyNext it) (fun r s1 => match r with
      | none => SegW (model prog w) A Φ (.block [] env) ((model prog w).den (.block [] env)) fs s1
      | some v => wpAny (model prog w) (A.over (.forLoop tg it body [] env) fs) (letOwnedTupleGo tg it v) (fun _ s2 => wpAny (model prog w) (A.over (.forLoop tg it body [] env) fs) (assign tg env v) (fun _ s3 =>
          ∀ J, SegW (model prog w) A Φ (.forLoop tg it body [] env) ((execs body env).wrap (fun f => match f with
            | .next | .cont => .pure (.again (.forLoop tg it body [] env))
            | .brk => .pure (.done .next)
            | .ret v => .pure (.done (.ret v))) J id id) fs s3) (fun _ _ => False) s2) (fun _ _ => False) s1) (fun _ _ => False) s) :
    SegW (model prog w) A Φ (.forLoop tg it body [] env) ((model prog w).den (.forLoop tg it body [] env)) fs s := by
  show SegW _ A Φ _ ((forTurn tg it body [] env).onRaise (fun x => do noteFrame x env; theTreesLotGoes x)) fs s
  unfold forTurn
  rw [Sem.onRaise_eq_wrap, Sem.bind_eq_wrap', Sem.wrap_wrap]
  refine segw_wrap (wpAny_standAt ?_)
  rw [Sem.bind_eq_wrap', Sem.wrap_wrap]
  refine segw_wrap (wpAny_onRaise (wpAny_mono h (fun r s1 h1 => ?_) fun _ _ z => z.elim))
  cases r with
  | none => exact segw_again rfl h1
  | some v =>
    simp only at h1
    show SegW _ A Φ _ (Sem.wrap _ _ _ _ (letOwnedTupleGo tg it v >>= fun _ => assign tg env v >>= fun _ => execs body env >>= _)) fs s1
    rw [Sem.bind_eq_wrap', Sem.wrap_wrap]
    refine segw_wrap (wpAny_mono h1 (fun _ s2 h2 => ?_) fun _ _ z => z.elim)
    rw [Sem.bind_eq_wrap', Sem.wrap_wrap]
    refine segw_wrap (wpAny_mono h2 (fun _ s3 h3 => ?_) fun _ _ z => z.elim)
    rw [Sem.bind_eq_wrap', Sem.wrap_wrap]
    rw [Sem.wrap_congr (execs body env) _ _ (K' := fun f => match f with
          | .next | .cont => .pure (.again (.forLoop tg it body [] env))
          | .brk => .pure (.done .next)
          | .ret v => .pure (.done (.ret v))) (fun f => by cases f <;> rfl) (fun e => rfl)]
    exact h3 _
end
theorem gj_for {tg iter : Expr} {body : List Stmt} {pos : Pos} {fi : FA} {gt : FG} {is : List Nat} {f : FGn} (hi : ∀ s H q, PIf (c.X s H q) W0 tg iter fi) (hg : ∀ s H q, PGf (c.X s H q) is tg gt) (hb : GJs c body f) (ha : App f)
    (hs : ∀ x, foldedSetIterable iter c.env x = pure x := by intro _; rfl) : GJ c (.For tg iter body [] pos) (gFr fi gt f) := by
  intro L Ph hY ip code fs K J gd lv D ys b g ρ w σ H s gc pre gk st' hw
  show SegW _ _ _ _ ((exec (.For tg iter body [] pos) c.env).wrap K J gd lv) fs s
  rw [exec_For]
  show SegW _ _ _ _ (.at pos fun _ => ((eval iter c.env >>= fun v => foldedSetIterable iter c.env v >>= fun x => standAt iter.pos >>= fun _ => holding [x] (pyIter x) >>= fun it => runOwn (.forLoop tg it body [] c.env) c.env)).wrap K J gd lv) fs s
  refine segw_at ?_
  rw [Sem.bind_eq_wrap', Sem.wrap_wrap]
  refine segw_wrap ?_
  rw [gc.over]
  have hK : g.K = (c.X b.s b.H b.pn).K := st'.k
  unfold gFr at hw
  cases ef : fi ρ w with
  | ex c0 f0 w1 => rw [ef] at hw; exact hw.elim
  | no => rw [ef] at hw; exact hw.elim
  | ok ds w1 =>
    rw [ef] at hw
    simp only at hw
    have key := (hi b.s b.H b.pn).run ip s σ H (fun J' H' => ∃ g', Xt g g' ∧ Rp g' H' w1 ∧ WkD J' g' ds) st'.inv ⟨g, ρ, w, hK, st'.rp, st'.en, by
      rw [ef]
      exact fun J' H' g' x r q => ⟨g', x, r, q⟩⟩
    refine wpAny_mono key (fun v s1 h1 => ?_) fun x s' hx => hx.elim
    rw [hs v]
    show SegW _ _ _ _ ((standAt iter.pos >>= fun _ => holding [v] (pyIter v) >>= fun it => runOwn (.forLoop tg it body [] c.env) c.env).wrap _ _ _ _) fs s1
    rw [Sem.bind_eq_wrap', Sem.wrap_wrap]
    refine segw_wrap (wpAny_standAt ?_)
    rw [Sem.bind_eq_wrap', Sem.wrap_wrap]
    refine segw_wrap ?_
    rw [gc.over]
    refine wpAny_holding (wpAny_mono h1 (fun itv s2 h2 => ?_) fun x s' hx => hx.elim)
    obtain ⟨it, fp, tn, J', H2, e, I2, T, tn0, f2, g1, xt, r1, wk⟩ := h2
    subst e
    refine segw_runOwn fun p => ?_
    have gl := fun (kk : Result → Sem PySem.Fin) (ll : List Value) => gc_in (k := kk) (code' := .forLoop tg (.ref it) body [] c.env) (l := ll) (kp := []) (p := p) gc rfl rfl
    have stat : ∀ bb ∈ fp, bb ≠ c.env.locals ∧ bb ∉ (c.X b.s b.H b.pn).fs ∧ c.n0 ≤ bb ∧ (∀ x c', c.env.cells.lookup x = some c' → c' ≠ bb) ∧ ∀ q ∈ c.pn ++ ip, q.1 ≠ bb := fun bb h => by
      obtain ⟨q1, q2, q3, q4, q5, q6⟩ := f2 bb h
      refine ⟨q2, q3, ?_, q5, fun q hq => q6 q (mid_mem hq)⟩
      rcases q4 with z | z
      · exact absurd (show bb ∈ ([] : List Addr) from z) (by simp)
      · have z : b.s.heap.objs.size ≤ bb := z
        rw [st'.sz] at z; exact z
    have fpOk : ∀ {b' : Sg} {H' : Hp}, b'.s.heap.objs.size = c.n0 → (∀ bb ∈ fp, H' bb = none ∧ ∀ q ∈ b'.pn, q.1 ≠ bb) → ∀ bb ∈ fp, FpOk (c.X b'.s b'.H b'.pn) ip H' bb := fun {b' H'} hz h bb hbb => by
      obtain ⟨q1, q2, q3, q4, q5⟩ := stat bb hbb
      refine ⟨(h bb hbb).1, q1, q2, .inr (by show b'.s.heap.objs.size ≤ bb; rw [hz]; exact q3), q4, fun q hq => ?_⟩
      rcases mid_cases (show q ∈ (c.pn ++ b'.pn) ++ ip from hq) with hq | hq
      · exact q5 q hq
      · exact (h bb hbb).2 q hq
    have loop : ∀ (m i : Nat), m = ds.length - i → i ≤ ds.length → ∀ (ys : List PyData) (b : Sg) (g2 : Gd) (ρ : Ev) (w : Ws) (σ : L2.St) (H : Hp) (s : Shared), Xt0 g1 g2 → Gs c ip b g2 ρ w σ H s → tn i s.heap → (∀ bb ∈ fp, H bb = none ∧ ∀ q ∈ b.pn, q.1 ≠ bb) → wish D (gForL gt f (ds.drop i) ρ w ys) →
        SegW (model c.P c.w) c.A (Ph ys b) (.forLoop tg (.ref it) body [] c.env) ((model c.P c.w).den (.forLoop tg (.ref it) body [] c.env))
          (.ret (fun r => ((match r with | .ok f => (.pure f : Sem Flow) | .error e => .raise e).onRaise fun (x : Value) => do
            if (← field x 1) == Value.none then unsupported "frame.own-activation:exception-without-traceback"
            setFlight x c.env.frame).wrap K J gd lv) none (gd false) (lv []) code p [] :: fs) s := by
      intro m
      induction m with
      | zero =>
        intro i hm hi' ys b g2 ρ w σ H s xg st htn hfr hw
        have ei : i = ds.length := by omega
        subst ei
        rw [List.drop_length] at hw
        refine segw_forLoop ?_
        rw [(gl _ _).over]
        refine wpAny_mono (T.done (c.X b.s b.H b.pn) rfl rfl rfl rfl ds.length ip s σ H (fun _ _ => False) st.inv (fpOk st.sz hfr) htn (wk.stop g2 H w xg st.rp)) (fun r s4 hr => ?_) fun _ _ z => z
        obtain ⟨rfl, I4⟩ := hr
        exact segw_leaf (.ok .next) (gk ys b s4 .next ⟨g2, ρ, w, σ, H, xt.toXt0.trans xg, ⟨I4, st.rp, st.en, st.k, st.x, st.lo, st.sz⟩, hw⟩)
      | succ m ih =>
        intro i hm hi' ys b g2 ρ w σ H s xg st htn hfr hw
        have hlt : i < ds.length := by omega
        refine segw_forLoop ?_
        rw [(gl _ _).over]
        refine wpAny_mono (T.item (c.X b.s b.H b.pn) rfl rfl rfl rfl i ip s σ H (fun _ _ => False) st.inv (fpOk st.sz hfr) htn (wk.go g2 H w i xg st.rp hlt)) (fun r s4 hr => ?_) fun _ _ z => z
        obtain ⟨u, rfl, h4⟩ := hr
        refine wpAny_mono h4 (fun _ s5 h5 => ?_) fun _ _ z => z
        obtain ⟨x, H5, I5, r5, y5, st5, fr5⟩ := h5
        obtain ⟨g3, d, hd, x3, rp3, dv⟩ := wk.yld g2 H w i x H5 xg st.rp hlt y5
        have ed : ds.drop i = d :: ds.drop (i + 1) := by
          rw [List.drop_eq_getElem_cons hlt]
          rw [List.getElem?_eq_getElem hlt] at hd
          rw [Option.some.inj hd]
        rw [ed] at hw
        unfold gForL at hw
        have fr5' : ∀ bb ∈ fp, H5 bb = none ∧ ∀ q ∈ b.pn, q.1 ≠ bb := fun bb h => ⟨fr5 bb h, (hfr bb h).2⟩
        have I5' := I5.pinned (fpOk st.sz fr5') (T.obj _ _ st5)
        cases hgt : gt d ρ w with
        | ex c0 f0 w3 => rw [hgt] at hw; exact hw.elim
        | no => rw [hgt] at hw; exact hw.elim
        | ok ρ1 w1' =>
          rw [hgt] at hw
          simp only at hw
          have asg := (hg b.s b.H b.pn).run _ s5 σ H5 x u (fun σ' H' => ∃ g4, Xt g3 g4 ∧ Rp g4 H' w1' ∧ EnR g4 σ' ρ1) I5' r5 ⟨g3, ρ, w, d, x3.k.trans st.k, rp3, st.en.mono x3.toXt0, dv, by
            rw [hgt]
            exact fun σ' H' g' x' r' e' _ => ⟨g', x', r', e'⟩⟩
          refine wpAny_mono asg (fun _ s6 h6 => ?_) fun _ _ z => z.elim
          obtain ⟨σ6, H6, I6, g4, x4, r4, e4⟩ := h6
          intro J2
          have lo6 : ∀ q ∈ c.pn ++ (ip ++ pinsAt fp s5.heap), c.n0 ≤ q.1 ∧ ∀ r ∈ b.pn, r.1 ≠ q.1 := fun q hq => by
            rw [← List.append_assoc] at hq
            rcases List.mem_append.mp hq with hq | hq
            · exact st.lo q hq
            · obtain ⟨ha, _⟩ := of_pinsAt hq
              exact ⟨(stat _ ha).2.2.1, (hfr _ ha).2⟩
          have up : Xt0 g2 g4 := x3.toXt0.trans x4.toXt0
          refine hb L Ph hY (ip ++ pinsAt fp s5.heap) _ _ _ J2 id id { nx := fun ρ2 w2 y2 => wish D (gForL gt f (ds.drop (i + 1)) ρ2 w2 y2), ct := fun ρ2 w2 y2 => wish D (gForL gt f (ds.drop (i + 1)) ρ2 w2 y2), bk := D.nx, rt := D.rt } ys b g4 ρ1 w1' σ6 H6 s6 (gl _ _)
            ⟨fun ρ w ys q => (app_forL ha _).pre pre q, pre.nx, fun ρ w ys q => (app_forL ha _).pre pre q, pre.rt⟩ (fun ys3 b3 s3 fl hs => ?_) ⟨I6, r4, e4, x4.k.trans (x3.k.trans st.k), st.x.trans (x3.trans x4), lo6, st.sz⟩ ?_
          · have back : ∀ {g5 : Gd} {ρ5 : Ev} {w5 : Ws} {σ5 : L2.St} {H5' : Hp}, Gs c (ip ++ pinsAt fp s5.heap) b3 g5 ρ5 w5 σ5 H5' s3 → Gs c ip b3 g5 ρ5 w5 σ5 H5' s3 := fun G => ⟨G.inv.unpinned, G.rp, G.en, G.k, G.x, fun q hq => G.lo q (by rw [← List.append_assoc]; exact List.mem_append_left _ hq), G.sz⟩
            have again : ∀ {g5 : Gd} {ρ5 : Ev} {w5 : Ws} {σ5 : L2.St} {H5' : Hp}, Xt0 g4 g5 → Gs c (ip ++ pinsAt fp s5.heap) b3 g5 ρ5 w5 σ5 H5' s3 → wish D (gForL gt f (ds.drop (i + 1)) ρ5 w5 ys3) → SegW (model c.P c.w) c.A (Ph ys3 b3) (.forLoop tg (.ref it) body [] c.env) (.pure (.again (.forLoop tg (.ref it) body [] c.env))) _ s3 := fun {g5 ρ5 w5 σ5 H5'} x5 G5 w5' =>
              segw_again rfl (ih (i + 1) (by omega) hlt ys3 b3 g5 ρ5 w5 σ5 H5' s3 (xg.trans (up.trans x5)) (back G5)
                (T.keep _ _ _ st5 fun bb hbb o e => (G5.inv.pin (bb, o) (List.mem_append_right _ (List.mem_append_right _ (mem_pinsAt hbb e)))).1)
                (fun bb hbb => by
                  obtain ⟨o, e, d'⟩ := T.obj _ _ st5 bb hbb
                  have hq : (bb, o) ∈ c.pn ++ (ip ++ pinsAt fp s5.heap) := List.mem_append_right _ (List.mem_append_right _ (mem_pinsAt hbb e))
                  exact ⟨(G5.inv.pin (bb, o) (List.mem_append_right _ (List.mem_append_right _ (mem_pinsAt hbb e)))).2.1, (G5.lo (bb, o) hq).2⟩) w5')
            cases fl with
            | next => obtain ⟨g5, ρ5, w5, σ5, H5', x5, G5, w5'⟩ := hs; exact again x5 G5 w5'
            | cont => obtain ⟨g5, ρ5, w5, σ5, H5', x5, G5, w5'⟩ := hs; exact again x5 G5 w5'
            | brk => obtain ⟨g5, ρ5, w5, σ5, H5', x5, G5, w5'⟩ := hs; exact segw_leaf (.ok .next) (gk ys3 b3 s3 .next ⟨g5, ρ5, w5, σ5, H5', (xt.toXt0.trans xg).trans (up.trans x5), back G5, w5'⟩)
            | ret u => obtain ⟨g5, ρ5, w5, σ5, H5', x5, G5, w5'⟩ := hs; exact segw_leaf (.ok (.ret u)) (gk ys3 b3 s3 (.ret u) ⟨g5, ρ5, w5, σ5, H5', (xt.toXt0.trans xg).trans (up.trans x5), back G5, w5'⟩)
          · cases e : f ρ1 w1' ys with
            | nx ρ2 w2 y => rw [e] at hw; exact hw
            | rt w2 y => rw [e] at hw; exact hw
            | bk ρ2 w2 y => rw [e] at hw; exact hw
            | ct ρ2 w2 y => rw [e] at hw; exact hw
            | no => rw [e] at hw; exact hw
    exact loop ds.length 0 (by simp) (Nat.zero_le _) ys b g1 ρ w1 σ H2 s2 (Xt.refl g1).toXt0 ⟨I2, r1, st'.en.mono xt.toXt0, xt.k.trans st'.k, st'.x.trans xt, st'.lo, st'.sz⟩ tn0 (fun bb h => ⟨(f2 bb h).1, fun q hq => (f2 bb h).2.2.2.2.2 q (List.mem_append_left _ (List.mem_append_right _ hq))⟩) hw
end Tg

set_option Elab.async false
set_option linter.all false
set_option maxRecDepth 100000
set_option maxHeartbeats 4000000
namespace Td
open PySem L2
/-! ### max, min, sorted of a list of texts -/
def intsOf : List PyData → Option (List Int)
  | [] => some []
  | .int i :: r => (intsOf r).map (i :: ·)
  | _ :: _ => none
theorem intsOf_ok {g : Gd} : ∀ {vs : List V} {ds : List PyData} {is : List Int}, DqA g vs ds → intsOf ds = some is → vs = is.map V.int
  | _, _, _, .nil, e => by cases e; rfl
  | _, _, _, .cons h t, e => by
    cases h with
    | int b =>
      obtain ⟨bs, hb, rfl⟩ := Option.map_eq_some_iff.mp e
      rw [intsOf_ok t hb]
      rfl
    | _ => cases e
theorem foldl_max : ∀ (ns : List Int) (n : Int), n ≤ ns.foldl max n ∧ (∀ y ∈ ns, y ≤ ns.foldl max n) ∧ (ns.foldl max n = n ∨ ns.foldl max n ∈ ns)
  | [], n => ⟨Int.le_refl _, fun y h => (by cases h), .inl rfl⟩
  | a :: ns, n => by
    obtain ⟨h1, h2, h3⟩ := foldl_max ns (max n a)
    refine ⟨by simp only [List.foldl_cons]; omega, fun y hy => ?_, ?_⟩
    · simp only [List.foldl_cons]
      rcases List.mem_cons.mp hy with rfl | hy
      · omega
      · exact h2 y hy
    · simp only [List.foldl_cons]
      rcases h3 with h | h
      · rw [h]
        by_cases q : n ≤ a
        · right; rw [Int.max_eq_right q]; exact List.mem_cons_self
        · left; rw [Int.max_eq_left (by omega)]
      · exact .inr (List.mem_cons_of_mem _ h)
def max1D (w : Ws) : List PyData → Option PyData
  | [d] => match (lstOf w d).bind intsOf with
    | some (n :: ns) => some (.int (ns.foldl max n))
    | _ => none
  | _ => none
def max2D (_ : Ws) : List PyData → Option PyData
  | [.int i, .int j] => some (.int (if j > i then j else i))
  | _ => none
def min2D (_ : Ws) : List PyData → Option PyData
  | [.int i, .int j] => some (.int (if j < i then j else i))
  | _ => none
def sortLD (w : Ws) : List PyData → Option PyData
  | [d] => match lstOf w d with
    | some ds => match strsD ds with
      | some ks => if decide (ks.length < 64) then some (.list ((srtS ks).map .str)) else none
      | none => none
    | none => none
  | _ => none
section
variable {X : Cx} {W : WX}
theorem call_max1X (hc : X.calm = true) : CallR X (.builtin "max") (rDN X.K max1D) := by
  intro pins s σ H xs us Q I rv ⟨g, w, ds, z, hK, r, dx, hz, q⟩
  unfold max1D at hz
  split at hz
  · split at hz
    · rename_i n ns hn
      cases hz
      obtain ⟨l, hl, hb⟩ := Option.bind_eq_some_iff.mp hn
      cases dx with
      | cons d0 dn =>
        cases dn
        obtain ⟨a, xs, rfl, sq, da⟩ := lstOf_ok r d0 hl
        have e := intsOf_ok da hb
        subst e
        refine cr_max hc pins s σ H _ us Q I rv ⟨a, n :: ns, rfl, hK ▸ sq, by simp, fun m hm hy => ?_⟩
        obtain ⟨h1, h2, h3⟩ := foldl_max ns n
        have em : m = ns.foldl max n := by
          refine Int.le_antisymm ?_ ?_
          · rcases List.mem_cons.mp hm with rfl | hm
            · exact h1
            · exact h2 m hm
          · rcases h3 with h | h
            · rw [h]; exact hy n List.mem_cons_self
            · exact hy _ (List.mem_cons_of_mem _ h)
        rw [em]
        exact q _ H g (Xt.refl g) r (.int _)
    · cases hz
  · cases hz
theorem call_max2X (hc : X.calm = true) : CallR X (.builtin "max") (rDN X.K max2D) := by
  intro pins s σ H xs us Q I rv ⟨g, w, ds, z, hK, r, dx, hz, q⟩
  unfold max2D at hz
  split at hz
  · cases hz
    cases dx with
    | cons d0 dn =>
      cases dn with
      | cons d1 dn =>
        cases dn; cases d0; cases d1
        exact call_max2 hc pins s σ H _ us Q I rv ⟨_, _, rfl, q _ H g (Xt.refl g) r (.int _)⟩
  · cases hz
theorem call_min2X (hc : X.calm = true) : CallR X (.builtin "min") (rDN X.K min2D) := by
  intro pins s σ H xs us Q I rv ⟨g, w, ds, z, hK, r, dx, hz, q⟩
  unfold min2D at hz
  split at hz
  · cases hz
    cases dx with
    | cons d0 dn =>
      cases dn with
      | cons d1 dn =>
        cases dn; cases d0; cases d1
        exact call_min2 hc pins s σ H _ us Q I rv ⟨_, _, rfl, q _ H g (Xt.refl g) r (.int _)⟩
  · cases hz
theorem call_sortLX : CallR X (.builtin "sorted") (rDN X.K sortLD) := by
  intro pins s σ H xs us Q I rv ⟨g, w, ds, z, hK, r, dx, hz, q⟩
  unfold sortLD at hz
  split at hz
  · split at hz
    · rename_i l hl
      split at hz
      · rename_i ks hks
        split at hz
        · rename_i hlen
          cases hz
          cases dx with
          | cons d0 dn =>
            cases dn
            obtain ⟨a, xs, rfl, sq, da⟩ := lstOf_ok r d0 hl
            have e := strsD_ok da hks
            subst e
            refine cr_sortedS pins s σ H _ us Q I rv ⟨a, ks, rfl, hK ▸ sq, of_decide_eq_true hlen, fun ys p hp hs hn => ?_⟩
            rw [srtS_one hp hs]
            exact q _ _ _ (Xt.put (r.fnone hn)) (r.put hn) (newL r hn (dqA_strs _))
        · cases hz
      · cases hz
    · cases hz
  · cases hz
end
end Td

set_option Elab.async false
set_option linter.all false
set_option maxRecDepth 100000
set_option maxHeartbeats 4000000
namespace Tg
open PySem PySem.Spec PyProof.Rows L2 Td GenW
/-! ### sorted({e for x in .. for y in ..}), texts -/
abbrev sc2 (elt t0 i0 t1 i1 : Expr) (scope : Scope) (pos : Pos) : Expr := .SetComp elt [⟨t0, i0, [], 0⟩, ⟨t1, i1, [], 0⟩] scope pos
theorem sc2_out (elt t0 i0 t1 i1 : Expr) (scope : Scope) (pos : Pos) (it acc : Value) (env : Env) :
    compTurn (sc2 elt t0 i0 t1 i1 scope pos) 0 it acc env = (standAt i0.pos >>= fun _ => pyNext it >>= fun r => match r with
      | none => pure (.done .next)
      | some v => letOwnedTupleGo t0 it v >>= fun _ => assign t0 env v >>= fun _ => eval i1 env >>= fun x => standAt i1.pos >>= fun _ => foldedSetIterable i1 env x >>= fun x =>
          holding [x] (pyIter x) >>= fun i => runOwn (.compStart (sc2 elt t0 i0 t1 i1 scope pos) 1 i acc env) env >>= fun _ => again (.compLoop (sc2 elt t0 i0 t1 i1 scope pos) 0 it acc env)) := by rfl
theorem sc2_in (elt t0 i0 t1 i1 : Expr) (scope : Scope) (pos : Pos) (it acc : Value) (env : Env) :
    compTurn (sc2 elt t0 i0 t1 i1 scope pos) 1 it acc env = (standAt i1.pos >>= fun _ => pyNext it >>= fun r => match r with
      | none => pure (.done .next)
      | some v => letOwnedTupleGo t1 it v >>= fun _ => assign t1 env v >>= fun _ => (eval elt env >>= fun v => standAt elt.pos >>= fun _ => call (.builtin "set.add") [acc, v] >>= fun _ => pure ()) >>= fun _ =>
          again (.compLoop (sc2 elt t0 i0 t1 i1 scope pos) 1 it acc env)) := by rfl
abbrev nay : Value → Shared → Prop := fun _ _ => False
section
variable {prog : Program} {w : World} {A : Around} {R : Result → Shared → Prop} {s : Shared} {elt t0 i0 t1 i1 : Expr} {scope : Scope} {pos : Pos} {it acc : Value} {env : Env}
theorem sc2_loop0 (hs : ∀ x, foldedSetIterable i1 env x = pure x) (J : Nat → Shared → Prop)
    (turn : ∀ n s, J n s → wpAny (model prog w) A (pyNext it) (fun r s1 => match r with
      | none => R (.ok .next) s1
      | some v => wpAny (model prog w) A (letOwnedTupleGo t0 it v) (fun _ s2 => wpAny (model prog w) A (assign t0 env v) (fun _ s3 => wpAny (model prog w) A (eval i1 env) (fun x s4 => wpAny (model prog w) A (pyIter x) (fun j s5 =>
          codeAny (model prog w) A (.compStart (sc2 elt t0 i0 t1 i1 scope pos) 1 j acc env) (fun r s' => match r with
            | .ok _ => ∃ m, m < n ∧ J m s'
            | .error _ => False) s5) nay s4) nay s3) nay s2) nay s1) nay s)
    (n : Nat) (h : J n s) : codeAny (model prog w) A (.compLoop (sc2 elt t0 i0 t1 i1 scope pos) 0 it acc env) R s := by
  refine codeAny_loop rfl J (fun n s hJ => ?_) n h
  show wpAny _ A ((compTurn (sc2 elt t0 i0 t1 i1 scope pos) 0 it acc env).onRaise (fun x => do noteFrame x env; theTreesLotGoes x)) _ _ s
  refine wpAny_noted ?_
  rw [sc2_out]
  refine wpAny_bind (wpAny_standAt (wpAny_bind (wpAny_mono (turn n s hJ) (fun r q1 k1 => ?_) fun _ _ z => z.elim)))
  cases r with
  | none => exact wpAny_pure k1
  | some v =>
    refine wpAny_bind (wpAny_mono k1 (fun _ q2 k2 => ?_) fun _ _ z => z.elim)
    refine wpAny_bind (wpAny_mono k2 (fun _ q3 k3 => ?_) fun _ _ z => z.elim)
    refine wpAny_bind (wpAny_mono k3 (fun x q4 k4 => ?_) fun _ _ z => z.elim)
    refine wpAny_bind (wpAny_standAt (wpAny_bind (wpAny_of_eq (hs x) (wpAny_bind (wpAny_holding (wpAny_mono k4 (fun j q5 k5 => ?_) fun _ _ z => z.elim))))))
    refine wpAny_bind (wpAny_runOwn ?_)
    rw [Around.mark_none]
    refine codeAny_mono k5 fun r q6 k6 => ?_
    cases r with
    | ok f => exact wpAny_pure ⟨rfl, k6⟩
    | error e => exact k6.elim
theorem sc2_loop1 (J : Nat → Shared → Prop)
    (turn : ∀ n s, J n s → wpAny (model prog w) A (pyNext it) (fun r s1 => match r with
      | none => R (.ok .next) s1
      | some v => wpAny (model prog w) A (letOwnedTupleGo t1 it v) (fun _ s2 => wpAny (model prog w) A (assign t1 env v) (fun _ s3 => wpAny (model prog w) A (eval elt env) (fun x s4 =>
          wpAny (model prog w) A (call (.builtin "set.add") [acc, x]) (fun _ s5 => ∃ m, m < n ∧ J m s5) nay s4) nay s3) nay s2) nay s1) nay s)
    (n : Nat) (h : J n s) : codeAny (model prog w) A (.compLoop (sc2 elt t0 i0 t1 i1 scope pos) 1 it acc env) R s := by
  refine codeAny_loop rfl J (fun n s hJ => ?_) n h
  show wpAny _ A ((compTurn (sc2 elt t0 i0 t1 i1 scope pos) 1 it acc env).onRaise (fun x => do noteFrame x env; theTreesLotGoes x)) _ _ s
  refine wpAny_noted ?_
  rw [sc2_in]
  refine wpAny_bind (wpAny_standAt (wpAny_bind (wpAny_mono (turn n s hJ) (fun r q1 k1 => ?_) fun _ _ z => z.elim)))
  cases r with
  | none => exact wpAny_pure k1
  | some v =>
    refine wpAny_bind (wpAny_mono k1 (fun _ q2 k2 => ?_) fun _ _ z => z.elim)
    refine wpAny_bind (wpAny_mono k2 (fun _ q3 k3 => ?_) fun _ _ z => z.elim)
    refine wpAny_bind (wpAny_bind (wpAny_mono k3 (fun x q4 k4 => ?_) fun _ _ z => z.elim))
    exact wpAny_bind (wpAny_standAt (wpAny_bind (wpAny_mono k4 (fun _ q5 k5 => wpAny_pure (wpAny_pure ⟨rfl, k5⟩)) fun _ _ z => z.elim)))
theorem sc2_start (h0 : codeAny (model prog w) A (.compLoop (sc2 elt t0 i0 t1 i1 scope pos) 1 it acc env) R s)
    (h : wpAny (model prog w) A (pyIter it) (fun j q => codeAny (model prog w) A (.compLoop (sc2 elt t0 i0 t1 i1 scope pos) 1 j acc env) R q)
      (notedBy (model prog w) A env fun x q => R (.error x) q) s) :
    codeAny (model prog w) A (.compStart (sc2 elt t0 i0 t1 i1 scope pos) 1 it acc env) R s := by
  refine codeAny_of_tree ?_
  show wpAny _ _ ((compStart (sc2 elt t0 i0 t1 i1 scope pos) 1 it acc env).onRaise (fun x => do noteFrame x env; standAt theWindowsPlace)) _ _ s
  refine wpAny_notedAt ?_
  unfold compStart
  show wpAny _ _ (ask >>= _) _ _ s
  refine wpAny_bind (wpAny_askSetting (wpAny_ite ?_))
  split
  · first
      | exact wpAny_bind (wpAny_pure (wpAny_pure ⟨rfl, h0⟩))
      | exact wpAny_pure ⟨rfl, h0⟩
  · refine wpAny_bind (wpAny_rule ?_)
    first
      | exact wpAny_bind (wpAny_standAt (wpAny_bind (wpAny_mono h (fun j q k => wpAny_pure ⟨rfl, k⟩) fun _ _ x => x)))
      | (show wpAny _ _ (standAt i1.pos >>= _) _ _ s; exact wpAny_bind (wpAny_standAt (wpAny_bind (wpAny_mono h (fun j q k => wpAny_pure ⟨rfl, k⟩) fun _ _ x => x))))
end
def lc2L (gt : FG) (fi1 : FA) (gt1 : FG) (fe : FE) (vs1 : List Nat) (ρ : Ev) : List PyData → Ws → List PyData → Oc (List PyData)
  | [], w, acc => .ok acc w
  | d :: ds, w, acc => match gt d ρ w with
    | .ok ρ1 w1 => match fi1 ρ1 w1 with
      | .ok ds1 w2 => match lcL gt1 tYs fe (wipeE ρ1 vs1) ds1 w2 acc with
        | .ok acc1 w3 => lc2L gt fi1 gt1 fe vs1 ρ ds w3 acc1
        | _ => .no
      | _ => .no
    | _ => .no
theorem lc2L_pre {gt : FG} {fi1 : FA} {gt1 : FG} {fe : FE} {vs1 : List Nat} {ρ : Ev} {out : List PyData} {wo : Ws} : ∀ (L : List PyData) (w : Ws) (acc : List PyData), lc2L gt fi1 gt1 fe vs1 ρ L w acc = .ok out wo → acc <+: out
  | [], w, acc, h => by rw [lc2L] at h; cases h; exact List.prefix_rfl
  | d :: ds, w, acc, h => by
    rw [lc2L] at h
    cases h1 : gt d ρ w with
    | ok ρ1 w1 =>
      rw [h1] at h
      simp only at h
      cases h2 : fi1 ρ1 w1 with
      | ok ds1 w2 =>
        rw [h2] at h
        simp only at h
        cases h3 : lcL gt1 tYs fe (wipeE ρ1 vs1) ds1 w2 acc with
        | ok acc1 w3 =>
          rw [h3] at h
          exact (lcL_pre _ _ _ h3).trans (lc2L_pre ds _ _ h)
        | ex c0 f0 w0 => rw [h3] at h; cases h
        | no => rw [h3] at h; cases h
      | ex c0 f0 w0 => rw [h2] at h; cases h
      | no => rw [h2] at h; cases h
    | ex c0 f0 w0 => rw [h1] at h; cases h
    | no => rw [h1] at h; cases h
theorem lc2L_nox {gt : FG} {fi1 : FA} {gt1 : FG} {fe : FE} {vs1 : List Nat} {ρ : Ev} {c0 : Value} {f0 : List (Str × PyData)} {w0 : Ws} : ∀ (L : List PyData) (w : Ws) (acc : List PyData), lc2L gt fi1 gt1 fe vs1 ρ L w acc ≠ .ex c0 f0 w0
  | [], w, acc, h => by rw [lc2L] at h; cases h
  | d :: ds, w, acc, h => by
    rw [lc2L] at h
    cases h1 : gt d ρ w with
    | ok ρ1 w1 =>
      rw [h1] at h
      simp only at h
      cases h2 : fi1 ρ1 w1 with
      | ok ds1 w2 =>
        rw [h2] at h
        simp only at h
        cases h3 : lcL gt1 tYs fe (wipeE ρ1 vs1) ds1 w2 acc with
        | ok acc1 w3 => rw [h3] at h; exact lc2L_nox ds _ _ h
        | ex c1 f1 w4 => rw [h3] at h; cases h
        | no => rw [h3] at h; cases h
      | ex c1 f1 w4 => rw [h2] at h; cases h
      | no => rw [h2] at h; cases h
    | ex c1 f1 w4 => rw [h1] at h; cases h
    | no => rw [h1] at h; cases h
theorem pre_strs {l : List PyData} {xs : List Str} (h : l <+: xs.map PyData.str) : ∃ zs : List Str, l = zs.map PyData.str ∧ zs.length ≤ xs.length := by
  obtain ⟨t, ht⟩ := h
  have hl := congrArg List.length ht
  simp only [List.length_append, List.length_map] at hl
  refine ⟨xs.take l.length, ?_, List.length_take_le' _ _⟩
  rw [List.map_take, ← ht, List.take_left]
def eSsc2 (fi : FA) (gt : FG) (fi1 : FA) (gt1 : FG) (fe : FE) (vs vs1 : List Nat) : FE := fun ρ w => (fi ρ w).bind fun ds w1 => (lc2L gt fi1 gt1 fe vs1 (wipeE ρ vs) ds w1 []).bind fun acc w2 => match strsD acc with
  | some xs => if decide (xs.length + 1 < scanBound) then .ok (.list ((srtS (ddS xs)).map .str)) w2 else .no
  | none => .no
section
variable {X : Cx} {W : WX}
theorem pf_ssc2 {elt tg iter tg1 iter1 : Expr} {scope : Scope} {own : List (Str × Nat)} {vs1 : List Nat} {p1 pos pos1 : Pos} {fi fi1 : FA} {gt gt1 : FG} {fe : FE} {is is1 : List Nat}
    (hc : X.calm = true) (hN : X.N.Nodup) (hgs1 : Gl X "sorted") (hms : X.mg "sorted" = none) (hi : PIf X W tg iter fi) (ok : BlkOk X.N X.env.scope scope own)
    (hg : ∀ (s : Shared) (H : Hp) (C : Addr) (cl : List (Str × Addr)) (fp : List Addr), PGf (X.blk s H scope (compEnvC scope cl C X.env) fp) is tg gt)
    (hi1 : ∀ (s : Shared) (H : Hp) (C : Addr) (cl : List (Str × Addr)) (fp : List Addr), PIf (X.blk s H scope (compEnvC scope cl C X.env) fp) W0 tg1 iter1 fi1)
    (hg1 : ∀ (s : Shared) (H : Hp) (C : Addr) (cl : List (Str × Addr)) (fp : List Addr), PGf (X.blk s H scope (compEnvC scope cl C X.env) fp) is1 tg1 gt1)
    (he : ∀ (s : Shared) (H : Hp) (C : Addr) (cl : List (Str × Addr)) (fp : List Addr), PF (X.blk s H scope (compEnvC scope cl C X.env) fp) W0 elt fe)
    (hs : ∀ x, foldedSetIterable iter X.env x = pure x := by intro _; rfl) (hs1 : ∀ env x, foldedSetIterable iter1 env x = pure x := by intro _ _; rfl)
    (his : ∀ i ∈ is, i ∈ own.map (·.2) := by decide) (his1 : ∀ i ∈ is1, i ∈ vs1 := by decide) (hv : ∀ i ∈ vs1, i ∈ own.map (·.2) := by decide) :
    PF X W (.Call (.Name "sorted" p1) [sc2 elt tg iter tg1 iter1 scope pos] [] pos1) (eSsc2 fi gt fi1 gt1 fe (own.map (·.2)) vs1) := by
  refine ⟨fun pins s σ H Q I ⟨g, ρ, w, hK, r, en, q⟩ => ?_⟩
  have hfree : ∀ y ∈ scope.names, y.2 = .free → ∃ c, X.env.cells.lookup y.1 = some c := fun y hy e => by
    rcases ok.free y hy e with k | k
    · exact I.ok.has _ (.inl k)
    · exact I.ok.has _ (.inr k)
  refine Call_ (ld_blt I hgs1 hms boot_sorted ?_)
  refine PyProof.Rows.callWith_builtin1 (PyProof.Rows.args_cons ?_ rfl) rfl rfl
  rw [PpSet.eval_SetComp]
  have want : lI X.K W fi σ H (fun J H1 => ∃ g1 ds w1, Xt g g1 ∧ Rp g1 H1 w1 ∧ EnR g1 σ ρ ∧ WkD J g1 ds ∧ oX W σ Dq g1 Q ((lc2L gt fi1 gt1 fe vs1 (wipeE ρ (own.map (·.2))) ds w1 []).bind fun acc w2 => match strsD acc with
      | some xs => if decide (xs.length + 1 < scanBound) then .ok (.list ((srtS (ddS xs)).map .str)) w2 else .no
      | none => .no)) :=
    lX_bind hK r en q fun J H1 g1 ds w1 x r1 e1 wk z => ⟨g1, ds, w1, x, r1, e1, wk, z⟩
  refine wpAny_comprehension_free (use := none) rfl hs (closure_ok hfree) ok.kind (fun y hy e => by rw [ok.uniq y hy, e]) (thn (hi.run pins s σ H _ I want) fun xv s1 hx => thn hx fun itv s2 h2 => ?_)
  obtain ⟨it, fp, tn, J, H1, e, I2, T, st2, f2, g1, ds, w1, xt, r1, en1, wk, z⟩ := h2
  subst e
  refine PpSet.newSet_ok (newEnv_comp ?_)
  generalize hD : s2.heap.objs.size = D
  have hDn : H1 D = none := I2.hok.fresh (Nat.le_of_eq hD)
  generalize hs3 : ({ s2 with heap := s2.heap.push { cls := .type "set", dict := none, data := .set #[] 0 (.fresh 0 0 (!X.w.params.followText "set-order")) } } : Shared) = s3
  have h3 : s3.heap = s2.heap.push { cls := .type "set", dict := none, data := .set #[] 0 (.fresh 0 0 (!X.w.params.followText "set-order")) } := by rw [← hs3]
  have I3 : Inv X pins σ (upd H1 D (TxO X.w D [])) s3 := by
    rw [← hs3]
    refine I2.laid (t' := s2.toks) (fun b o e => Heap.get?_push_of_some _ e) (Nat.le_of_eq hD) (txO_new (TxS.new ?_))
    rw [← hD]
    exact Heap.get?_push_size _ rfl
  have szf : ∀ b ∈ fp, b < s2.heap.objs.size := fun b hb => by
    obtain ⟨o, e, _⟩ := T.obj _ _ st2 b hb
    exact Heap.lt_size e
  have f3 : ∀ b ∈ fp, FpOk X pins (upd H1 D (TxO X.w D [])) b ∧ b < s3.heap.objs.size := fun b hb => by
    have hlt := szf b hb
    refine ⟨⟨?_, (f2 b hb).2⟩, by rw [h3, Heap.size_push]; exact Nat.lt_succ_of_lt hlt⟩
    rw [upd_ne (by rw [← hD]; exact Nat.ne_of_lt hlt)]
    exact (f2 b hb).1
  have st3 : tn 0 s3.heap := T.keep _ _ _ st2 fun b _ o e => by rw [h3]; exact Heap.get?_push_of_some _ e
  have I4 := block_start I3 ok hN f3
  have pD : g1.P D = none := by
    cases h : g1.P D with
    | none => rfl
    | some o => rw [(r1.pin D o h).1] at hDn; cases hDn
  have nOwn : ∀ {l : List Str} (a : Addr), TxO X.w D l ≠ .own a := fun a z => nomatch z
  have r0 := pin_new r1 hDn (TxO X.w D [])
  have hK1 : g1.K = X.K := xt.k.trans hK
  obtain ⟨xs, wo, eo, hfew⟩ : ∃ (xs : List Str) (wo : Ws), lc2L gt fi1 gt1 fe vs1 (wipeE ρ (own.map (·.2))) ds w1 [] = .ok (xs.map .str) wo ∧ xs.length + 1 < scanBound := by
    cases h : lc2L gt fi1 gt1 fe vs1 (wipeE ρ (own.map (·.2))) ds w1 [] with
    | ok out wo =>
      rw [h] at z
      simp only [Oc.bind] at z
      cases hx : strsD out with
      | none => rw [hx] at z; exact z.elim
      | some xs =>
        rw [hx] at z
        simp only at z
        by_cases hb : decide (xs.length + 1 < scanBound) = true
        · exact ⟨xs, wo, by rw [strsD_map hx], of_decide_eq_true hb⟩
        · rw [if_neg hb] at z; exact z.elim
    | ex c0 f0 w0 => exact (lc2L_nox _ _ _ h).elim
    | no => rw [h] at z; exact z.elim
  have strsOf : ∀ xs : List Str, strsD (xs.map PyData.str) = some xs := fun xs => by
    induction xs with
    | nil => rfl
    | cons a xs ih => show (strsD (xs.map PyData.str)).map (a :: ·) = _; rw [ih]; rfl
  rw [eo] at z
  simp only [Oc.bind, strsOf] at z
  rw [if_pos (decide_eq_true hfew)] at z
  -- the set stands
  have fin : ∀ H6 g6 s6, Xt0 g1 g6 → g6.P = upd g1.P D (TxO X.w D (ddS xs)) → Rp g6 H6 wo → Inv X pins σ H6 s6 → wpAny (model X.prog X.w) X.A (call (.builtin "sorted") [.ref D]) (EP X pins σ Q) X.xe s6 := fun H6 g6 s6 x6 P6 r6 I6 => by
    have hT : TxS X.w s6.heap D (ddS xs) := by
      have := (r6.pin D (TxO X.w D (ddS xs)) (by rw [P6]; exact upd_same)).1
      exact (I6.hok D _ this).1
    refine tx_sorted hT (I6.ok.hd hc) fun s' p out c k gg oo hp hg' hi => ?_
    have hn : H6 p = none := I6.hok.fresh hp
    have hlen : ((srtS (ddS xs)).map V.str).length ≤ sizeLine := by
      have h1 := (srtS_perm (ddS xs)).length_eq
      have h2 := ddS_len xs xs.length (Nat.le_refl _)
      rw [List.take_length] at h2
      rw [List.length_map, h1]
      exact Nat.le_trans h2 (fits_of_scanBound (Nat.lt_of_succ_lt hfew))
    have r7 : Rp { g6 with P := g1.P } H6 wo := Rp.unpin r6 P6 pD
    have x7 : Xt g1 { g6 with P := g1.P } := ⟨x6.trans ⟨rfl, fun _ _ h => h, fun _ _ => rfl, Nat.le_refl _⟩, rfl⟩
    exact ⟨.ref p, _, inv_strs I6 k gg oo hp hg' hlen hi, rfl, z _ _ _ (x7.trans (Xt.put (r7.fnone hn))) (r7.put hn) (newL r7 hn (dqA_strs _))⟩
  have pg := hg s3 (upd H1 D (TxO X.w D [])) s3.heap.objs.size (cellsFrom (s3.heap.objs.size + 1) scope.names (cloFrom X.env.cells scope.names [])) fp
  have pe := he s3 (upd H1 D (TxO X.w D [])) s3.heap.objs.size (cellsFrom (s3.heap.objs.size + 1) scope.names (cloFrom X.env.cells scope.names [])) fp
  have pi1 := hi1 s3 (upd H1 D (TxO X.w D [])) s3.heap.objs.size (cellsFrom (s3.heap.objs.size + 1) scope.names (cloFrom X.env.cells scope.names [])) fp
  have pg1 := hg1 s3 (upd H1 D (TxO X.w D [])) s3.heap.objs.size (cellsFrom (s3.heap.objs.size + 1) scope.names (cloFrom X.env.cells scope.names [])) fp
  show codeAny _ _ (.compStart (sc2 elt tg iter tg1 iter1 scope pos) 0 (.ref it) (.ref D) (compEnvC scope (cellsFrom (s3.heap.objs.size + 1) scope.names (cloFrom X.env.cells scope.names [])) s3.heap.objs.size X.env)) _ { s3 with heap := pushCells (s3.heap.push { cls := .type "dict", data := .dict #[] }) scope.names }
  have nfp : ∀ b ∈ fp, (upd H1 D (TxO X.w D [])) b = none := fun b hb => (f3 b hb).1.1
  generalize hce : compEnvC scope (cellsFrom (s3.heap.objs.size + 1) scope.names (cloFrom X.env.cells scope.names [])) s3.heap.objs.size X.env = ce at I4 pg pe pi1 pg1 ⊢
  have cL : ce.locals = s3.heap.objs.size := by subst hce; rfl
  generalize hH3 : upd H1 D (TxO X.w D []) = H3 at I3 I4 pg pe pi1 pg1 nfp f3 r0
  generalize hs4 : ({ s3 with heap := pushCells (s3.heap.push { cls := .type "dict", data := .dict #[] }) scope.names } : Shared) = s4 at I4 ⊢
  have st4 : tn 0 s4.heap := T.keep _ _ _ st3 fun b _ o e => by rw [← hs4]; exact pushCells_keeps _ _ _ _ (Heap.get?_push_of_some _ e)
  obtain ⟨B, hB⟩ : ∃ B : Cx, B = X.blk s3 H3 scope ce fp := ⟨_, rfl⟩
  have BK : B.K = X.K := by rw [hB]
  have stat : ∀ {σ' : L2.St} {H' : Hp} {s' : Shared}, Inv (X.blk s3 H3 scope ce fp) [] σ' H' s' → (∀ b ∈ fp, H' b = none) → ∀ b ∈ fp, FpOk (X.blk s3 H3 scope ce fp) [] H' b := fun {σ' H' s'} I' hn b hb =>
    ⟨hn b hb, (I'.ok.exf b hb).1, I'.ok.exfs b hb, .inl hb, fun x c e => (I'.ok.exf b hb).2 x c e, fun p hp => absurd (show p ∈ ([] : List (Addr × Obj)) ++ [] from hp) (by simp)⟩
  have loop : codeAny (model X.prog X.w) X.A (.compLoop (sc2 elt tg iter tg1 iter1 scope pos) 0 (.ref it) (.ref D) ce) (compPost (model X.prog X.w) X.A X.xe none (fun v s' => ∃ H6 g6, v = .ref D ∧ Xt0 g1 g6 ∧ g6.P = upd g1.P D (TxO X.w D (ddS xs)) ∧ Rp g6 H6 wo ∧ Inv X pins σ H6 s') (.ref D) s3.heap.objs.size) s4 := by
    refine sc2_loop0 (hs1 ce) (fun n s' => ∃ (i : Nat) (H' : Hp) (g' : Gd) (w' : Ws) (ys : List Str), n = ds.length - i ∧ i ≤ ds.length ∧ Inv (X.blk s3 H3 scope ce fp) [] (wipe σ (own.map (·.2))) H' s' ∧ tn i s'.heap ∧ (∀ b ∈ fp, H' b = none) ∧ Xt0 g1 g' ∧ g'.P = upd g1.P D (TxO X.w D (ddS ys)) ∧ Rp g' H' w' ∧ lc2L gt fi1 gt1 fe vs1 (wipeE ρ (own.map (·.2))) (ds.drop i) w' (ys.map .str) = .ok (xs.map .str) wo) ?_ ds.length
      ⟨0, H3, _, w1, [], rfl, Nat.zero_le _, I4, st4, nfp, g1.pn_xt _, rfl, r0, by rw [List.drop_zero]; exact eo⟩
    rintro n s5 ⟨i, H5, g5, w5, ys, rfl, hi5, I5, st5, n5, x5, P5, r5, z5⟩
    by_cases hlt : i < ds.length
    · have ti := T.item (X.blk s3 H3 scope ce fp) rfl rfl rfl hc i [] s5 _ H5 nay I5 (stat I5 n5) st5 (wk.go g5 H5 w5 i x5 r5 hlt)
      refine thnF ti fun rr s6 ⟨u, hr, h6⟩ => ?_
      subst hr
      refine thnF h6 fun _ s7 ⟨x, H7, I7, r7, y7, st7, n7⟩ => ?_
      obtain ⟨g7, d, hd, x7, rp7, dv⟩ := wk.yld g5 H5 w5 i x H7 x5 r5 hlt y7
      have ed : ds.drop i = d :: ds.drop (i + 1) := by
        rw [List.drop_eq_getElem_cons hlt]
        rw [List.getElem?_eq_getElem hlt] at hd
        rw [Option.some.inj hd]
      rw [ed, lc2L] at z5
      have e5 : EnR g7 (wipe σ (own.map (·.2))) (wipeE ρ (own.map (·.2))) := (en1.mono (x5.trans x7.toXt0)).wipe _
      have I7' := I7.pinned (stat I7 n7) (T.obj _ _ st7)
      have k7 : g7.K = X.K := x7.k.trans (x5.k.trans hK1)
      cases hgt : gt d (wipeE ρ (own.map (·.2))) w5 with
      | ex c0 f0 w0 => rw [hgt] at z5; cases z5
      | no => rw [hgt] at z5; cases z5
      | ok ρ8 w8 =>
        rw [hgt] at z5
        simp only at z5
        cases hfi : fi1 ρ8 w8 with
        | ex c0 f0 w0 => rw [hfi] at z5; cases z5
        | no => rw [hfi] at z5; cases z5
        | ok ds1 w9 =>
          rw [hfi] at z5
          simp only at z5
          cases hll : lcL gt1 tYs fe (wipeE ρ8 vs1) ds1 w9 (ys.map .str) with
          | ex c0 f0 w0 => rw [hll] at z5; cases z5
          | no => rw [hll] at z5; cases z5
          | ok acc1 w10 =>
            rw [hll] at z5
            simp only at z5
            obtain ⟨zs, rfl, hzs⟩ := pre_strs (lc2L_pre _ _ _ z5)
            have as := pg.run _ s7 _ H7 x u (fun σ8 H8 => ∃ g8, Xt g7 g8 ∧ Rp g8 H8 w8 ∧ EnR g8 σ8 ρ8 ∧ Sm is (wipe σ (own.map (·.2))) σ8) I7' r7 ⟨g7, _, w5, d, k7, rp7, e5, dv, by
              rw [hgt]
              exact fun σ' H' g' x' r' e' sm => ⟨g', x', r', e', sm⟩⟩
            refine thnF as fun _ s8 ⟨σ8, H8, I8, g8, x8, r8, e8, sm8⟩ => ?_
            have hw8 := wipe_of_sm sm8 his
            have k8 : g8.K = X.K := x8.k.trans k7
            refine thnF (pi1.run _ s8 σ8 H8 (fun J1 H9 => ∃ g9, Xt g8 g9 ∧ Rp g9 H9 w9 ∧ WkD J1 g9 ds1) I8 ⟨g8, ρ8, w8, k8, r8, e8, by
              rw [hfi]
              exact fun J1 H9 g9 x9 r9 k9 => ⟨g9, x9, r9, k9⟩⟩) fun xv s9 hx => thnF hx fun itv s11 h11 => ?_
            obtain ⟨it1, fp1, tn1, J1, H11, ei1, I11, T1, st11, f11, g9, x9, r9, wk1⟩ := h11
            subst ei1
            have up9 : Xt0 g5 g9 := x7.toXt0.trans (x8.toXt0.trans x9.toXt0)
            have P9 : g9.P = upd g1.P D (TxO X.w D (ddS ys)) := x9.p.trans (x8.p.trans (x7.p.trans P5))
            have stat1 : ∀ {H' : Hp}, (∀ b ∈ fp1, H' b = none) → ∀ b ∈ fp1, FpOk (X.blk s3 H3 scope ce fp) ([] ++ pinsAt fp s7.heap) H' b := fun hn b hb => ⟨hn b hb, (f11 b hb).2⟩
            have hl8 : (wipe σ (own.map (·.2))).length = (wipe σ8 vs1).length := by rw [← hw8, wipe_length, wipe_length]
            have hk9 : ∀ (j : Nat) v, (wipe σ (own.map (·.2)))[j]? = some (some v) → (wipe σ8 vs1)[j]? = some (some v) := fun j v e => by
              rw [← hw8] at e
              obtain ⟨q1, q2⟩ := wipe_some e
              rw [wipe_out fun z => q2 (hv j z)]
              exact q1
            have loop1 : codeAny (model X.prog X.w) X.A (.compLoop (sc2 elt tg iter tg1 iter1 scope pos) 1 (.ref it1) (.ref D) ce)
                (fun r s' => match r with
                  | .ok _ => ∃ m, m < ds.length - i ∧ ∃ (i : Nat) (H' : Hp) (g' : Gd) (w' : Ws) (ys : List Str), m = ds.length - i ∧ i ≤ ds.length ∧ Inv (X.blk s3 H3 scope ce fp) [] (wipe σ (own.map (·.2))) H' s' ∧ tn i s'.heap ∧ (∀ b ∈ fp, H' b = none) ∧ Xt0 g1 g' ∧ g'.P = upd g1.P D (TxO X.w D (ddS ys)) ∧ Rp g' H' w' ∧ lc2L gt fi1 gt1 fe vs1 (wipeE ρ (own.map (·.2))) (ds.drop i) w' (ys.map .str) = .ok (xs.map .str) wo
                  | .error _ => False) s11 := by
              refine sc2_loop1 (fun k s' => ∃ (j : Nat) (H' : Hp) (g' : Gd) (w' : Ws) (us : List Str), k = ds1.length - j ∧ j ≤ ds1.length ∧ Inv (X.blk s3 H3 scope ce fp) ([] ++ pinsAt fp s7.heap) (wipe σ8 vs1) H' s' ∧ tn1 j s'.heap ∧ (∀ b ∈ fp1, H' b = none) ∧ Xt0 g9 g' ∧ g'.P = upd g1.P D (TxO X.w D (ddS us)) ∧ Rp g' H' w' ∧ lcL gt1 tYs fe (wipeE ρ8 vs1) (ds1.drop j) w' (us.map .str) = .ok (zs.map .str) w10) ?_ ds1.length
                ⟨0, H11, g9, w9, ys, rfl, Nat.zero_le _, I11.weak (wipe_length _ _) (fun j v e => (wipe_some e).1), st11, fun b hb => (f11 b hb).1, (Xt.refl g9).toXt0, P9, r9, by rw [List.drop_zero]; exact hll⟩
              rintro k s12 ⟨j, H12, g12, w12, us, rfl, hj12, I12, st12, n12, x12, P12, r12, z12⟩
              by_cases hlt1 : j < ds1.length
              · refine thnF (T1.item (X.blk s3 H3 scope ce fp) rfl rfl rfl hc j _ s12 (wipe σ8 vs1) H12 nay I12 (stat1 n12) st12 (wk1.go g12 H12 w12 j x12 r12 hlt1)) fun rr s13 ⟨u1, hr, h13⟩ => ?_
                subst hr
                refine thnF h13 fun _ s14 ⟨x1, H14, I14, r14, y14, st14, n14⟩ => ?_
                obtain ⟨g14, d1, hd1, x14, rp14, dv1⟩ := wk1.yld g12 H12 w12 j x1 H14 x12 r12 hlt1 y14
                have ed1 : ds1.drop j = d1 :: ds1.drop (j + 1) := by
                  rw [List.drop_eq_getElem_cons hlt1]
                  rw [List.getElem?_eq_getElem hlt1] at hd1
                  rw [Option.some.inj hd1]
                rw [ed1, lcL] at z12
                have e14 : EnR g14 (wipe σ8 vs1) (wipeE ρ8 vs1) := (e8.mono (x9.toXt0.trans (x12.trans x14.toXt0))).wipe _
                have I14' := I14.pinned (stat1 n14) (T1.obj _ _ st14)
                have k14 : g14.K = X.K := x14.k.trans (x12.k.trans (x9.k.trans k8))
                cases hgt1 : gt1 d1 (wipeE ρ8 vs1) w12 with
                | ex c0 f0 w0 => rw [hgt1] at z12; cases z12
                | no => rw [hgt1] at z12; cases z12
                | ok ρ15 w15 =>
                  rw [hgt1] at z12
                  simp only [tYs] at z12
                  cases hfe : fe ρ15 w15 with
                  | ex c0 f0 w0 => rw [hfe] at z12; cases z12
                  | no => rw [hfe] at z12; cases z12
                  | ok y w16 =>
                    rw [hfe] at z12
                    simp only at z12
                    by_cases hz : (us.map PyData.str).length < sizeLine
                    · rw [if_pos hz] at z12
                      obtain ⟨kk, rfl, hus⟩ := pre_str (lcL_pre _ _ _ z12)
                      have as1 := pg1.run _ s14 (wipe σ8 vs1) H14 x1 u1 (fun σ15 H15 => ∃ g15, Xt g14 g15 ∧ Rp g15 H15 w15 ∧ EnR g15 σ15 ρ15 ∧ Sm is1 (wipe σ8 vs1) σ15) I14' r14 ⟨g14, _, w12, d1, k14, rp14, e14, dv1, by
                        rw [hgt1]
                        exact fun σ' H' g' x' r' e' sm => ⟨g', x', r', e', sm⟩⟩
                      refine thnF as1 fun _ s15 ⟨σ15, H15, I15, g15, x15, r15, e15, sm15⟩ => ?_
                      have hw15 := wipe_of_sm sm15 his1
                      refine thnF (pe.run _ s15 σ15 H15 (fun v H16 => ∃ g16, Xt g15 g16 ∧ Rp g16 H16 w16 ∧ Dq g16 v (.str kk)) I15 ⟨g15, ρ15, w15, x15.k.trans k14, r15, e15, by
                        rw [hfe]
                        exact fun v H' g' x' r' dq => ⟨g', x', r', dq⟩⟩) fun uv s16 ⟨yv, H16, I16, rv16, g16, x16, r16, dq16⟩ => ?_
                      cases dq16
                      obtain ⟨t16, rfl⟩ := rv16
                      have P16 : g16.P = upd g1.P D (TxO X.w D (ddS us)) := x16.p.trans (x15.p.trans (x14.p.trans P12))
                      have pD16 := r16.pin D (TxO X.w D (ddS us)) (by rw [P16]; exact upd_same)
                      have hl := ddS_len us us.length (Nat.le_refl _)
                      rw [List.take_length] at hl
                      refine txO_add (X := X.blk s3 H3 scope ce fp) (E := nay) I16 pD16.1 (by omega) fun s17 I17 => ?_
                      have I17 : Inv (X.blk s3 H3 scope ce fp) (([] ++ pinsAt fp s7.heap) ++ pinsAt fp1 s14.heap) σ15 (upd H16 D (TxO X.w D (ddS (us ++ [kk])))) s17 := by rw [ddS_snoc]; exact I17
                      have pin' : ∀ b ∈ fp1, ∀ o, s14.heap.get? b = some o → s17.heap.get? b = some o ∧ upd H16 D (TxO X.w D (ddS (us ++ [kk]))) b = none := fun b hb o e =>
                        let z := I17.pin (b, o) (List.mem_append_right _ (List.mem_append_right _ (mem_pinsAt hb e)))
                        ⟨z.1, z.2.1⟩
                      have x17 : Xt0 g16 (g16.pn (upd g1.P D (TxO X.w D (ddS (us ++ [kk]))))) := g16.pn_xt _
                      refine ⟨ds1.length - (j + 1), by omega, j + 1, _, _, w16, us ++ [kk], rfl, hlt1, I17.unpinned.weak (by rw [← hw15, wipe_length]) (fun j v e => by rw [← hw15] at e; exact (wipe_some e).1), T1.keep _ _ _ st14 fun b hb o e => (pin' b hb o e).1, fun b hb => ?_, (x12.trans (x14.toXt0.trans (x15.toXt0.trans x16.toXt0))).trans x17, rfl, pin_set r16 P16 nOwn, by rw [List.map_append]; exact z12⟩
                      obtain ⟨o, e, _⟩ := T1.obj _ _ st14 b hb
                      exact (pin' b hb o e).2
                    · rw [if_neg hz] at z12; cases z12
              · have ej : j = ds1.length := by omega
                subst ej
                refine thnF (T1.done (X.blk s3 H3 scope ce fp) rfl rfl rfl hc ds1.length _ s12 (wipe σ8 vs1) H12 nay I12 (stat1 n12) st12 (wk1.stop g12 H12 w12 x12 r12)) fun rr s13 ⟨hr, I13⟩ => ?_
                subst hr
                rw [List.drop_length, lcL] at z12
                obtain ⟨ey, ew⟩ := Oc.ok.inj z12
                have ey : us = zs := by
                  have := congrArg strsD ey
                  rw [strsOf, strsOf] at this
                  exact Option.some.inj this
                subst ey ew
                have pin' : ∀ b ∈ fp, ∀ o, s7.heap.get? b = some o → s13.heap.get? b = some o ∧ H12 b = none := fun b hb o e =>
                  let z := I13.pin (b, o) (List.mem_append_right _ (List.mem_append_right _ (mem_pinsAt hb e)))
                  ⟨z.1, z.2.1⟩
                refine ⟨ds.length - (i + 1), by omega, i + 1, H12, g12, w12, us, rfl, hlt, (I13.unpinned (pins := [])).weak hl8 hk9, T.keep _ _ _ st7 fun b hb o e => (pin' b hb o e).1, fun b hb => ?_, (x5.trans up9).trans x12, P12, r12, z5⟩
                obtain ⟨o, e, _⟩ := T.obj _ _ st7 b hb
                exact (pin' b hb o e).2
            exact sc2_start loop1 (T1.self X.A 0 _ _ _ st11 loop1)
    · have ei : i = ds.length := by omega
      subst ei
      refine thnF (T.done (X.blk s3 H3 scope ce fp) rfl rfl rfl hc ds.length [] s5 _ H5 nay I5 (stat I5 n5) st5 (wk.stop g5 H5 w5 x5 r5)) fun rr s6 ⟨hr, I6⟩ => ?_
      subst hr
      rw [List.drop_length, lc2L] at z5
      obtain ⟨ey, ew⟩ := Oc.ok.inj z5
      have ey : ys = xs := by
        have := congrArg strsD ey
        rw [strsOf, strsOf] at this
        exact Option.some.inj this
      subst ey ew
      have I7 : Inv X pins σ H5 s6 := I3.call' (ch := fp) I6.os I6.base I6.hok I6.bare fun b hb => ⟨(f3 b hb).1.2.2.2.1, (f3 b hb).1.2.1, (f3 b hb).1.2.2.2.2.1, (f3 b hb).1.2.2.2.2.2⟩
      have nC : H5 s3.heap.objs.size = none := by
        have z : H5 ce.locals = none := I6.free
        rw [cL] at z
        exact z
      obtain ⟨m, hn, _⟩ := I6.loc
      have hn : s6.heap.Ns ce.locals m := hn
      rw [cL] at hn
      obtain ⟨f0, f1, f2', f3', f4, f5⟩ := I3.fpOk (H' := H5) (Nat.le_refl _) nC
      exact ⟨m, hn, fun h'' sb => ⟨H5, g5, rfl, x5, P5, r5, I7.turned (t' := s6.toks) (fun b o hb e => (sb.2 b hb).trans e) f0 f1 f3' f4 f5⟩⟩
  refine codeAny_mono (PpSet.codeAny_compStart_set loop (T.self X.A 0 _ _ _ st4 loop)) fun rr s' hq => ?_
  cases rr with
  | error e => exact hq
  | ok fl =>
    obtain ⟨m, hn, hq⟩ := hq
    refine ⟨m, hn, fun h' sb => ?_⟩
    obtain ⟨H6, g6, _, x6, P6, r6, I6⟩ := hq h' sb
    exact PyProof.Rows.args_nil (fin H6 g6 _ x6 P6 r6 I6)
end
end Tg

set_option Elab.async false
set_option linter.all false
set_option maxRecDepth 100000
set_option maxHeartbeats 4000000
namespace Td
open PySem L2 PySem.Spec PyProof.Rows
/-! ### def f(*xs) -/
structure DefV (K : PySem.W.Frag) (mg : Str → Option Value) (x : Str) (st : Stmt) (p : Str) (m : Nat) where
  f : Addr
  fd : FuncData
  fn : Fun K x x st f fd
  at_ : mg x = some (.ref f)
  bd : ∀ us : List Value, us.length ≤ m → bindArgs fd ⟨us, []⟩ = (newTuple us >>= fun t => pure [(p, t)])
def spV (K : PySem.W.Frag) (m : Nat) (gf : FF) (vs : List V) (H : Hp) (Q : VK) : Prop := ∃ g w ds, g.K = K ∧ Rp g H w ∧ DqA g vs ds ∧ ds.length ≤ m ∧ oF g Q (fun _ _ _ => False) (gf [.tuple ds] w)
structure Gv (P : Program) (w : World) (K : PySem.W.Frag) (mg : Str → Option Value) (base : Heap) (k : Nat) {x : Str} {st : Stmt} {p : Str} {m : Nat} (D : DefV K mg x st p m) (gf : FF) : Prop where
  run : ∀ (A : Around) (outer : List Env) (s : Shared) (H : Hp) (us : List Value) (vs : List V) (Q : VK), Room k A → A.guards = some [] → Env0 P w K mg base A outer s H → Vals vs us → spV K m gf vs H Q →
    codeAny (model P w) A (.call (.ref D.f) ⟨us, []⟩) (CR (CX P w) outer P w H s Q (fun _ _ _ => False)) s
theorem oF.mono {g g' : Gd} {Q : VK} {E : XK} (x : Xt g g') : ∀ {o : Oc PyData}, oF g Q E o → oF g' Q E o
  | .ok _ _, h => fun v H g2 y r q => h v H g2 (x.trans y) r q
  | .ex _ _ _, h => fun d H g2 y r q => h d H g2 (x.trans y) r q
  | .no, h => h
theorem cx_no {P : Program} {w : World} {outer : List Env} {H : Hp} {s : Shared} {u : Value} {s' : Shared} (h : CX P w outer H s (fun _ _ _ => False) u s') : False := by
  obtain ⟨_, _, _, _, _, _, _, _, _, _, _, _, z⟩ := h
  exact z
theorem gv_of {P : Program} {w : World} {K : PySem.W.Frag} {mg : Str → Option Value} {base : Heap} {x : Str} {st : Stmt} {N : List Str} {p : Str} {m k : Nat} {bf : FS} (D : DefV K mg x st p m) (hm : m ≤ sizeLine) (S : FnScope N [p] (defScope st))
    (hbody : ∀ (cdv : Value) (A : Around) (outer : List Env) (s : Shared) (H : Hp) (E : XK), Room k (A.deeper (envOfC x (defScope st) s.heap.objs.size D.f cdv)) → A.guards = some [] →
      PSsf (cxOf (CX P w) P w K mg base N x (defScope st) D.f cdv A outer s H E) (fun c d _ H => E c d H) (defBody st) bf) : Gv P w K mg base (k + 1) D (defF N.length 1 bf) := by
  obtain ⟨oc, od, kV, doc, pm, an, cdv, ct, osl, efd, lk, hcd⟩ := D.fn.ex
  refine ⟨fun A outer s H us vs Q hr hg e0 hv hsp => ?_⟩
  obtain ⟨g, ws, ds, hK, r, da, hl, q⟩ := hsp
  have many : us.length ≤ m := by rw [← hv.length, da.length]; exact hl
  have inK : K.In s.heap := e0.mod.kin.keeps fun b ob z => (e0.bs b ob z).1
  have hn : H s.heap.objs.size = none := e0.hok.fresh (Nat.le_refl _)
  generalize hT : ({ cls := .type "tuple", data := .seq us.toArray } : Obj) = T
  generalize hs2 : ({ s with heap := s.heap.push T } : Shared) = s2
  have hp2 : s2.heap = s.heap.push T := by rw [← hs2]
  have kp2 : ∀ b o, s.heap.get? b = some o → s2.heap.get? b = some o := fun b o e => by rw [hp2]; exact Heap.get?_push_of_some _ e
  have at2 : s2.heap.get? s.heap.objs.size = some T := by rw [hp2, ← hT]; exact Heap.get?_push_size _ rfl
  have hok2 : HOk P w (upd H s.heap.objs.size (.tup vs)) s2.heap := e0.hok.laid kp2 (Nat.le_refl _) ⟨by rw [hv.length]; exact Nat.le_trans many hm, us, hv, ⟨T, at2, by rw [← hT], _, by rw [← hT]⟩⟩
  have un : Un (frs outer) [] H (upd H s.heap.objs.size (.tup vs)) s.heap s2.heap := Un.laid kp2 (Nat.le_refl _) hn
  have e2 : Env0 P w K mg base A outer s2 (upd H s.heap.objs.size (.tup vs)) := by
    refine ⟨e0.frames, e0.mod, fun b o e => ⟨kp2 b o (e0.bs b o e).1, ?_⟩, ?_, Heap.FunFrames.of_keeps (fun b o e _ => ⟨o, kp2 b o e, rfl⟩) e0.funs, fun b hb => ?_, hok2, by rw [← hs2]; exact e0.bare⟩
    · exact (upd_ne (Nat.ne_of_lt (Heap.lt_size (e0.bs b o e).1))).trans (e0.bs b o e).2
    · rw [hp2, Heap.size_push]; exact Nat.le_succ_of_le e0.bsz
    · obtain ⟨_, o, ho, _⟩ := e0.funs.mem hb
      exact (upd_ne (Nat.ne_of_lt (Heap.lt_size ho))).trans (e0.frf b hb)
  have os2 : s2.os = s.os := by rw [← hs2]
  have noLim : s2.heap.NoLimit := e0.mod.nolimit.keeps fun b ob z => (e2.bs b ob z).1
  have kinds : ∀ y ∈ [p].zip [Value.ref s.heap.objs.size], (defScope st).names.lookup y.1 = some .local ∨ ((defScope st).names.lookup y.1 = some .cell ∧ ((cellsFrom (s2.heap.objs.size + 1) (defScope st).names []).lookup y.1).isSome = true) := by
    rintro ⟨nm, vl⟩ hy
    rcases S.par nm (List.of_mem_zip hy).1 with z | z
    · exact Or.inl z
    · exact Or.inr ⟨z, PySem.W.cellsFrom_some _ _ _ (Or.inl z)⟩
  have bd := D.bd us many
  rw [efd] at bd lk
  refine codeAny_call_function hr.depth (inK _ _ lk) rfl S.co S.gen rfl (PySem.W.codeRec_of inK hcd) ?_
  rw [bd]
  refine wpAny_bind (wpAny_newTuple (wpAny_pure ?_) (Nat.le_trans many hm))
  rw [hT, hs2]
  refine wpAny_newFunctionEnv_cells S.kind kinds ?_
  rintro env rfl s1 nw
  refine ⟨noLim.keeps nw.toInCall.keep, codeAny_func ?_⟩
  have body := hbody cdv A outer s2 (upd H s.heap.objs.size (.tup vs)) (fun _ _ _ => False) (hr.deeper _) hg
  have r2 : Vals [V.ref s.heap.objs.size] [Value.ref s.heap.objs.size] := .cons rfl .nil
  have J0 : Inv (cxOf (CX P w) P w K mg base N x (defScope st) D.f cdv A outer s2 (upd H s.heap.objs.size (.tup vs)) (fun _ _ _ => False)) [] (L2.start N [.ref s.heap.objs.size]) (upd H s.heap.objs.size (.tup vs)) s1 := inv_start S hr.hd e2 rfl r2 nw
  have want : lS K (fun c d _ H => False) bf { nx := fun _ H' => Q .non H', rt := Q } (L2.start N [.ref s.heap.objs.size]) (upd H s.heap.objs.size (.tup vs)) := by
    refine ⟨g.put s.heap.objs.size (.tup vs), startE N.length [.tuple ds], ws, hK, r.put hn, EnR.begin (.cons (newT r hn da) .nil), leave_ok (E := fun _ _ _ => False) (r.put hn) ?_⟩
    rw [defF, if_pos (by rfl)] at q
    exact oF.mono (Xt.put (r.fnone hn)) q
  refine wpAny_mono (body.run [] s1 _ _ _ J0 want) ?_ fun e s' z => wpAny_mono z (fun _ _ y => (cx_no y).elim) fun _ _ y => (cx_no y).elim
  intro fl s' hs
  cases fl with
  | brk => exact hs.elim fun _ z => z.elim fun _ z => z.2.elim
  | cont => exact hs.elim fun _ z => z.elim fun _ z => z.2.elim
  | next =>
    obtain ⟨_, H', J, z⟩ := hs
    exact ⟨.non, H', J.os.trans os2, J.bare, un.trans J.base, J.hok, rfl, z⟩
  | ret u =>
    obtain ⟨v, _, H', J, rv, z⟩ := hs
    exact ⟨v, H', J.os.trans os2, J.bare, un.trans J.base, J.hok, rv, z⟩
/-- f(a, ..): the arguments come as one tuple -/
def eCallV (m : Nat) (gf : FF) (fa : FA) : FE := fun ρ w => (fa ρ w).bind fun as w1 => Oc.on (decide (as.length ≤ m)) (match gf [.tuple as] w1 with
  | .ok d w2 => .ok d w2
  | _ => .no)
theorem pf_callV {X : Cx} {W : WX} {k : Nat} {gf : FF} {x : Str} {st : Stmt} {q : Str} {m : Nat} {p pos : Pos} {D : DefV X.K X.mg x st q m} {e : Expr} {es : List Expr} {fa : FA} (G : Gv X.prog X.w X.K X.mg X.base k D gf) (hr : Room k X.A) (hgu : X.A.guards = some []) (hgl : Gl X x) (ha : PAf X W (e :: es) fa)
    (hdb : (x == ("__debug__" : Str)) = false := by decide) (he : starEach (e :: es) X.env = (false, eval e X.env) :: starEach es X.env := by rfl) (hpl : (backTo pos (starEach es X.env)).any (·.1) = false := by rfl) :
    PF X W (.Call (.Name x p) (e :: es) [] pos) (eCallV m gf fa) := by
  refine ⟨fun pins s σ H Q I h => ?_⟩
  have want : lA X.K W fa σ H fun vs H1 => spV X.K m gf vs H1 Q := by
    obtain ⟨g, ρ, w, hK, r, en, z⟩ := h
    refine lX_bind hK r en z fun vs H1 g1 as w1 x r1 e1 dv z => ?_
    obtain ⟨hb, z⟩ := z.on
    refine ⟨g1, w1, as, x.k.trans hK, r1, dv, of_decide_eq_true hb, ?_⟩
    cases hz : gf [.tuple as] w1 with
    | ok d w2 => rw [hz] at z; exact z
    | ex c fs w2 => rw [hz] at z; exact z.elim
    | no => rw [hz] at z; exact z
  refine wpAny_Call_Name_kw (ld_glob I hgl D.at_ ?_ hdb)
  refine PySem.W.callWith_K (h₀ := X.base) I.ok.mod.kin D.fn.kp ?_ he hpl
  exact thn (ha.run pos pins s σ H _ I want) fun us s1 ⟨vs, H1, I1, rv, z⟩ => ⟨I1.kIn, wpAny_call (codeAny_mono (G.run X.A X.stack s1 H1 us vs Q hr hgu I1.env0 rv z) fun res s' hq => match res, hq with
    | .error e, hq => (cx_no hq).elim
    | .ok (.ret u), hq => I1.after hq)⟩
/-- list(x), into the store -/
def eLsS (fa : FA) : FE := fun ρ w => (fa ρ w).bind fun as w1 => match listD w1 as with
  | some (.list ds) => .ok (rf w1.length) (w1 ++ [.lst ds])
  | _ => .no
theorem pf_listS {X : Cx} {W : WX} {x : Str} {e : Expr} {es : List Expr} {fa : FA} {p pos : Pos} (hg : Gl X x) (hm : X.mg x = none) (hv : bootBuiltins x = some (.type "list")) (ha : PAf X W (e :: es) fa)
    (hn : x ≠ "__name__" := by decide) (hdb : (x == ("__debug__" : Str)) = false := by decide) (hs : starEach (e :: es) X.env = (false, eval e X.env) :: starEach es X.env := by rfl) (hpl : (backTo pos (starEach es X.env)).any (·.1) = false := by rfl) :
    PF X W (.Call (.Name x p) (e :: es) [] pos) (eLsS fa) := by
  refine pe_imp (pe_callTy call_list_of hg hm hv ha hn hdb hs hpl) fun σ H Q ⟨g, ρ, w, hK, r, en, q⟩ => ?_
  refine lX_bind hK r en q fun vs H1 g1 as w1 y r1 e1 dv z => ?_
  have hK1 := y.k.trans hK
  split at z
  · rename_i ds hds
    unfold listD at hds
    split at hds
    · cases dv with
      | cons d0 dn =>
        cases dn
        cases d0 with
        | tup s1 d1 =>
          cases hds
          refine ⟨_, _, rfl, .inr (hK1 ▸ r1.sqT s1), fun l hl => ?_⟩
          obtain ⟨h1, h2⟩ := newS r1 hl d1
          exact z _ _ _ Gd.al_xt h1 h2
    · cases dv with
      | cons d0 dn =>
        cases dn
        obtain ⟨l, hl, e⟩ := Option.map_eq_some_iff.mp hds
        cases e
        obtain ⟨a, xs, rfl, sq, da⟩ := lstOf_ok r1 d0 hl
        refine ⟨_, _, rfl, .inl (hK1 ▸ sq), fun l hl => ?_⟩
        obtain ⟨h1, h2⟩ := newS r1 hl da
        exact z _ _ _ Gd.al_xt h1 h2
    · cases hds
  · exact z.elim
end Td

set_option Elab.async false
set_option linter.all false
set_option maxRecDepth 100000
set_option maxHeartbeats 4000000
namespace Td
open PySem L2
/-! ### a walk by wishes: what wp.sh asks -/
section
variable {Q : PyData → Ws → Prop} {N : Ev → Ws → Prop} {R : PyData → Ws → Prop} {ρ : Ev} {w : Ws}
theorem wS_seq {f k : FS} : wS N R (sSeq f k ρ w) = wS (fun ρ1 w1 => wS N R (k ρ1 w1)) R (f ρ w) := by
  refine propext ⟨fun h => ?_, wS_Seq⟩
  unfold sSeq at h
  cases e : f ρ w with
  | nx ρ1 w1 => rw [e] at h; exact .nx h
  | rt d w1 => rw [e] at h; cases h with | rt h => exact .rt h
  | _ => rw [e] at h; cases h
theorem wO_onE {α : Type} {Q : α → Ws → Prop} {b : Bool} {x : Oc α} : wO Q (Oc.on b x) = (b = true ∧ wO Q x) := by
  cases b with
  | true => simp only [Oc.on, cond_true, true_and]
  | false => simp only [Oc.on, cond_false, wO_no, Bool.false_eq_true, false_and]
theorem wO_ofif {α : Type} {Q : α → Ws → Prop} {b : Bool} {x : α} : wO Q (Oc.of (if b = true then some x else none) w) = (b = true ∧ Q x w) := by
  cases b with
  | true => simp only [if_true, Oc.of, wO_ok, true_and]
  | false => simp only [Bool.false_eq_true, if_false, Oc.of, wO_no, false_and]
theorem wO_oksome {α : Type} {Q : α → Ws → Prop} {o : Option α} {x : α} (h : o = some x) : wO Q (Oc.of o w) = Q x w := by rw [h]; exact wO_ok
theorem wS_nxE {P : Ev → Ws → Prop} {o : Os} (h : wS P (fun _ _ => False) o) : ∃ ρ w, o = .nx ρ w ∧ P ρ w := by
  cases h with
  | nx h => exact ⟨_, _, rfl, h⟩
  | rt h => exact h.elim
theorem wS_rtE {P : PyData → Ws → Prop} {o : Os} (h : wS (fun _ _ => False) P o) : ∃ d w, o = .rt d w ∧ P d w := by
  cases h with
  | rt h => exact ⟨_, _, rfl, h⟩
  | nx h => exact h.elim
/-- a walk that is known -/
theorem wO_eq {α : Type} {Q : α → Ws → Prop} {x : Oc α} {a : α} {w : Ws} (h : x = .ok a w) : wO Q x = Q a w := by rw [h]; exact wO_ok
theorem wS_eqn {o : Os} {ρ : Ev} {w : Ws} (h : o = .nx ρ w) : wS N R o = N ρ w := by rw [h]; exact wS_nx
/-- while, by what holds before each turn and a measure -/
theorem wS_whL {t : FT} {body : FS} (J : Nat → Ev → Ws → Prop) : ∀ (n m : Nat) (ρ : Ev) (w : Ws), m < n → J m ρ w →
    (∀ m ρ w, J m ρ w → wO (fun b w1 => cond b (wS (fun ρ2 w2 => ∃ m', m' < m ∧ J m' ρ2 w2) R (body ρ w1)) (N ρ w1)) (t ρ w)) → wS N R (whL t body n ρ w)
  | 0, m, _, _, h, _, _ => by omega
  | n + 1, m, ρ, w, h, hJ, hs => by
    have h0 := hs m ρ w hJ
    show wS N R ((t ρ w).thenS ρ fun b w1 => cond b (match body ρ w1 with
      | .nx ρ2 w2 => whL t body n ρ2 w2
      | .ct ρ2 w2 => whL t body n ρ2 w2
      | .bk ρ2 w2 => .nx ρ2 w2
      | o => o) (.nx ρ w1))
    rw [wS_then]
    refine wO_mono h0 fun b w1 q => ?_
    cases b with
    | false => exact .nx q
    | true =>
      simp only [cond_true] at q ⊢
      cases e : body ρ w1 with
      | nx ρ2 w2 =>
        rw [e, wS_nx] at q
        obtain ⟨m', hm, hJ'⟩ := q
        exact wS_whL J n m' ρ2 w2 (by omega) hJ' hs
      | rt d w2 => rw [e, wS_rt] at q; exact .rt q
      | _ => rw [e] at q; cases q
theorem wS_sWh {t : FT} {body : FS} (J : Nat → Ev → Ws → Prop) (m : Nat) (hm : m < 1000000) (h : J m ρ w)
    (hs : ∀ m ρ w, J m ρ w → wO (fun b w1 => cond b (wS (fun ρ2 w2 => ∃ m', m' < m ∧ J m' ρ2 w2) R (body ρ w1)) (N ρ w1)) (t ρ w)) : wS N R (sWh t body ρ w) :=
  wS_whL J 1000000 m ρ w hm h hs
theorem atL {w : Ws} {xs : List PyData} {v : Int} (h0 : 0 ≤ v) (h1 : v < xs.length) : ∃ x ∈ xs, ixD w (.list xs) (.int v) = some x := by
  obtain ⟨k, rfl⟩ : ∃ k : Nat, v = (k : Int) := ⟨v.toNat, by omega⟩
  have hk : k < xs.length := by omega
  exact ⟨xs[k], List.getElem_mem hk, Td.atI_nat (List.getElem?_eq_getElem hk)⟩
theorem atT {w : Ws} {xs : List PyData} {v : Int} (h0 : 0 ≤ v) (h1 : v < xs.length) : ∃ x ∈ xs, ixD w (.tuple xs) (.int v) = some x := by
  obtain ⟨k, rfl⟩ : ∃ k : Nat, v = (k : Int) := ⟨v.toNat, by omega⟩
  have hk : k < xs.length := by omega
  exact ⟨xs[k], List.getElem_mem hk, Td.atI_nat (List.getElem?_eq_getElem hk)⟩
/-- objects behind those of the caller -/
theorem own_at {w v : Ws} {i : Nat} : (w ++ v)[w.length + i]? = v[i]? := by rw [List.getElem?_append_right (by omega), Nat.add_sub_cancel_left]
theorem own_at0 {w v : Ws} : (w ++ v)[w.length]? = v[0]? := by rw [List.getElem?_append_right (by omega), Nat.sub_self]
theorem own_set {w v : Ws} {i : Nat} {x : Ob} : (w ++ v).set (w.length + i) x = w ++ v.set i x := by rw [List.set_append_right _ _ (by omega), Nat.add_sub_cancel_left]
theorem own_set0 {w v : Ws} {x : Ob} : (w ++ v).set w.length x = w ++ v.set 0 x := by rw [List.set_append_right _ _ (by omega), Nat.sub_self]
theorem lst_own {w v : Ws} {i : Nat} {ds : List PyData} (h : v[i]? = some (.lst ds)) : lstOf (w ++ v) (rf (w.length + i)) = some ds := lst_at (by rw [own_at]; exact h)
theorem szs (n : Nat) (h : n ≤ 10000000) : szOk n = true := szOk_of h
end
/-! ### == of like data -/
mutual
theorem eqv_refl : ∀ d : PyData, okD d = true → PyData.eqv d d = true
  | .none, _ => by simp [PyData.eqv]
  | .bool b, _ => by simp [PyData.eqv]
  | .int i, _ => by simp [PyData.eqv]
  | .str z, _ => by simp [PyData.eqv]
  | .list xs, h => by simp only [PyData.eqv]; exact eqvA_refl xs h
  | .tuple xs, h => by simp only [PyData.eqv]; exact eqvA_refl xs h
  | .dict _, h => by simp [okD] at h
theorem eqvA_refl : ∀ xs : List PyData, okDA xs = true → PyData.eqvAll xs xs = true
  | [], _ => by simp [PyData.eqvAll]
  | x :: xs, h => by
    have h' : okD x = true ∧ okDA xs = true := by simpa [okDA] using h
    simp [PyData.eqvAll, eqv_refl x h'.1, eqvA_refl xs h'.2]
end
theorem eq_same {d : PyData} (w : Ws) (h : okD d = true) (hd : d.depth ≤ 64) : eqD w d d = some (.bool true) := by
  unfold eqD
  rw [if_pos (by rw [shaped_of h hd]; rfl), eqv_refl d h]
theorem ne_same {d : PyData} (w : Ws) (h : okD d = true) (hd : d.depth ≤ 64) : neD w d d = some (.bool false) := by
  unfold neD
  rw [if_pos (by rw [shaped_of h hd]; rfl), eqv_refl d h]; rfl
end Td

set_option Elab.async false
set_option linter.all false
set_option maxRecDepth 100000
set_option maxHeartbeats 4000000
/-! Trees (notes, head, parts), places, what stands at a place, putting; plain. -/
namespace Tt
open PySem L2 Td
inductive Tr where
  | mk (ns : List Str) (h : Str) (ps : List Tr)
def Tr.ns : Tr → List Str | .mk ns _ _ => ns
def Tr.hd : Tr → Str | .mk _ h _ => h
def Tr.ps : Tr → List Tr | .mk _ _ ps => ps
mutual
def toD : Tr → PyData
  | .mk ns h ps => .tuple [.tuple (ns.map .str), .str h, .tuple (toDs ps)]
def toDs : List Tr → List PyData
  | [] => []
  | p :: ps => toD p :: toDs ps
end
theorem toDs_map : ∀ ps : List Tr, toDs ps = ps.map toD
  | [] => rfl
  | p :: ps => by simp [toDs, toDs_map ps]
mutual
def nds : Tr → Nat
  | .mk _ _ ps => 1 + ndsA ps
def ndsA : List Tr → Nat
  | [] => 0
  | p :: ps => nds p + ndsA ps
end
mutual
def hgt : Tr → Nat
  | .mk _ _ ps => hgtA ps
def hgtA : List Tr → Nat
  | [] => 0
  | p :: ps => max (hgt p + 1) (hgtA ps)
end
mutual
def bare : Tr → Tr
  | .mk _ h ps => .mk [] h (bareA ps)
def bareA : List Tr → List Tr
  | [] => []
  | p :: ps => bare p :: bareA ps
end
theorem bareA_map : ∀ ps : List Tr, bareA ps = ps.map bare
  | [] => rfl
  | p :: ps => by simp [bareA, bareA_map ps]
/-- what stands at a place -/
def sub : Tr → List Nat → Option Tr
  | t, [] => some t
  | .mk _ _ ps, k :: q => match ps[k]? with
    | some p => sub p q
    | none => none
def put : Tr → List Nat → Tr → Tr
  | _, [], o => o
  | .mk ns h ps, k :: q, o => match ps[k]? with
    | some p => .mk ns h (ps.set k (put p q o))
    | none => .mk ns h ps
theorem sub_nil (t : Tr) : sub t [] = some t := by cases t; rfl
theorem sub_cons {ns : List Str} {h : Str} {ps : List Tr} {k : Nat} {q : List Nat} {p : Tr} (e : ps[k]? = some p) : sub (.mk ns h ps) (k :: q) = sub p q := by simp only [sub, e]
theorem put_nil (t o : Tr) : put t [] o = o := by cases t; rfl
theorem put_cons {ns : List Str} {h : Str} {ps : List Tr} {k : Nat} {q : List Nat} {p o : Tr} (e : ps[k]? = some p) : put (.mk ns h ps) (k :: q) o = .mk ns h (ps.set k (put p q o)) := by simp only [put, e]
theorem sub_inv {ns : List Str} {h : Str} {ps : List Tr} {k : Nat} {q : List Nat} {a : Tr} (e : sub (.mk ns h ps) (k :: q) = some a) : ∃ p, ps[k]? = some p ∧ sub p q = some a := by
  simp only [sub] at e
  cases hp : ps[k]? with
  | none => rw [hp] at e; cases e
  | some p => rw [hp] at e; exact ⟨p, rfl, e⟩
theorem set_self {α : Type} {l : List α} {k : Nat} {x y : α} (h : l[k]? = some y) : (l.set k x)[k]? = some x := List.getElem?_set_self (List.getElem?_eq_some_iff.mp h).1
theorem set_ne {α : Type} {l : List α} {k j : Nat} {x : α} (h : k ≠ j) : (l.set k x)[j]? = l[j]? := List.getElem?_set_ne h
theorem set_id {α : Type} {l : List α} {k : Nat} {x : α} (h : l[k]? = some x) : l.set k x = l := by
  obtain ⟨hl, e⟩ := List.getElem?_eq_some_iff.mp h
  rw [← e]
  exact List.set_getElem_self ..
theorem sub_put : ∀ {q : List Nat} {t a o : Tr}, sub t q = some a → sub (put t q o) q = some o
  | [], t, a, o, h => by rw [put_nil, sub_nil]
  | k :: q, .mk ns h ps, a, o, e => by
    obtain ⟨p, hp, e⟩ := sub_inv e
    rw [put_cons hp, sub_cons (set_self hp)]
    exact sub_put e
theorem put_sub : ∀ {q : List Nat} {t a : Tr}, sub t q = some a → put t q a = t
  | [], t, a, h => by rw [sub_nil] at h; cases h; rw [put_nil]
  | k :: q, .mk ns h ps, a, e => by
    obtain ⟨p, hp, e⟩ := sub_inv e
    rw [put_cons hp, put_sub e, set_id hp]
theorem put_put : ∀ {q : List Nat} {t a o m : Tr}, sub t q = some a → put (put t q o) q m = put t q m
  | [], t, a, o, m, h => by simp only [put_nil]
  | k :: q, .mk ns h ps, a, o, m, e => by
    obtain ⟨p, hp, e⟩ := sub_inv e
    rw [put_cons hp, put_cons (set_self hp), put_cons hp, put_put e, List.set_set]
/-- below the place that is put next -/
theorem put_above : ∀ {q r : List Nat} {t a o m : Tr}, sub t (q ++ r) = some a → put (put t (q ++ r) m) q o = put t q o
  | [], r, t, a, o, m, h => by rw [put_nil, put_nil]
  | k :: q, r, .mk ns h ps, a, o, m, e => by
    rw [List.cons_append] at e ⊢
    obtain ⟨p, hp, e⟩ := sub_inv e
    rw [put_cons hp, put_cons (set_self hp), put_cons hp, put_above e, List.set_set]
theorem sub_app : ∀ {q r : List Nat} {t a : Tr}, sub t q = some a → sub t (q ++ r) = sub a r
  | [], r, t, a, h => by rw [sub_nil] at h; cases h; rfl
  | k :: q, r, .mk ns h ps, a, e => by
    obtain ⟨p, hp, e⟩ := sub_inv e
    rw [List.cons_append, sub_cons hp, sub_app e]
theorem sub_pre : ∀ {q r : List Nat} {t a : Tr}, sub t (q ++ r) = some a → ∃ b, sub t q = some b ∧ sub b r = some a
  | [], r, t, a, h => ⟨t, sub_nil t, h⟩
  | k :: q, r, .mk ns h ps, a, e => by
    rw [List.cons_append] at e
    obtain ⟨p, hp, e⟩ := sub_inv e
    obtain ⟨b, h1, h2⟩ := sub_pre e
    exact ⟨b, by rw [sub_cons hp]; exact h1, h2⟩
/-- places apart -/
theorem apart : ∀ {q r : List Nat} {t a o : Tr}, sub t q = some a → ¬ q <+: r → sub (put t q o) r = sub t r ∨ ∃ k, r <+: q ∧ r ++ k = q
  | [], r, t, a, o, h, n => absurd (List.nil_prefix) n
  | k :: q, [], t, a, o, e, n => .inr ⟨k :: q, List.nil_prefix, rfl⟩
  | k :: q, j :: r, .mk ns h ps, a, o, e, n => by
    obtain ⟨p, hp, e⟩ := sub_inv e
    rw [put_cons hp]
    by_cases hj : k = j
    · subst hj
      rw [sub_cons (set_self hp), sub_cons hp]
      rcases apart (o := o) e (fun z => n (List.cons_prefix_cons.mpr ⟨rfl, z⟩)) with z | ⟨l, z1, z2⟩
      · exact .inl z
      · exact .inr ⟨l, List.cons_prefix_cons.mpr ⟨rfl, z1⟩, by rw [List.cons_append, z2]⟩
    · left
      simp only [sub]
      rw [set_ne hj]
theorem put_comm : ∀ {q r : List Nat} {t a b o m : Tr}, sub t q = some a → sub t r = some b → ¬ q <+: r → ¬ r <+: q → put (put t q o) r m = put (put t r m) q o
  | [], r, t, a, b, o, m, _, _, n, _ => absurd (List.nil_prefix) n
  | k :: q, [], t, a, b, o, m, _, _, _, n => absurd (List.nil_prefix) n
  | k :: q, j :: r, .mk ns h ps, a, b, o, m, e1, e2, n1, n2 => by
    obtain ⟨p1, hp1, e1⟩ := sub_inv e1
    obtain ⟨p2, hp2, e2⟩ := sub_inv e2
    by_cases hj : k = j
    · subst hj
      rw [hp1] at hp2
      cases hp2
      rw [put_cons hp1, put_cons (set_self hp1), put_cons hp1, put_cons (set_self hp1), List.set_set, List.set_set]
      rw [put_comm e1 e2 (fun z => n1 (List.cons_prefix_cons.mpr ⟨rfl, z⟩)) (fun z => n2 (List.cons_prefix_cons.mpr ⟨rfl, z⟩))]
    · have q1 : (ps.set k (put p1 q o))[j]? = some p2 := (set_ne hj).trans hp2
      have q2 : (ps.set j (put p2 r m))[k]? = some p1 := (set_ne fun e => hj e.symm).trans hp1
      rw [put_cons hp1, put_cons q1, put_cons hp2, put_cons q2, List.set_comm _ _ hj]
theorem ndsA_set : ∀ {ps : List Tr} {k : Nat} {p x : Tr}, ps[k]? = some p → ndsA (ps.set k x) + nds p = ndsA ps + nds x
  | y :: ps, 0, p, x, h => by
    have : y = p := by simpa using h
    subst this
    simp only [List.set_cons_zero, ndsA]; omega
  | y :: ps, k + 1, p, x, h => by
    have := ndsA_set (ps := ps) (k := k) (p := p) (x := x) (by simpa using h)
    simp only [List.set_cons_succ, ndsA]; omega
theorem nds_put : ∀ {q : List Nat} {t a o : Tr}, sub t q = some a → nds (put t q o) + nds a = nds t + nds o
  | [], t, a, o, h => by rw [sub_nil] at h; cases h; rw [put_nil]; omega
  | k :: q, .mk ns h ps, a, o, e => by
    obtain ⟨p, hp, e⟩ := sub_inv e
    rw [put_cons hp]
    have h1 := nds_put (o := o) e
    have h2 := ndsA_set (x := put p q o) hp
    simp only [nds]; omega
theorem hgtA_get : ∀ {ps : List Tr} {k : Nat} {p : Tr}, ps[k]? = some p → hgt p + 1 ≤ hgtA ps
  | y :: ps, 0, p, h => by
    have : y = p := by simpa using h
    subst this
    simp only [hgtA]; omega
  | y :: ps, k + 1, p, h => by
    have := hgtA_get (ps := ps) (k := k) (p := p) (by simpa using h)
    simp only [hgtA]; omega
theorem hgtA_set : ∀ (ps : List Tr) (k : Nat) (x : Tr), hgtA (ps.set k x) ≤ max (hgtA ps) (hgt x + 1)
  | [], _, _ => by simp [hgtA]
  | y :: ps, 0, x => by simp only [List.set_cons_zero, hgtA]; omega
  | y :: ps, k + 1, x => by have := hgtA_set ps k x; simp only [List.set_cons_succ, hgtA]; omega
theorem hgt_sub : ∀ {q : List Nat} {t a : Tr}, sub t q = some a → hgt a + q.length ≤ hgt t
  | [], t, a, h => by rw [sub_nil] at h; cases h; simp
  | k :: q, .mk ns h ps, a, e => by
    obtain ⟨p, hp, e⟩ := sub_inv e
    have h1 := hgt_sub e
    have h2 := hgtA_get hp
    simp only [hgt, List.length_cons]; omega
theorem hgt_put : ∀ {q : List Nat} {t a o : Tr}, sub t q = some a → hgt (put t q o) ≤ max (hgt t) (q.length + hgt o)
  | [], t, a, o, h => by rw [put_nil]; simp; omega
  | k :: q, .mk ns h ps, a, o, e => by
    obtain ⟨p, hp, e⟩ := sub_inv e
    rw [put_cons hp]
    have h1 := hgt_put (o := o) e
    have h2 := hgtA_get hp
    have h3 := hgtA_set ps k (put p q o)
    simp only [hgt, List.length_cons]; omega
mutual
theorem nds_hgt : ∀ t : Tr, hgt t < nds t
  | .mk _ _ ps => by have := ndsA_hgt ps; simp only [hgt, nds]; omega
theorem ndsA_hgt : ∀ ps : List Tr, hgtA ps ≤ ndsA ps
  | [] => Nat.le_refl _
  | p :: ps => by have h1 := nds_hgt p; have h2 := ndsA_hgt ps; simp only [hgtA, ndsA]; omega
end
/-! ### bare -/
mutual
theorem bare_bare : ∀ t : Tr, bare (bare t) = bare t
  | .mk ns h ps => by simp only [bare]; rw [bareA_bareA ps]
theorem bareA_bareA : ∀ ps : List Tr, bareA (bareA ps) = bareA ps
  | [] => rfl
  | p :: ps => by simp only [bareA]; rw [bare_bare p, bareA_bareA ps]
end
theorem bare_sub : ∀ {q : List Nat} {t a : Tr}, sub t q = some a → sub (bare t) q = some (bare a)
  | [], t, a, h => by rw [sub_nil] at h; cases h; exact sub_nil _
  | k :: q, .mk ns h ps, a, e => by
    obtain ⟨p, hp, e⟩ := sub_inv e
    simp only [bare]
    rw [sub_cons (p := bare p) (by rw [bareA_map, List.getElem?_map, hp]; rfl)]
    exact bare_sub e
theorem bare_put : ∀ {q : List Nat} {t a o : Tr}, sub t q = some a → bare (put t q o) = put (bare t) q (bare o)
  | [], t, a, o, h => by rw [put_nil, put_nil]
  | k :: q, .mk ns h ps, a, o, e => by
    obtain ⟨p, hp, e⟩ := sub_inv e
    rw [put_cons hp]
    simp only [bare]
    rw [put_cons (p := bare p) (by rw [bareA_map, List.getElem?_map, hp]; rfl), ← bare_put e, bareA_map, bareA_map, List.map_set]
mutual
theorem nds_bare : ∀ t : Tr, nds (bare t) = nds t
  | .mk ns h ps => by simp only [bare, nds]; rw [ndsA_bare ps]
theorem ndsA_bare : ∀ ps : List Tr, ndsA (bareA ps) = ndsA ps
  | [] => rfl
  | p :: ps => by simp only [bareA, ndsA]; rw [nds_bare p, ndsA_bare ps]
end
mutual
theorem hgt_bare : ∀ t : Tr, hgt (bare t) = hgt t
  | .mk ns h ps => by simp only [bare, hgt]; rw [hgtA_bare ps]
theorem hgtA_bare : ∀ ps : List Tr, hgtA (bareA ps) = hgtA ps
  | [] => rfl
  | p :: ps => by simp only [bareA, hgtA]; rw [hgt_bare p, hgtA_bare ps]
end
/-! ### places in order -/
mutual
def pls (a : List Nat) : Tr → List (List Nat)
  | .mk _ _ ps => a :: plsA a 0 ps
def plsA (a : List Nat) (k : Nat) : List Tr → List (List Nat)
  | [] => []
  | p :: ps => pls (a ++ [k]) p ++ plsA a (k + 1) ps
end
mutual
theorem pls_pre (b a : List Nat) : ∀ t : Tr, pls (b ++ a) t = (pls a t).map (b ++ ·)
  | .mk ns h ps => by simp only [pls, List.map_cons]; rw [plsA_pre b a 0 ps]
theorem plsA_pre (b a : List Nat) : ∀ (k : Nat) (ps : List Tr), plsA (b ++ a) k ps = (plsA a k ps).map (b ++ ·)
  | _, [] => rfl
  | k, p :: ps => by simp only [plsA, List.map_append]; rw [List.append_assoc, pls_pre b (a ++ [k]) p, plsA_pre b a (k + 1) ps]
end
theorem pls_at (a : List Nat) (t : Tr) : pls a t = (pls [] t).map (a ++ ·) := by
  have := pls_pre a [] t
  rwa [List.append_nil] at this
mutual
theorem pls_len (a : List Nat) : ∀ t : Tr, (pls a t).length = nds t
  | .mk ns h ps => by simp only [pls, nds, List.length_cons]; rw [plsA_len a 0 ps]; omega
theorem plsA_len (a : List Nat) : ∀ (k : Nat) (ps : List Tr), (plsA a k ps).length = ndsA ps
  | _, [] => rfl
  | k, p :: ps => by simp only [plsA, ndsA, List.length_append]; rw [pls_len _ p, plsA_len a (k + 1) ps]
end
mutual
theorem pls_bare (a : List Nat) : ∀ t : Tr, pls a (bare t) = pls a t
  | .mk ns h ps => by simp only [bare, pls]; rw [plsA_bare a 0 ps]
theorem plsA_bare (a : List Nat) : ∀ (k : Nat) (ps : List Tr), plsA a k (bareA ps) = plsA a k ps
  | _, [] => rfl
  | k, p :: ps => by simp only [bareA, plsA]; rw [pls_bare _ p, plsA_bare a (k + 1) ps]
end
mutual
theorem pls_mem : ∀ (t : Tr) (q : List Nat), q ∈ pls [] t ↔ (sub t q).isSome = true
  | .mk ns h ps, [] => by simp [pls, sub]
  | .mk ns h ps, k :: q => by
    simp only [pls, List.mem_cons, reduceCtorEq, false_or]
    rw [plsA_mem ps 0 k q]
    simp [sub]
    cases ps[k]? <;> simp
theorem plsA_mem : ∀ (ps : List Tr) (j k : Nat) (q : List Nat), (k :: q) ∈ plsA [] j ps ↔ j ≤ k ∧ ((ps[k - j]?).bind fun p => sub p q).isSome = true
  | [], j, k, q => by simp [plsA]
  | p :: ps, j, k, q => by
    simp only [plsA, List.nil_append, List.mem_append]
    rw [pls_at [j] p, plsA_mem ps (j + 1) k q]
    have e : (k :: q ∈ (pls [] p).map ([j] ++ ·)) ↔ (k = j ∧ q ∈ pls [] p) := by
      simp only [List.mem_map, List.singleton_append, List.cons.injEq]
      constructor
      · rintro ⟨x, hx, rfl, rfl⟩; exact ⟨rfl, hx⟩
      · rintro ⟨rfl, h⟩; exact ⟨q, h, rfl, rfl⟩
    rw [e, pls_mem p q]
    by_cases hk : k = j
    · subst hk
      simp
      omega
    · by_cases hl : j + 1 ≤ k
      · have : k - j = (k - (j + 1)) + 1 := by omega
        rw [this]
        simp [hk, hl]
        omega
      · have : ¬ j ≤ k := by omega
        simp [hk, hl, this]
end
theorem pls_nil_mem (t : Tr) : [] ∈ pls [] t := by rw [pls_mem, sub_nil]; rfl
end Tt

set_option Elab.async false
set_option linter.all false
set_option maxRecDepth 100000
set_option maxHeartbeats 4000000
namespace Tt
open PySem L2 Td
/-! ### places within, beside -/
def isP (a s : List Nat) : Bool := decide (s.take a.length = a)
theorem isP_iff {a s : List Nat} : isP a s = true ↔ a <+: s := by
  unfold isP
  rw [decide_eq_true_iff]
  constructor
  · intro h; rw [← h]; exact List.take_prefix _ _
  · intro h; obtain ⟨r, rfl⟩ := h; simp
theorem isP_nil (s : List Nat) : isP [] s = true := by simp [isP]
theorem isP_cons (k j : Nat) (q s : List Nat) : isP (k :: q) (j :: s) = (decide (j = k) && isP q s) := by
  unfold isP
  simp [List.take_succ_cons]
theorem isP_c0 (k : Nat) (q : List Nat) : isP (k :: q) [] = false := by simp [isP]
theorem filt_map (k j : Nat) (q : List Nat) (L : List (List Nat)) : (L.map ([j] ++ ·)).filter (isP (k :: q)) = if j = k then (L.filter (isP q)).map ([j] ++ ·) else [] := by
  rw [List.filter_map]
  by_cases h : j = k
  · subst h
    rw [if_pos rfl]
    congr 1
    exact List.filter_congr fun s _ => by simp [isP_cons]
  · rw [if_neg h]
    rw [List.filter_eq_nil_iff.mpr fun s _ => by simp [isP_cons, h]]
    rfl
theorem filtN_map (k j : Nat) (q : List Nat) (L : List (List Nat)) : (L.map ([j] ++ ·)).filter (fun s => !isP (k :: q) s) = if j = k then (L.filter fun s => !isP q s).map ([j] ++ ·) else L.map ([j] ++ ·) := by
  rw [List.filter_map]
  by_cases h : j = k
  · subst h
    rw [if_pos rfl]
    congr 1
    exact List.filter_congr fun s _ => by simp [isP_cons]
  · rw [if_neg h]
    rw [List.filter_eq_self.mpr fun s _ => by simp [isP_cons, h]]
theorem plsA_in (k : Nat) (q : List Nat) {p : Tr} : ∀ (ps : List Tr) (j : Nat), j ≤ k → ps[k - j]? = some p → (plsA [] j ps).filter (isP (k :: q)) = ((pls [] p).filter (isP q)).map ([k] ++ ·)
  | [], j, _, h => by simp at h
  | y :: ps, j, hj, h => by
    simp only [plsA, List.nil_append, List.filter_append]
    rw [pls_at [j] y, filt_map]
    have none_ : ∀ (ps : List Tr) (i : Nat), k < i → (plsA [] i ps).filter (isP (k :: q)) = [] := fun ps => by
      induction ps with
      | nil => intro _ _; rfl
      | cons z ps ih =>
        intro i hi
        simp only [plsA, List.nil_append, List.filter_append]
        rw [pls_at [i] z, filt_map, if_neg (by omega), ih (i + 1) (by omega)]
        rfl
    by_cases e : j = k
    · subst e
      have : y = p := by simpa using h
      subst this
      rw [if_pos rfl, none_ ps (j + 1) (by omega), List.append_nil]
    · rw [if_neg e, List.nil_append]
      exact plsA_in k q ps (j + 1) (by omega) (by rwa [show k - j = (k - (j + 1)) + 1 by omega, List.getElem?_cons_succ] at h)
theorem pls_in : ∀ {q : List Nat} {t a : Tr}, sub t q = some a → (pls [] t).filter (isP q) = (pls [] a).map (q ++ ·)
  | [], t, a, h => by
    rw [sub_nil] at h
    cases h
    rw [List.filter_eq_self.mpr fun s _ => isP_nil s]
    simp
  | k :: q, .mk ns h ps, a, e => by
    obtain ⟨p, hp, e⟩ := sub_inv e
    simp only [pls, List.filter_cons, isP_c0, Bool.false_eq_true, if_false]
    rw [plsA_in k q ps 0 (Nat.zero_le _) (by simpa using hp), pls_in e, List.map_map]
    exact List.map_congr_left fun s _ => rfl
theorem plsA_out (k : Nat) (q : List Nat) {p x : Tr} (hx : (pls [] x).filter (fun s => !isP q s) = (pls [] p).filter fun s => !isP q s) : ∀ (ps : List Tr) (j : Nat), j ≤ k → ps[k - j]? = some p → (plsA [] j (ps.set (k - j) x)).filter (fun s => !isP (k :: q) s) = (plsA [] j ps).filter fun s => !isP (k :: q) s
  | [], j, _, h => by simp at h
  | y :: ps, j, hj, h => by
    by_cases e : j = k
    · subst e
      have : y = p := by simpa using h
      subst this
      rw [Nat.sub_self, List.set_cons_zero]
      simp only [plsA, List.nil_append, List.filter_append]
      rw [pls_at [j] x, pls_at [j] y, filtN_map, filtN_map, if_pos rfl, if_pos rfl, hx]
    · rw [show k - j = (k - (j + 1)) + 1 by omega] at h ⊢
      rw [List.getElem?_cons_succ] at h
      rw [List.set_cons_succ]
      simp only [plsA, List.filter_append]
      rw [plsA_out k q hx ps (j + 1) (by omega) h]
theorem pls_out : ∀ {q : List Nat} {t a o : Tr}, sub t q = some a → (pls [] (put t q o)).filter (fun s => !isP q s) = (pls [] t).filter fun s => !isP q s
  | [], t, a, o, h => by
    rw [List.filter_eq_nil_iff.mpr fun s _ => by simp [isP_nil], List.filter_eq_nil_iff.mpr fun s _ => by simp [isP_nil]]
  | k :: q, .mk ns h ps, a, o, e => by
    obtain ⟨p, hp, e⟩ := sub_inv e
    rw [put_cons hp]
    simp only [pls, List.filter_cons, isP_c0, Bool.not_false, if_true]
    rw [← plsA_out (x := put p q o) k q (pls_out e) ps 0 (Nat.zero_le _) (by simpa using hp)]
    simp
/-! ### what is written at a node -/
def lab (t : Tr) (q : List Nat) : Option (List Str × Str) := (sub t q).map fun x => (x.ns, x.hd)
theorem lab_out : ∀ {q : List Nat} {t a o : Tr} {r : List Nat}, sub t q = some a → isP q r = false → lab (put t q o) r = lab t r
  | [], t, a, o, r, h, n => by rw [isP_nil] at n; cases n
  | k :: q, .mk ns h ps, a, o, [], e, n => by
    obtain ⟨p, hp, e⟩ := sub_inv e
    rw [put_cons hp]
    simp [lab, sub, Tr.ns, Tr.hd]
  | k :: q, .mk ns h ps, a, o, j :: r, e, n => by
    obtain ⟨p, hp, e⟩ := sub_inv e
    rw [put_cons hp]
    by_cases hj : k = j
    · subst hj
      have n' : isP q r = false := by simpa [isP_cons] using n
      have ih := lab_out (o := o) (r := r) e n'
      simp only [lab] at ih ⊢
      rw [sub_cons (set_self hp), sub_cons hp]
      exact ih
    · simp only [lab, sub]
      rw [set_ne hj]
/-- the notes alone are put otherwise -/
theorem lab_mark : ∀ {q : List Nat} {t a : Tr} {L : List Str} {r : List Nat}, sub t q = some a → r ≠ q → lab (put t q (.mk L a.hd a.ps)) r = lab t r
  | [], t, .mk ns h ps, L, r, e, n => by
    rw [sub_nil] at e
    cases e
    cases r with
    | nil => exact absurd rfl n
    | cons j r => rw [put_nil]; simp only [lab, sub, Tr.hd, Tr.ps]
  | k :: q, .mk ns h ps, a, L, [], e, n => by
    obtain ⟨p, hp, e⟩ := sub_inv e
    rw [put_cons hp]
    simp [lab, sub, Tr.ns, Tr.hd]
  | k :: q, .mk ns h ps, a, L, j :: r, e, n => by
    obtain ⟨p, hp, e⟩ := sub_inv e
    rw [put_cons hp]
    by_cases hj : k = j
    · subst hj
      have ih := lab_mark (L := L) (r := r) e (fun z => n (by rw [z]))
      simp only [lab] at ih ⊢
      rw [sub_cons (set_self hp), sub_cons hp]
      exact ih
    · simp only [lab, sub]
      rw [set_ne hj]
theorem pls_mark : ∀ {q : List Nat} {t a : Tr} {L : List Str}, sub t q = some a → ∀ x, pls x (put t q (.mk L a.hd a.ps)) = pls x t := by
  have hA : ∀ (ps : List Tr) (k j : Nat) (p y : Tr) (x : List Nat), ps[k]? = some p → (∀ x, pls x y = pls x p) → plsA x j (ps.set k y) = plsA x j ps := fun ps => by
    induction ps with
    | nil => intro k j p y x h _; simp at h
    | cons z ps ih =>
      intro k j p y x h hy
      cases k with
      | zero =>
        have : z = p := by simpa using h
        subst this
        simp only [List.set_cons_zero, plsA]; rw [hy]
      | succ k =>
        simp only [List.set_cons_succ, plsA]
        rw [ih k (j + 1) p y x (by simpa using h) hy]
  intro q
  induction q with
  | nil =>
    intro t a L e x
    rw [sub_nil] at e
    cases e
    cases t
    rw [put_nil]
    simp only [Tr.hd, Tr.ps, pls]
  | cons k q ih =>
    intro t a L e x
    obtain ⟨ns, h, ps⟩ := t
    obtain ⟨p, hp, e⟩ := sub_inv e
    rw [put_cons hp]
    simp only [pls]
    rw [hA ps k 0 p _ x hp fun x => ih e x]
theorem bare_mark {q : List Nat} {t a : Tr} {L : List Str} (e : sub t q = some a) : bare (put t q (.mk L a.hd a.ps)) = bare t := by
  rw [bare_put e]
  have : bare (Tr.mk L a.hd a.ps) = bare a := by cases a; simp only [Tr.hd, Tr.ps, bare]
  rw [this]
  exact put_sub (bare_sub e)
/-! ### notes in order -/
def ntA (t : Tr) (q : List Nat) : List Str := ((lab t q).map Prod.fst).getD []
def nts (t : Tr) : List (List Nat × Str) := (pls [] t).flatMap fun q => (ntA t q).map fun n => (q, n)
theorem filt_nts (f : List Nat → Bool) (g : List Nat → List Str) : ∀ L : List (List Nat), ((L.flatMap fun q => (g q).map fun n => (q, n)).filter fun x => f x.1) = (L.filter f).flatMap fun q => (g q).map fun n => (q, n)
  | [] => rfl
  | q :: L => by
    rw [List.flatMap_cons, List.filter_append, filt_nts f g L, List.filter_cons]
    cases h : f q with
    | true =>
      rw [if_pos rfl, List.flatMap_cons]
      congr 1
      exact List.filter_eq_self.mpr fun x hx => by
        obtain ⟨n, _, rfl⟩ := List.mem_map.mp hx
        exact h
    | false =>
      rw [if_neg Bool.false_ne_true]
      rw [List.filter_eq_nil_iff.mpr fun x hx => by
        obtain ⟨n, _, rfl⟩ := List.mem_map.mp hx
        simp [h]]
      rfl
theorem nts_out {q : List Nat} {t a o : Tr} (e : sub t q = some a) : ((nts (put t q o)).filter fun x => !isP q x.1) = (nts t).filter fun x => !isP q x.1 := by
  unfold nts
  rw [filt_nts (fun s => !isP q s), filt_nts (fun s => !isP q s), pls_out e]
  have : ∀ L : List (List Nat), (∀ r ∈ L, isP q r = false) → (L.flatMap fun r => (ntA (put t q o) r).map fun n => (r, n)) = L.flatMap fun r => (ntA t r).map fun n => (r, n) := fun L => by
    induction L with
    | nil => intro _; rfl
    | cons r L ih =>
      intro h
      rw [List.flatMap_cons, List.flatMap_cons, ih fun r hr => h r (List.mem_cons_of_mem _ hr)]
      unfold ntA
      rw [lab_out e (h r List.mem_cons_self)]
  exact this _ fun r hr => by simpa using (List.mem_filter.mp hr).2
theorem nts_mark {q : List Nat} {t a : Tr} {L : List Str} (e : sub t q = some a) : ((nts (put t q (.mk L a.hd a.ps))).filter fun x => !decide (x.1 = q)) = (nts t).filter fun x => !decide (x.1 = q) := by
  unfold nts
  rw [filt_nts (fun s => !decide (s = q)), filt_nts (fun s => !decide (s = q)), pls_mark e]
  have : ∀ M : List (List Nat), (∀ r ∈ M, r ≠ q) → (M.flatMap fun r => (ntA (put t q (.mk L a.hd a.ps)) r).map fun n => (r, n)) = M.flatMap fun r => (ntA t r).map fun n => (r, n) := fun M => by
    induction M with
    | nil => intro _; rfl
    | cons r M ih =>
      intro h
      rw [List.flatMap_cons, List.flatMap_cons, ih fun r hr => h r (List.mem_cons_of_mem _ hr)]
      unfold ntA
      rw [lab_mark e (h r List.mem_cons_self)]
  exact this _ fun r hr => by simpa using (List.mem_filter.mp hr).2
mutual
theorem pls_nodup : ∀ t : Tr, (pls [] t).Nodup
  | .mk ns h ps => by
    simp only [pls, List.nodup_cons]
    refine ⟨fun h => ?_, plsA_nodup 0 ps⟩
    have : ∀ (ps : List Tr) (j : Nat), [] ∉ plsA [] j ps := fun ps => by
      induction ps with
      | nil => intro j; simp [plsA]
      | cons p ps ih =>
        intro j h
        simp only [plsA, List.nil_append, List.mem_append] at h
        rcases h with h | h
        · rw [pls_at [j] p] at h
          obtain ⟨x, _, hx⟩ := List.mem_map.mp h
          simp at hx
        · exact ih _ h
    exact this ps 0 h
theorem plsA_nodup : ∀ (j : Nat) (ps : List Tr), (plsA [] j ps).Nodup
  | j, [] => by simp [plsA]
  | j, p :: ps => by
    simp only [plsA, List.nil_append]
    rw [List.nodup_append]
    refine ⟨?_, plsA_nodup (j + 1) ps, fun x hx y hy e => ?_⟩
    · rw [pls_at [j] p]
      exact List.nodup_iff_pairwise_ne.mpr (List.pairwise_map.mpr ((List.nodup_iff_pairwise_ne.mp (pls_nodup p)).imp fun {a b} n z => n (List.append_cancel_left z)))
    · rw [pls_at [j] p] at hx
      obtain ⟨z, _, rfl⟩ := List.mem_map.mp hx
      subst e
      have := (plsA_mem ps (j + 1) j z).mp hy
      omega
end
theorem filter_one {q : List Nat} : ∀ {L : List (List Nat)}, L.Nodup → q ∈ L → L.filter (fun s => decide (s = q)) = [q]
  | x :: L, nd, h => by
    rw [List.nodup_cons] at nd
    rw [List.filter_cons]
    by_cases e : x = q
    · subst e
      simp only [decide_true, if_true]
      rw [List.filter_eq_nil_iff.mpr fun s hs => by simp; exact fun z => nd.1 (z ▸ hs)]
    · simp only [e, decide_false, Bool.false_eq_true, if_false]
      rcases List.mem_cons.mp h with z | z
      · exact absurd z.symm e
      · exact filter_one nd.2 z
theorem nts_here {q : List Nat} {t a : Tr} (e : sub t q = some a) : ((nts t).filter fun x => decide (x.1 = q)) = a.ns.map fun n => (q, n) := by
  unfold nts
  rw [filt_nts (fun s => decide (s = q)), filter_one (pls_nodup t) ((pls_mem t q).mpr (by rw [e]; rfl))]
  simp [ntA, lab, e]
theorem nts_bare (t : Tr) : nts (bare t) = [] := by
  unfold nts
  rw [List.flatMap_eq_nil_iff]
  intro q hq
  rw [pls_bare, pls_mem] at hq
  obtain ⟨a, ha⟩ := Option.isSome_iff_exists.mp hq
  have : (bare a).ns = [] := by cases a; rfl
  simp [ntA, lab, bare_sub ha, this]
end Tt

set_option Elab.async false
set_option linter.all false
set_option maxRecDepth 100000
set_option maxHeartbeats 4000000
namespace Tk
open PySem L2 PySem.Spec PyProof.Rows Td Tg
def topS (i : Nat) : Stmt := PySem.Challenge.pw_tidyrules_k06_whole_trees_and_places.main.body.getD i (.Pass ⟨0, 0, 0, 0⟩)
abbrev s_is_integer : Stmt := topS 7
abbrev N_is_integer : List Str := ["thing"]
abbrev P_is_integer : List Str := ["thing"]
abbrev s_is_number : Stmt := topS 8
abbrev N_is_number : List Str := ["thing"]
abbrev P_is_number : List Str := ["thing"]
abbrev s_is_name : Stmt := topS 9
abbrev N_is_name : List Str := ["thing", "char"]
abbrev P_is_name : List Str := ["thing"]
abbrev s_is_remark : Stmt := topS 10
abbrev N_is_remark : List Str := ["thing"]
abbrev P_is_remark : List Str := ["thing"]
abbrev s_is_place : Stmt := topS 11
abbrev N_is_place : List Str := ["thing", "one"]
abbrev P_is_place : List Str := ["thing"]
abbrev s_places_below : Stmt := topS 13
abbrev N_places_below : List Str := ["tree", "above", "found", "pile", "k", "place", "here"]
abbrev P_places_below : List Str := ["tree", "above"]
abbrev s_nodes_down : Stmt := topS 14
abbrev N_nodes_down : List Str := ["tree", "found", "pile", "here"]
abbrev P_nodes_down : List Str := ["tree"]
abbrev s_tree_by : Stmt := topS 15
abbrev N_tree_by : List Str := ["nodes", "lots", "made", "k", "first", "late", "own", "head", "parts"]
abbrev P_tree_by : List Str := ["nodes", "lots"]
abbrev s_places_of : Stmt := topS 16
abbrev N_places_of : List Str := ["tree"]
abbrev P_places_of : List Str := ["tree"]
abbrev s_has_place : Stmt := topS 17
abbrev N_has_place : List Str := ["tree", "thing", "here", "k"]
abbrev P_has_place : List Str := ["tree", "thing"]
abbrev s_require_place : Stmt := topS 18
abbrev N_require_place : List Str := ["tree", "place"]
abbrev P_require_place : List Str := ["tree", "place"]
abbrev s_below : Stmt := topS 19
abbrev N_below : List Str := ["tree", "place", "here", "k"]
abbrev P_below : List Str := ["tree", "place"]
abbrev s_nodes_of : Stmt := topS 20
abbrev N_nodes_of : List Str := ["tree", "place"]
abbrev P_nodes_of : List Str := ["tree"]
abbrev s_node_at : Stmt := topS 21
abbrev N_node_at : List Str := ["tree", "place"]
abbrev P_node_at : List Str := ["tree", "place"]
abbrev s_replaced : Stmt := topS 22
abbrev N_replaced : List Str := ["tree", "place", "other", "way", "k", "late", "j", "notes", "head", "parts"]
abbrev P_replaced : List Str := ["tree", "place", "other"]
abbrev s_with_tree : Stmt := topS 23
abbrev N_with_tree : List Str := ["tree", "place", "other"]
abbrev P_with_tree : List Str := ["tree", "place", "other"]
abbrev s_joined_notes : Stmt := topS 24
abbrev N_joined_notes : List Str := ["lots", "lot", "note"]
abbrev P_joined_notes : List Str := ["lots"]
abbrev s_with_notes : Stmt := topS 25
abbrev N_with_notes : List Str := ["tree", "place", "notes", "old", "head", "parts"]
abbrev P_with_notes : List Str := ["tree", "place", "notes"]
abbrev s_bare : Stmt := topS 26
abbrev N_bare : List Str := ["tree", "nodes", "here"]
abbrev P_bare : List Str := ["tree"]
abbrev s_size_of : Stmt := topS 27
abbrev N_size_of : List Str := ["tree"]
abbrev P_size_of : List Str := ["tree"]
abbrev s_depth_of : Stmt := topS 28
abbrev N_depth_of : List Str := ["tree", "place"]
abbrev P_depth_of : List Str := ["tree"]
abbrev s_notes_of : Stmt := topS 29
abbrev N_notes_of : List Str := ["tree", "found", "place", "note"]
abbrev P_notes_of : List Str := ["tree"]
abbrev s_remarks_of : Stmt := topS 30
abbrev N_remarks_of : List Str := ["tree", "place", "note"]
abbrev P_remarks_of : List Str := ["tree"]
abbrev s__law_reader : Stmt := topS 32
abbrev N__law_reader : List Str := ["_law_script"]
abbrev P__law_reader : List Str := ["_law_script"]
abbrev s__law_draw : Stmt := topS 33
abbrev N__law_draw : List Str := ["_law_reader_here", "_law_many", "_law_calls", "_law_spot", "_law_cells", "_law_cell", "_law_once", "_law_figure"]
abbrev P__law_draw : List Str := ["_law_reader_here", "_law_many"]
abbrev s__law_some : Stmt := topS 34
abbrev N__law_some : List Str := ["_law_reader_here", "_law_pool", "_law_least", "_law_most", "_law_left", "_law_many"]
abbrev P__law_some : List Str := ["_law_reader_here", "_law_pool", "_law_least", "_law_most"]
abbrev s__law_power : Stmt := topS 40
abbrev N__law_power : List Str := ["_law_size", "_law_arity", "_law_found", "_law_k"]
abbrev P__law_power : List Str := ["_law_size", "_law_arity"]
abbrev s__law_random_tongue : Stmt := topS 35
abbrev N__law_random_tongue : List Str := ["_law_reader_here", "_law_size", "_law_entries", "_law_name", "_law_names", "_law_arity", "_law_many", "_law_one", "_law_k"]
abbrev P__law_random_tongue : List Str := ["_law_reader_here"]
abbrev s__law_random_notes : Stmt := topS 36
abbrev N__law_random_notes : List Str := ["_law_reader_here", "_law_pool"]
abbrev P__law_random_notes : List Str := ["_law_reader_here"]
abbrev s__law_random_tree : Stmt := topS 37
abbrev N__law_random_tree : List Str := ["_law_reader_here", "_law_tongue", "_law_left", "_law_leaves", "_law_wide", "_law_marks", "_law_parts", "_law_k", "_law_name", "_law_arity", "_law_table", "_law_one"]
abbrev P__law_random_tree : List Str := ["_law_reader_here", "_law_tongue", "_law_left"]
abbrev s__law_loose_tree : Stmt := topS 38
abbrev N__law_loose_tree : List Str := ["_law_reader_here", "_law_left", "_law_many", "_law_name", "_law_marks", "_law_parts", "_law_k"]
abbrev P__law_loose_tree : List Str := ["_law_reader_here", "_law_left"]
abbrev s__law_fixed_trees : Stmt := topS 39
abbrev N__law_fixed_trees : List Str := ["_law_odd", "_law_first", "_law_deep", "_law_k", "_law_wide", "_law_x", "_law_no"]
abbrev P__law_fixed_trees : List Str := []
abbrev s__law_check_place : Stmt := topS 41
abbrev N__law_check_place : List Str := ["_law_tree", "_law_at", "_law_other", "_law_inside", "_law_kept", "_law_marks", "_law_inner", "_law_then", "_law_spot", "_law_pair"]
abbrev P__law_check_place : List Str := ["_law_tree", "_law_at", "_law_other"]
abbrev s__law_check_notes : Stmt := topS 42
abbrev N__law_check_notes : List Str := ["_law_tree", "_law_at", "_law_marked", "_law_there", "_law_others", "_law_own", "_law_pair", "_law_spot", "_law_one"]
abbrev P__law_check_notes : List Str := ["_law_tree", "_law_at"]
abbrev s__law_check_two : Stmt := topS 43
abbrev N__law_check_two : List Str := ["_law_tree", "_law_one", "_law_two", "_law_other", "_law_more", "_law_first"]
abbrev P__law_check_two : List Str := ["_law_tree", "_law_one", "_law_two", "_law_other", "_law_more"]
abbrev s_law : Stmt := topS 44
abbrev N_law : List Str := ["_law_script", "_law_reader_here", "_law_lots", "_law_turn", "_law_tree", "_law_at", "_law_spots", "_law_other", "_law_two", "_law_more", "_law_pair"]
abbrev P_law : List Str := ["_law_script"]
structure Tx (K : PySem.W.Frag) (mg : Str → Option Value) where
  d_is_integer : DefAt K mg "is_integer" s_is_integer P_is_integer
  d_is_number : DefAt K mg "is_number" s_is_number P_is_number
  d_is_name : DefAt K mg "is_name" s_is_name P_is_name
  d_is_remark : DefAt K mg "is_remark" s_is_remark P_is_remark
  d_is_place : DefAt K mg "is_place" s_is_place P_is_place
  d_places_below : DefAt K mg "places_below" s_places_below P_places_below
  d_nodes_down : DefAt K mg "nodes_down" s_nodes_down P_nodes_down
  d_tree_by : DefAt K mg "tree_by" s_tree_by P_tree_by
  d_places_of : DefAt K mg "places_of" s_places_of P_places_of
  d_has_place : DefAt K mg "has_place" s_has_place P_has_place
  d_require_place : DefAt K mg "require_place" s_require_place P_require_place
  d_below : DefAt K mg "below" s_below P_below
  d_nodes_of : DefAt K mg "nodes_of" s_nodes_of P_nodes_of
  d_node_at : DefAt K mg "node_at" s_node_at P_node_at
  d_replaced : DefAt K mg "replaced" s_replaced P_replaced
  d_with_tree : DefAt K mg "with_tree" s_with_tree P_with_tree
  d_joined_notes : DefV K mg "joined_notes" s_joined_notes "lots" 5
  d_with_notes : DefAt K mg "with_notes" s_with_notes P_with_notes
  d_bare : DefAt K mg "bare" s_bare P_bare
  d_size_of : DefAt K mg "size_of" s_size_of P_size_of
  d_depth_of : DefAt K mg "depth_of" s_depth_of P_depth_of
  d_notes_of : DefAt K mg "notes_of" s_notes_of P_notes_of
  d_remarks_of : DefAt K mg "remarks_of" s_remarks_of P_remarks_of
  d__law_reader : DefAt K mg "_law_reader" s__law_reader P__law_reader
  d__law_draw : DefAt K mg "_law_draw" s__law_draw P__law_draw
  d__law_some : DefAt K mg "_law_some" s__law_some P__law_some
  d__law_power : DefAt K mg "_law_power" s__law_power P__law_power
  d__law_random_tongue : DefAt K mg "_law_random_tongue" s__law_random_tongue P__law_random_tongue
  d__law_random_notes : DefAt K mg "_law_random_notes" s__law_random_notes P__law_random_notes
  d__law_random_tree : DefAt K mg "_law_random_tree" s__law_random_tree P__law_random_tree
  d__law_loose_tree : DefAt K mg "_law_loose_tree" s__law_loose_tree P__law_loose_tree
  d__law_fixed_trees : DefAt K mg "_law_fixed_trees" s__law_fixed_trees P__law_fixed_trees
  d__law_check_place : DefAt K mg "_law_check_place" s__law_check_place P__law_check_place
  d__law_check_notes : DefAt K mg "_law_check_notes" s__law_check_notes P__law_check_notes
  d__law_check_two : DefAt K mg "_law_check_two" s__law_check_two P__law_check_two
  d_law : DefAt K mg "law" s_law P_law
  b_all : mg "all" = none
  b_bool : mg "bool" = none
  b_int : mg "int" = none
  b_isinstance : mg "isinstance" = none
  b_len : mg "len" = none
  b_list : mg "list" = none
  b_max : mg "max" = none
  b_min : mg "min" = none
  b_range : mg "range" = none
  b_set : mg "set" = none
  b_sorted : mg "sorted" = none
  b_str : mg "str" = none
  b_tuple : mg "tuple" = none
  c_LETTERS : (t : Tok) ×' mg "LETTERS" = some (.str "abcdefghijklmnopqrstuvwxyz" t)
  c_LONGEST_NAME : (t : Tok) ×' mg "LONGEST_NAME" = some (.int 8 t)
def b_is_integer : FS :=
    (sRet (eAn (eIsi "int" (eV 0)) (eNo (eIsi "bool" (eV 0)))))
def F_is_integer : FF := defF 1 1 b_is_integer
def b_is_number : FS :=
    (sRet (eAn (eCall F_is_integer [] (aC (eV 0) aN)) (eB geD (eV 0) (eC (.int 0)))))
def F_is_number : FF := defF 1 1 b_is_number
def b_is_name : FS :=
    (sSeq (sIf (tOr' (tNo (tTr (eIsi "str" (eV 0)))) (tNo (tB' (eCh leD leD (eC (.int 1)) (eCb lenD (aC (eV 0) aN)) (eC (.int 8)))))) (sRet (eC (.bool false))) sNil)
    (sRet (eCb allD (aC (eLc (iE (eV 0)) (gN 1) tYs (eB inD (eV 1) (eC (.str "abcdefghijklmnopqrstuvwxyz"))) [1]) aN))))
def F_is_name : FF := defF 2 1 b_is_name
def b_is_remark : FS :=
    (sRet (eCall F_is_name [] (aC (eV 0) aN)))
def F_is_remark : FF := defF 1 1 b_is_remark
def b_is_place : FS :=
    (sRet (eAn (eIsi "tuple" (eV 0)) (eCb allD (aC (eLc (iE (eV 0)) (gN 1) tYs (eCall F_is_number [] (aC (eV 1) aN)) [1]) aN))))
def F_is_place : FF := defF 2 1 b_is_place
def b_places_below : FS :=
    (sSeq (sAsg (eLstS aN) (gN 2))
    (sSeq (sAsg (eLstS (aC (eTup (aC (eV 1) (aC (eV 0) aN))) aN)) (gN 3))
    (sSeq (sWh (tB' (eB gtD (eCb lenD (aC (eV 3) aN)) (eC (.int 0))))
    (sSeq (sAsg (eLm0 ppL (eV 3)) (gT 2 (gC (gN 5) (gC (gN 6) gZ))))
    (sSeq (sExp (eLm apL (eV 2) (aC (eV 5) aN)))
    (sFor (iR3 (aC (eB subD (eCb lenD (aC (eB ixD (eV 6) (eC (.int 2))) aN)) (eC (.int 1))) (aC (eU negD (eC (.int 1))) (aC (eU negD (eC (.int 1))) aN)))) (gN 4)
    (sExp (eLm apL (eV 3) (aC (eTup (aC (eTup (aSt (eV 5) (aC (eV 4) aN))) (aC (eB ixD (eB ixD (eV 6) (eC (.int 2))) (eV 4)) aN))) aN)))))))
    (sRet (eFz (eV 2))))))
def F_places_below : FF := defF 7 2 b_places_below
def b_nodes_down : FS :=
    (sSeq (sAsg (eLstS aN) (gN 1))
    (sSeq (sAsg (eLstS (aC (eV 0) aN)) (gN 2))
    (sSeq (sWh (tB' (eB gtD (eCb lenD (aC (eV 2) aN)) (eC (.int 0))))
    (sSeq (sAsg (eLm0 ppL (eV 2)) (gN 3))
    (sSeq (sExp (eLm apL (eV 1) (aC (eV 3) aN)))
    (sExp (eExt (eV 2) (eB ixD (eV 3) (eC (.int 2))))))))
    (sRet (eFz (eV 1))))))
def F_nodes_down : FF := defF 4 1 b_nodes_down
def b_tree_by : FS :=
    (sSeq (sAsg (eLst aN) (gN 2))
    (sSeq (sFor (iR3 (aC (eB subD (eCb lenD (aC (eV 0) aN)) (eC (.int 1))) (aC (eU negD (eC (.int 1))) (aC (eU negD (eC (.int 1))) aN)))) (gN 3)
    (sSeq (sAsg (eB ixD (eV 0) (eV 3)) (gT 3 (gC (gN 6) (gC (gN 7) (gC (gN 8) gZ)))))
    (sSeq (sAsg (eB subD (eCb lenD (aC (eV 2) aN)) (eCb lenD (aC (eV 8) aN))) (gN 4))
    (sSeq (sAsg (eTup (aC (eB ixD (eV 1) (eV 3)) (aC (eV 7) (aC (eCb tupleD (aC (eSl (eV 2) (oS (eV 4)) oN) aN)) aN)))) (gN 5))
    (sAsg (eLst (aSt (eSl (eV 2) oN (oS (eV 4))) (aC (eV 5) aN))) (gN 2))))))
    (sRet (eB ixD (eV 2) (eC (.int 0))))))
def F_tree_by : FF := defF 9 2 b_tree_by
def b_places_of : FS :=
    (sRet (eCb tupleD (aC (eCall F_places_below [] (aC (eV 0) (aC (eTup aN) aN))) aN)))
def F_places_of : FF := defF 1 1 b_places_of
def b_has_place : FS :=
    (sSeq (sIf (tNo (tTr (eCall F_is_place [] (aC (eV 1) aN)))) (sRet (eC (.bool false))) sNil)
    (sSeq (sAsg (eV 0) (gN 2))
    (sSeq (sFor (iE (eV 1)) (gN 3)
    (sSeq (sIf (tB' (eB geD (eV 3) (eCb lenD (aC (eB ixD (eV 2) (eC (.int 2))) aN)))) (sRet (eC (.bool false))) sNil)
    (sAsg (eB ixD (eB ixD (eV 2) (eC (.int 2))) (eV 3)) (gN 2))))
    (sRet (eC (.bool true))))))
def F_has_place : FF := defF 4 2 b_has_place
def b_require_place : FS :=
    (sIf (tNo (tTr (eCall F_has_place [] (aC (eV 0) (aC (eV 1) aN))))) (fun _ _ => .no) sNil)
def F_require_place : FF := defF 2 2 b_require_place
def b_below : FS :=
    (sSeq (sAsg (eV 0) (gN 2))
    (sSeq (sFor (iE (eV 1)) (gN 3)
    (sAsg (eB ixD (eB ixD (eV 2) (eC (.int 2))) (eV 3)) (gN 2)))
    (sRet (eV 2))))
def F_below : FF := defF 4 2 b_below
def b_nodes_of : FGn :=
    (gSq (gFr (iE (eCall F_places_of [] (aC (eV 0) aN))) (gN 1)
    (gSq (gYd (eTup (aC (eV 1) (aC (eB ixD (eCall F_below [] (aC (eV 0) (aC (eV 1) aN))) (eC (.int 1))) aN))))
    gNil))
    gNil)
def F_nodes_of : List PyData → Option (List PyData) := genF 2 1 b_nodes_of
def b_node_at : FS :=
    (sSeq (sExp (eCall F_require_place [] (aC (eV 0) (aC (eV 1) aN))))
    (sRet (eCall F_below [] (aC (eV 0) (aC (eV 1) aN)))))
def F_node_at : FF := defF 2 2 b_node_at
def b_replaced : FS :=
    (sSeq (sAsg (eLstS (aC (eV 0) aN)) (gN 3))
    (sSeq (sFor (iE (eV 1)) (gN 4)
    (sExp (eLm apL (eV 3) (aC (eB ixD (eB ixD (eB ixD (eV 3) (eU negD (eC (.int 1)))) (eC (.int 2))) (eV 4)) aN))))
    (sSeq (sAsg (eV 2) (gN 5))
    (sSeq (sFor (iR3 (aC (eB subD (eCb lenD (aC (eV 1) aN)) (eC (.int 1))) (aC (eU negD (eC (.int 1))) (aC (eU negD (eC (.int 1))) aN)))) (gN 6)
    (sSeq (sAsg (eB ixD (eV 3) (eV 6)) (gT 3 (gC (gN 7) (gC (gN 8) (gC (gN 9) gZ)))))
    (sAsg (eTup (aC (eV 7) (aC (eV 8) (aC (eB addD (eB addD (eSl (eV 9) oN (oS (eB ixD (eV 1) (eV 6)))) (eTup (aC (eV 5) aN))) (eSl (eV 9) (oS (eB addD (eB ixD (eV 1) (eV 6)) (eC (.int 1)))) oN)) aN)))) (gN 5))))
    (sRet (eV 5))))))
def F_replaced : FF := defF 10 3 b_replaced
def b_with_tree : FS :=
    (sSeq (sExp (eCall F_require_place [] (aC (eV 0) (aC (eV 1) aN))))
    (sRet (eCall F_replaced [] (aC (eV 0) (aC (eV 1) (aC (eV 2) aN))))))
def F_with_tree : FF := defF 3 3 b_with_tree
def b_joined_notes : FS :=
    (sRet (eCb tupleD (aC (eSsc2 (iE (eV 0)) (gN 1) (iE (eV 1)) (gN 2) (eV 2) [1, 2] [2]) aN)))
def F_joined_notes : FF := defF 3 1 b_joined_notes
def b_with_notes : FS :=
    (sSeq (sAsg (eCall F_node_at [] (aC (eV 0) (aC (eV 1) aN))) (gT 3 (gC (gN 3) (gC (gN 4) (gC (gN 5) gZ)))))
    (sRet (eCall F_replaced [] (aC (eV 0) (aC (eV 1) (aC (eTup (aC (eCallV 5 F_joined_notes (aC (eV 2) aN)) (aC (eV 4) (aC (eV 5) aN)))) aN))))))
def F_with_notes : FF := defF 6 3 b_with_notes
def b_bare : FS :=
    (sSeq (sAsg (eCall F_nodes_down [] (aC (eV 0) aN)) (gN 1))
    (sRet (eCall F_tree_by [] (aC (eV 1) (aC (eLc (iE (eV 1)) (gN 2) tYs (eTup aN) [2]) aN)))))
def F_bare : FF := defF 3 1 b_bare
def b_size_of : FS :=
    (sRet (eCb lenD (aC (eCall F_nodes_down [] (aC (eV 0) aN)) aN)))
def F_size_of : FF := defF 1 1 b_size_of
def b_depth_of : FS :=
    (sRet (eB addD (eC (.int 1)) (eCb max1D (aC (eLc (iE (eCall F_places_of [] (aC (eV 0) aN))) (gN 1) tYs (eCb lenD (aC (eV 1) aN)) [1]) aN))))
def F_depth_of : FF := defF 2 1 b_depth_of
def b_notes_of : FS :=
    (sSeq (sAsg (eLstS aN) (gN 1))
    (sSeq (sFor (iE (eCall F_places_of [] (aC (eV 0) aN))) (gN 2)
    (sExp (eExt (eV 1) (eLc (iE (eB ixD (eCall F_below [] (aC (eV 0) (aC (eV 2) aN))) (eC (.int 0)))) (gN 3) tYs (eTup (aC (eV 2) (aC (eV 3) aN))) [3]))))
    (sRet (eCb tupleD (aC (eV 1) aN)))))
def F_notes_of : FF := defF 4 1 b_notes_of
def b_remarks_of : FS :=
    (sRet (eCallV 5 F_joined_notes (aC (eLc (iE (eCall F_notes_of [] (aC (eV 0) aN))) (gT 2 (gC (gN 1) (gC (gN 2) gZ))) (tTr (eCall F_is_remark [] (aC (eV 2) aN))) (eV 2) [1, 2]) aN)))
def F_remarks_of : FF := defF 3 1 b_remarks_of
def b__law_reader : FS :=
    (sRet (eDisp (((eC (.str "cells")), (eCb listD (aC (eSl (eV 0) oN (oS (eC (.int 63)))) aN))) :: (((eC (.str "spot")), (eC (.int 0))) :: (((eC (.str "rest")), (eC (.int 0))) :: (((eC (.str "calls")), (eC (.int 0))) :: []))))))
def F__law_reader : FF := defF 1 1 b__law_reader
def b__law_draw : FS :=
    (sSeq (sAsg (eB addD (eDg (eV 0) (eC (.str "calls"))) (eC (.int 1))) (gN 2))
    (sSeq (sDp (eV 0) (eC (.str "calls")) (eV 2))
    (sSeq (sIf (tB' (eB gtD (eDg (eV 0) (eC (.str "rest"))) (eC (.int 0)))) (sSeq (sAsg (eB modD (eCb toInt (aC (eDg (eV 0) (eC (.str "rest"))) aN)) (eV 1)) (gN 7))
    (sSeq (sDp (eV 0) (eC (.str "rest")) (eB fdvD (eDg (eV 0) (eC (.str "rest"))) (eV 1)))
    (sRet (eV 7)))) sNil)
    (sSeq (sAsg (eDg (eV 0) (eC (.str "spot"))) (gN 3))
    (sSeq (sDp (eV 0) (eC (.str "spot")) (eB addD (eV 3) (eC (.int 1))))
    (sSeq (sAsg (eDg (eV 0) (eC (.str "cells"))) (gN 4))
    (sSeq (sAsg (eIf (tB' (eB gtD (eCb lenD (aC (eV 4) aN)) (eC (.int 0)))) (eB ixD (eV 4) (eB modD (eCb toInt (aC (eV 3) aN)) (eCb lenD (aC (eV 4) aN)))) (eC (.int 17))) (gN 5))
    (sSeq (sIf (tAn (tB' (eB ltD (eV 3) (eCb lenD (aC (eV 4) aN)))) (tB' (eB geD (eV 5) (eB powD (eC (.int 10)) (eC (.int 18)))))) (sSeq (sDp (eV 0) (eC (.str "rest")) (eB fdvD (eV 5) (eV 1)))
    (sRet (eB modD (eCb toInt (aC (eV 5) aN)) (eV 1)))) sNil)
    (sSeq (sAsg (eB modD (eCb toInt (aC (eB powD (eB addD (eB addD (eB modD (eCb toInt (aC (eV 5) aN)) (eC (.int 2147483629))) (eB mulD (eC (.int 6101)) (eV 2))) (eC (.int 37))) (eC (.int 5))) aN)) (eC (.int 2147483647))) (gN 6))
    (sRet (eB modD (eCb toInt (aC (eB fdvD (eB modD (eCb toInt (aC (eB powD (eB addD (eV 6) (eB mulD (eB mulD (eC (.int 4159)) (eV 2)) (eV 2))) (eC (.int 5))) aN)) (eC (.int 2147483587))) (eC (.int 32))) aN)) (eV 1))))))))))))
def F__law_draw : FF := defF 8 2 b__law_draw
def b__law_some : FS :=
    (sSeq (sAsg (eLsS (aC (eV 1) aN)) (gN 4))
    (sSeq (sAsg (eB addD (eV 2) (eCall F__law_draw [] (aC (eV 0) (aC (eB addD (eB subD (eV 3) (eV 2)) (eC (.int 1))) aN)))) (gN 5))
    (sSeq (sWh (tB' (eB gtD (eCb lenD (aC (eV 4) aN)) (eV 5)))
    (sExp (eLm paL (eV 4) (aC (eCall F__law_draw [] (aC (eV 0) (aC (eCb lenD (aC (eV 4) aN)) aN))) aN))))
    (sRet (eCb sortLD (aC (eV 4) aN))))))
def F__law_some : FF := defF 6 4 b__law_some
def b__law_power : FS :=
    (sSeq (sAsg (eC (.int 1)) (gN 2))
    (sSeq (sFor (iR1 (aC (eV 1) aN)) (gN 3)
    (sAsg (eB mulD (eV 2) (eV 0)) (gN 2)))
    (sRet (eV 2))))
def F__law_power : FF := defF 4 2 b__law_power
def b__law_random_tongue : FS :=
    (sSeq (sAsg (eB ixD (eLst (aC (eC (.int 2)) (aC (eC (.int 2)) (aC (eC (.int 3)) (aC (eC (.int 1)) aN))))) (eCall F__law_draw [] (aC (eV 0) (aC (eC (.int 4)) aN)))) (gN 1))
    (sSeq (sAsg (eLstS aN) (gN 2))
    (sSeq (sFor (iE (eCall F__law_some [] (aC (eV 0) (aC (eLst (aC (eC (.str "and")) (aC (eC (.str "f")) (aC (eC (.str "no")) (aC (eC (.str "or")) (aC (eC (.str "top")) (aC (eC (.str "zzzzzzzz")) aN))))))) (aC (eC (.int 1)) (aC (eC (.int 6)) aN)))))) (gN 3)
    (sSeq (sAsg (eB ixD (eLst (aC (eC (.int 2)) (aC (eC (.int 1)) (aC (eC (.int 0)) (aC (eC (.int 2)) aN))))) (eCall F__law_draw [] (aC (eV 0) (aC (eC (.int 4)) aN)))) (gN 5))
    (sSeq (sAsg (eCall F__law_power [] (aC (eV 1) (aC (eV 5) aN))) (gN 6))
    (sExp (eLm apL (eV 2) (aC (eTup (aC (eV 3) (aC (eV 5) (aC (eCb tupleD (aC (eLc (iR1 (aC (eV 6) aN)) (gN 8) tYs (eCall F__law_draw [] (aC (eV 0) (aC (eV 1) aN))) [8]) aN)) aN)))) aN))))))
    (sSeq (sFz 2) (sSeq (sAsg (eCall F__law_some [] (aC (eV 0) (aC (eLst (aC (eC (.str "a")) (aC (eC (.str "x")) (aC (eC (.str "y")) aN)))) (aC (eC (.int 0)) (aC (eC (.int 3)) aN))))) (gN 4))
    (sSeq (sIf (tAn (tB' (eB eqL (eV 4) (eLst aN))) (tB' (eB eqL (eLc (iE (eV 2)) (gN 7) (tB' (eB eqD (eB ixD (eV 7) (eC (.int 1))) (eC (.int 0)))) (eV 7) [7]) (eLst aN)))) (sAsg (eLst (aC (eC (.str "x")) aN)) (gN 4)) sNil)
    (sRet (eTup (aC (eV 1) (aC (eCb tupleD (aC (eV 4) aN)) (aC (eCb tupleD (aC (eV 2) aN)) aN)))))))))))
def F__law_random_tongue : FF := defF 9 1 b__law_random_tongue
def b__law_random_notes : FS :=
    (sSeq (sAsg (eLst (aC (eC (.str "-a")) (aC (eC (.str "-idem")) (aC (eC (.str "=a")) (aC (eC (.str "=zzzzzzzz")) (aC (eC (.str "a")) (aC (eC (.str "odd")) (aC (eC (.str "why")) aN)))))))) (gN 1))
    (sSeq (sIf (tB' (eB eqD (eCall F__law_draw [] (aC (eV 0) (aC (eC (.int 2)) aN))) (eC (.int 0)))) (sRet (eTup aN)) sNil)
    (sRet (eCb tupleD (aC (eCall F__law_some [] (aC (eV 0) (aC (eV 1) (aC (eC (.int 0)) (aC (eC (.int 3)) aN))))) aN)))))
def F__law_random_notes : FF := defF 2 1 b__law_random_notes
def b__law_random_tree (g : FF) : FS :=
    (sSeq (sAsg (eB subD (eB ixD (eV 2) (eC (.int 0))) (eC (.int 1))) (gIx (eV 2) (eC (.int 0))))
    (sSeq (sAsg (eB addD (eCb listD (aC (eB ixD (eV 1) (eC (.int 1))) aN)) (eLc (iE (eB ixD (eV 1) (eC (.int 2)))) (gN 11) (tB' (eB eqD (eB ixD (eV 11) (eC (.int 1))) (eC (.int 0)))) (eB ixD (eV 11) (eC (.int 0))) [11])) (gN 3))
    (sSeq (sAsg (eLc (iE (eB ixD (eV 1) (eC (.int 2)))) (gN 11) (tB' (eCh ltD leD (eC (.int 0)) (eB ixD (eV 11) (eC (.int 1))) (eB ixD (eV 2) (eC (.int 0))))) (eV 11) [11]) (gN 4))
    (sSeq (sAsg (eCall F__law_random_notes [] (aC (eV 0) aN)) (gN 5))
    (sSeq (sIf (tOr' (tB' (eB eqL (eV 4) (eLst aN))) (tB' (eB eqD (eCall F__law_draw [] (aC (eV 0) (aC (eC (.int 4)) aN))) (eC (.int 0))))) (sRet (eTup (aC (eV 5) (aC (eB ixD (eV 3) (eCall F__law_draw [] (aC (eV 0) (aC (eCb lenD (aC (eV 3) aN)) aN)))) (aC (eTup aN) aN))))) sNil)
    (sSeq (sAsg (eB ixD (eV 4) (eCall F__law_draw [] (aC (eV 0) (aC (eCb lenD (aC (eV 4) aN)) aN)))) (gT 3 (gC (gN 8) (gC (gN 9) (gC (gN 10) gZ)))))
    (sSeq (sAsg (eB subD (eB ixD (eV 2) (eC (.int 0))) (eV 9)) (gIx (eV 2) (eC (.int 0))))
    (sSeq (sAsg (eLstS aN) (gN 6))
    (sSeq (sFor (iR1 (aC (eV 9) aN)) (gN 7)
    (sSeq (sAsg (eB addD (eB ixD (eV 2) (eC (.int 0))) (eC (.int 1))) (gIx (eV 2) (eC (.int 0))))
    (sExp (eLm apL (eV 6) (aC (eCall g [] (aC (eV 0) (aC (eV 1) (aC (eV 2) aN)))) aN)))))
    (sRet (eTup (aC (eV 5) (aC (eV 8) (aC (eCb tupleD (aC (eV 6) aN)) aN))))))))))))))
def F__law_random_tree : Nat → FF
  | 0 => fun _ _ => .no
  | l + 1 => defF 12 3 (b__law_random_tree (F__law_random_tree l))
def b__law_loose_tree (g : FF) : FS :=
    (sSeq (sAsg (eB subD (eB ixD (eV 1) (eC (.int 0))) (eC (.int 1))) (gIx (eV 1) (eC (.int 0))))
    (sSeq (sAsg (eCb min2D (aC (eB ixD (eV 1) (eC (.int 0))) (aC (eCall F__law_draw [] (aC (eV 0) (aC (eC (.int 4)) aN))) aN))) (gN 2))
    (sSeq (sAsg (eB ixD (eLst (aC (eC (.str "f")) (aC (eC (.str "x")) (aC (eC (.str "not")) (aC (eC (.str "zzzzzzzz")) (aC (eC (.str "a")) aN)))))) (eCall F__law_draw [] (aC (eV 0) (aC (eC (.int 5)) aN)))) (gN 3))
    (sSeq (sAsg (eCall F__law_random_notes [] (aC (eV 0) aN)) (gN 4))
    (sSeq (sAsg (eB subD (eB ixD (eV 1) (eC (.int 0))) (eV 2)) (gIx (eV 1) (eC (.int 0))))
    (sSeq (sAsg (eLstS aN) (gN 5))
    (sSeq (sFor (iR1 (aC (eV 2) aN)) (gN 6)
    (sSeq (sAsg (eB addD (eB ixD (eV 1) (eC (.int 0))) (eC (.int 1))) (gIx (eV 1) (eC (.int 0))))
    (sExp (eLm apL (eV 5) (aC (eCall g [] (aC (eV 0) (aC (eV 1) aN))) aN)))))
    (sRet (eTup (aC (eV 4) (aC (eV 3) (aC (eCb tupleD (aC (eV 5) aN)) aN))))))))))))
def F__law_loose_tree : Nat → FF
  | 0 => fun _ _ => .no
  | l + 1 => defF 7 2 (b__law_loose_tree (F__law_loose_tree l))
def b__law_fixed_trees : FS :=
    (sSeq (sAsg (eTup (aC (eTup (aC (eTup aN) (aC (eC (.str "x")) (aC (eTup aN) aN)))) (aC (eTup (aC (eTup aN) (aC (eC (.str "no")) (aC (eTup aN) aN)))) aN))) (gT 2 (gC (gN 5) (gC (gN 6) gZ))))
    (sSeq (sAsg (eTup (aC (eTup (aC (eC (.str "odd")) aN)) (aC (eC (.str "x")) (aC (eTup aN) aN)))) (gN 0))
    (sSeq (sAsg (eTup (aC (eTup (aC (eC (.str "why")) aN)) (aC (eC (.str "and")) (aC (eTup (aC (eTup (aC (eTup aN) (aC (eC (.str "or")) (aC (eTup (aC (eV 5) (aC (eV 6) aN))) aN)))) (aC (eTup (aC (eTup aN) (aC (eC (.str "or")) (aC (eTup (aC (eV 0) (aC (eV 6) aN))) aN)))) aN))) aN)))) (gN 1))
    (sSeq (sAsg (eTup (aC (eTup (aC (eC (.str "-a")) (aC (eC (.str "=a")) (aC (eC (.str "a")) aN)))) (aC (eC (.str "x")) (aC (eTup aN) aN)))) (gN 2))
    (sSeq (sFor (iR1 (aC (eC (.int 9)) aN)) (gN 3)
    (sAsg (eTup (aC (eIf (tB' (eB eqD (eV 3) (eC (.int 4)))) (eTup (aC (eC (.str "=b")) aN)) (eTup aN)) (aC (eC (.str "not")) (aC (eTup (aC (eV 2) aN)) aN)))) (gN 2)))
    (sSeq (sAsg (eTup (aC (eTup aN) (aC (eC (.str "f")) (aC (eTup (aC (eV 5) (aC (eV 0) (aC (eTup (aC (eTup aN) (aC (eC (.str "g")) (aC (eTup aN) aN)))) (aC (eTup (aC (eTup (aC (eC (.str "a")) (aC (eC (.str "b")) (aC (eC (.str "c")) aN)))) (aC (eC (.str "h")) (aC (eTup (aC (eV 5) aN)) aN)))) (aC (eV 5) (aC (eV 6) aN))))))) aN)))) (gN 4))
    (sRet (eLstS (aC (eV 1) (aC (eV 5) (aC (eTup (aC (eTup (aC (eC (.str "-idem")) (aC (eC (.str "=no")) (aC (eC (.str "why")) aN)))) (aC (eC (.str "no")) (aC (eTup aN) aN)))) (aC (eV 2) (aC (eV 4) aN)))))))))))))
def F__law_fixed_trees : FF := defF 7 0 b__law_fixed_trees
def b__law_check_place : FS :=
    (sSeq (sAsg (eTup (aC (eCall F_node_at [] (aC (eV 0) (aC (eV 1) aN))) (aC (eCall F_with_tree [] (aC (eV 0) (aC (eV 1) (aC (eV 2) aN)))) aN))) (gT 2 (gC (gN 6) (gC (gN 7) gZ))))
    (sSeq (sIf (tOr' (tB' (eB neD (eCall F_node_at [] (aC (eV 7) (aC (eV 1) aN))) (eV 2))) (tOr' (tB' (eB neD (eCall F_with_tree [] (aC (eV 0) (aC (eV 1) (aC (eV 6) aN)))) (eV 0))) (tB' (eB neD (eCall F_with_tree [] (aC (eV 7) (aC (eV 1) (aC (eV 6) aN)))) (eV 0))))) (sRet (eC (.bool false))) sNil)
    (sSeq (sIf (tOr' (tB' (eB neD (eCall F_size_of [] (aC (eV 7) aN)) (eB addD (eB subD (eCall F_size_of [] (aC (eV 0) aN)) (eCall F_size_of [] (aC (eV 6) aN))) (eCall F_size_of [] (aC (eV 2) aN))))) (tB' (eB neD (eV 6) (eCall F_node_at [] (aC (eV 0) (aC (eV 1) aN)))))) (sRet (eC (.bool false))) sNil)
    (sSeq (sAsg (eLc (iE (eCall F_places_of [] (aC (eV 0) aN))) (gN 8) (tB' (eB eqD (eSl (eV 8) oN (oS (eCb lenD (aC (eV 1) aN)))) (eV 1))) (eV 8) [8]) (gN 3))
    (sSeq (sIf (tB' (eB neD (eV 3) (eLc (iE (eCall F_places_of [] (aC (eV 6) aN))) (gN 8) tYs (eB addD (eV 1) (eV 8)) [8]))) (sRet (eC (.bool false))) sNil)
    (sSeq (sIf (tB' (eB neD (eLc (iE (eV 3)) (gN 8) tYs (eCall F_node_at [] (aC (eV 0) (aC (eV 8) aN))) [8]) (eLc (iE (eV 3)) (gN 8) tYs (eCall F_node_at [] (aC (eV 6) (aC (eSl (eV 8) (oS (eCb lenD (aC (eV 1) aN))) oN) aN))) [8]))) (sRet (eC (.bool false))) sNil)
    (sSeq (sAsg (eLc (iE (eCall F_places_of [] (aC (eV 0) aN))) (gN 8) (tB' (eB neD (eSl (eV 8) oN (oS (eCb lenD (aC (eV 1) aN)))) (eV 1))) (eV 8) [8]) (gN 4))
    (sSeq (sIf (tB' (eB neD (eV 4) (eLc (iE (eCall F_places_of [] (aC (eV 7) aN))) (gN 8) (tB' (eB neD (eSl (eV 8) oN (oS (eCb lenD (aC (eV 1) aN)))) (eV 1))) (eV 8) [8]))) (sRet (eC (.bool false))) sNil)
    (sSeq (sAsg (eLc (iE (eCall F_notes_of [] (aC (eV 7) aN))) (gN 9) (tB' (eB neD (eSl (eB ixD (eV 9) (eC (.int 0))) oN (oS (eCb lenD (aC (eV 1) aN)))) (eV 1))) (eV 9) [9]) (gN 5))
    (sSeq (sIf (tB' (eB neD (eV 5) (eLc (iE (eCall F_notes_of [] (aC (eV 0) aN))) (gN 9) (tB' (eB neD (eSl (eB ixD (eV 9) (eC (.int 0))) oN (oS (eCb lenD (aC (eV 1) aN)))) (eV 1))) (eV 9) [9]))) (sRet (eC (.bool false))) sNil)
    (sRet (eB eqD (eCall F_bare [] (aC (eV 7) aN)) (eCall F_with_tree [] (aC (eCall F_bare [] (aC (eV 0) aN)) (aC (eV 1) (aC (eCall F_bare [] (aC (eV 2) aN)) aN))))))))))))))))
def F__law_check_place : FF := defF 10 3 b__law_check_place
def b__law_check_notes : FS :=
    (sSeq (sAsg (eCall F_with_notes [] (aC (eV 0) (aC (eV 1) (aC (eTup (aC (eC (.str "why")) (aC (eC (.str "=b")) (aC (eC (.str "why")) (aC (eC (.str "-b")) aN))))) aN)))) (gN 2))
    (sSeq (sAsg (eLc (iE (eCall F_notes_of [] (aC (eV 2) aN))) (gN 6) (tB' (eB eqD (eB ixD (eV 6) (eC (.int 0))) (eV 1))) (eV 6) [6]) (gN 3))
    (sSeq (sIf (tOr' (tB' (eB neD (eV 3) (eLst (aC (eTup (aC (eV 1) (aC (eC (.str "-b")) aN))) (aC (eTup (aC (eV 1) (aC (eC (.str "=b")) aN))) (aC (eTup (aC (eV 1) (aC (eC (.str "why")) aN))) aN)))))) (tB' (eB neD (eCall F_bare [] (aC (eV 2) aN)) (eCall F_bare [] (aC (eV 0) aN))))) (sRet (eC (.bool false))) sNil)
    (sSeq (sAsg (eLc (iE (eCall F_notes_of [] (aC (eV 0) aN))) (gN 6) (tB' (eB neD (eB ixD (eV 6) (eC (.int 0))) (eV 1))) (eV 6) [6]) (gN 4))
    (sSeq (sIf (tB' (eB neD (eLc (iE (eCall F_notes_of [] (aC (eV 2) aN))) (gN 6) (tB' (eB neD (eB ixD (eV 6) (eC (.int 0))) (eV 1))) (eV 6) [6]) (eV 4))) (sRet (eC (.bool false))) sNil)
    (sSeq (sAsg (eCb tupleD (aC (eLc (iE (eCall F_notes_of [] (aC (eV 0) aN))) (gT 2 (gC (gN 7) (gC (gN 8) gZ))) (tB' (eB eqD (eV 7) (eV 1))) (eV 8) [7, 8]) aN)) (gN 5))
    (sSeq (sIf (tOr' (tB' (eB neD (eCall F_with_notes [] (aC (eV 2) (aC (eV 1) (aC (eB addD (eU revD (eV 5)) (eV 5)) aN)))) (eV 0))) (tB' (eB neD (eCall F_with_notes [] (aC (eV 2) (aC (eV 1) (aC (eTup aN) aN)))) (eCall F_with_notes [] (aC (eV 0) (aC (eV 1) (aC (eTup aN) aN))))))) (sRet (eC (.bool false))) sNil)
    (sRet (eB eqD (eCall F_remarks_of [] (aC (eV 2) aN)) (eCb tupleD (aC (eCb sosD (aC (eLc (iE (eCall F_notes_of [] (aC (eV 2) aN))) (gT 2 (gC (gN 7) (gC (gN 8) gZ))) (tB' (eB niD (eB ixD (eV 8) (eC (.int 0))) (eC (.str "-=")))) (eV 8) [7, 8]) aN)) aN)))))))))))
def F__law_check_notes : FF := defF 9 2 b__law_check_notes
def b__law_check_two : FS :=
    (sSeq (sIf (tB' (eB eqD (eSl (eV 2) oN (oS (eCb lenD (aC (eV 1) aN)))) (eV 1))) (sRet (eB eqD (eCall F_with_tree [] (aC (eCall F_with_tree [] (aC (eV 0) (aC (eV 2) (aC (eV 4) aN)))) (aC (eV 1) (aC (eV 3) aN)))) (eCall F_with_tree [] (aC (eV 0) (aC (eV 1) (aC (eV 3) aN)))))) sNil)
    (sSeq (sIf (tB' (eB eqD (eSl (eV 1) oN (oS (eCb lenD (aC (eV 2) aN)))) (eV 2))) (sRet (eC (.bool true))) sNil)
    (sSeq (sAsg (eCall F_with_tree [] (aC (eCall F_with_tree [] (aC (eV 0) (aC (eV 1) (aC (eV 3) aN)))) (aC (eV 2) (aC (eV 4) aN)))) (gN 5))
    (sRet (eAn (eB eqD (eV 5) (eCall F_with_tree [] (aC (eCall F_with_tree [] (aC (eV 0) (aC (eV 2) (aC (eV 4) aN)))) (aC (eV 1) (aC (eV 3) aN))))) (eB eqD (eCall F_node_at [] (aC (eV 5) (aC (eV 1) aN))) (eV 3)))))))
def F__law_check_two : FF := defF 6 5 b__law_check_two
def b_law : FS :=
    (sSeq (sAsg (eCall F__law_reader [] (aC (eV 0) aN)) (gN 1))
    (sSeq (sAsg (eCall F__law_fixed_trees [] aN) (gN 2))
    (sSeq (sFor (iR1 (aC (eC (.int 4)) aN)) (gN 3)
    (sSeq (sExp (eLm apL (eV 2) (aC (eCall (F__law_random_tree 14) [] (aC (eV 1) (aC (eCall F__law_random_tongue [] (aC (eV 1) aN)) (aC (eLstS (aC (eB addD (eC (.int 1)) (eCall F__law_draw [] (aC (eV 1) (aC (eC (.int 12)) aN)))) aN)) aN)))) aN)))
    (sExp (eLm apL (eV 2) (aC (eCall (F__law_loose_tree 14) [] (aC (eV 1) (aC (eLstS (aC (eB addD (eC (.int 1)) (eCall F__law_draw [] (aC (eV 1) (aC (eC (.int 12)) aN)))) aN)) aN))) aN)))))
    (sSeq (sFz 2) (sSeq (sFor (iE (eV 2)) (gN 4)
    (sSeq (sPar 6 7 (aC (eCall F_places_of [] (aC (eV 4) aN)) (aC (eB ixD (eV 2) (eCall F__law_draw [] (aC (eV 1) (aC (eCb lenD (aC (eV 2) aN)) aN)))) aN)))
    (sSeq (sIf (tOr' (tB' (eB neD (eLc (iGen F_nodes_of (aC (eV 4) aN)) (gN 10) tYs (eB ixD (eV 10) (eC (.int 0))) [10]) (eCb listD (aC (eV 6) aN)))) (tB' (eB neD (eCall F_size_of [] (aC (eV 4) aN)) (eCb lenD (aC (eV 6) aN))))) (sRet (eC (.bool false))) sNil)
    (sSeq (sIf (tOr' (tB' (eB neD (eCall F_depth_of [] (aC (eV 4) aN)) (eB addD (eC (.int 1)) (eCb max1D (aC (eLc (iE (eV 6)) (gN 5) tYs (eCb lenD (aC (eV 5) aN)) [5]) aN))))) (tB' (eB neD (eCall F_places_of [] (aC (eCall F_bare [] (aC (eV 4) aN)) aN)) (eV 6)))) (sRet (eC (.bool false))) sNil)
    (sSeq (sIf (tB' (eB neD (eLc (iGen F_nodes_of (aC (eCall F_bare [] (aC (eV 4) aN)) aN)) (gN 10) tYs (eV 10) [10]) (eLc (iGen F_nodes_of (aC (eV 4) aN)) (gN 10) tYs (eV 10) [10]))) (sRet (eC (.bool false))) sNil)
    (sSeq (sIf (tOr' (tB' (eB neD (eCall F_bare [] (aC (eCall F_bare [] (aC (eV 4) aN)) aN)) (eCall F_bare [] (aC (eV 4) aN)))) (tOr' (tB' (eB neD (eCall F_notes_of [] (aC (eCall F_bare [] (aC (eV 4) aN)) aN)) (eTup aN))) (tB' (eB neD (eCall F_remarks_of [] (aC (eCall F_bare [] (aC (eV 4) aN)) aN)) (eTup aN))))) (sRet (eC (.bool false))) sNil)
    (sFor (iE (eV 6)) (gN 5)
    (sSeq (sIf (tOr' (tNo (tTr (eCall F__law_check_place [] (aC (eV 4) (aC (eV 5) (aC (eV 7) aN)))))) (tNo (tTr (eCall F__law_check_notes [] (aC (eV 4) (aC (eV 5) aN)))))) (sRet (eC (.bool false))) sNil)
    (sSeq (sPar 8 9 (aC (eB ixD (eV 6) (eCall F__law_draw [] (aC (eV 1) (aC (eCb lenD (aC (eV 6) aN)) aN)))) (aC (eB ixD (eV 2) (eCall F__law_draw [] (aC (eV 1) (aC (eCb lenD (aC (eV 2) aN)) aN)))) aN)))
    (sIf (tNo (tTr (eCall F__law_check_two [] (aC (eV 4) (aC (eV 5) (aC (eV 8) (aC (eV 7) (aC (eV 9) aN)))))))) (sRet (eC (.bool false))) sNil))))))))))
    (sRet (eC (.bool true))))))))
def F_law : FF := defF 11 1 b_law
section
variable {P : Program} {w : World} {K : PySem.W.Frag} {mg : Str → Option Value} {base : Heap}
theorem sc_is_integer : FnScope N_is_integer P_is_integer (defScope s_is_integer) := ⟨rfl, rfl, rfl, by decide +kernel, rfl, by decide +kernel, by decide +kernel⟩
theorem G_is_integer (T : Tx K mg) : Gx P w K mg base 1 T.d_is_integer F_is_integer := by
  refine gx_of _ sc_is_integer fun cdv A outer s H E hr hg => ?_
  have nd := sc_is_integer.nd
  have tk := tkX (P := P) (w := w) (K := K) (mg := mg) (base := base) (x := "is_integer") (st := s_is_integer) (N := N_is_integer) (f := T.d_is_integer.f) (cdv := cdv) (A := A) (outer := outer) (s := s) (H := H) (E := E)
  have po := poX (P := P) (w := w) (K := K) (mg := mg) (base := base) (x := "is_integer") (st := s_is_integer) (N := N_is_integer) (f := T.d_is_integer.f) (cdv := cdv) (A := A) (outer := outer) (s := s) (H := H) (E := E)
  exact (pssf_one (psf_ret (pf_and (pf_isi (T := "int") (pf_var 0) (by rfl) T.b_isinstance (by rfl) T.b_int (by decide +kernel)) (pf_one (pf_not (pf_isi (T := "bool") (pf_var 0) (by rfl) T.b_isinstance (by rfl) T.b_bool (by decide +kernel)))))))
theorem sc_is_number : FnScope N_is_number P_is_number (defScope s_is_number) := ⟨rfl, rfl, rfl, by decide +kernel, rfl, by decide +kernel, by decide +kernel⟩
theorem G_is_number (T : Tx K mg) : Gx P w K mg base 2 T.d_is_number F_is_number := by
  have G_is_integer := G_is_integer (P := P) (w := w) (base := base) T
  refine gx_of _ sc_is_number fun cdv A outer s H E hr hg => ?_
  have nd := sc_is_number.nd
  have tk := tkX (P := P) (w := w) (K := K) (mg := mg) (base := base) (x := "is_number") (st := s_is_number) (N := N_is_number) (f := T.d_is_number.f) (cdv := cdv) (A := A) (outer := outer) (s := s) (H := H) (E := E)
  have po := poX (P := P) (w := w) (K := K) (mg := mg) (base := base) (x := "is_number") (st := s_is_number) (N := N_is_number) (f := T.d_is_number.f) (cdv := cdv) (A := A) (outer := outer) (s := s) (H := H) (E := E)
  exact (pssf_one (psf_ret (pf_and (pf_callR G_is_integer (hr.mono (by decide)) hg (by rfl) tk (paf_cons (pf_var 0) paf_nil)) (pf_one (pf_cmp op_geD (pf_var 0) pf_int)))))
theorem sc_is_name : FnScope N_is_name P_is_name (defScope s_is_name) := ⟨rfl, rfl, rfl, by decide +kernel, rfl, by decide +kernel, by decide +kernel⟩
theorem G_is_name (T : Tx K mg) : Gx P w K mg base 1 T.d_is_name F_is_name := by
  refine gx_of _ sc_is_name fun cdv A outer s H E hr hg => ?_
  have nd := sc_is_name.nd
  have tk := tkX (P := P) (w := w) (K := K) (mg := mg) (base := base) (x := "is_name") (st := s_is_name) (N := N_is_name) (f := T.d_is_name.f) (cdv := cdv) (A := A) (outer := outer) (s := s) (H := H) (E := E)
  have po := poX (P := P) (w := w) (K := K) (mg := mg) (base := base) (x := "is_name") (st := s_is_name) (N := N_is_name) (f := T.d_is_name.f) (cdv := cdv) (A := A) (outer := outer) (s := s) (H := H) (E := E)
  exact (pssf_cons (psf_if (ptf_w (pwf_or (ptf_not (ptf_tru (pf_isi (T := "str") (pf_var 0) (by rfl) T.b_isinstance (by rfl) T.b_str (by decide +kernel)))) (pwf_or1 (ptf_not (ptf_chain op_leD op_leD pf_int (pf_callB call_lenX (by rfl) T.b_len (by decide +kernel) (paf_cons (pf_var 0) paf_nil)) (pf_gint (by rfl) T.c_LONGEST_NAME.2)))))) (pssf_one (psf_ret pf_bl)) pssf_nil)
    (pssf_one (psf_ret (pf_callB (call_allX rfl) (by rfl) T.b_all (by decide +kernel) (paf_cons (pf_lc (own := [("char", 1)]) rfl nd (pif_any (pf_var 0)) (blkOk_by (own := [("char", 1)]) (N := N_is_name) (sc := defScope s_is_name) (by decide +kernel)) (fun _ _ _ _ _ => (pgf_name (i := 1) nd rfl (by first | exact Or.inl rfl | exact Or.inr rfl))) (fun _ _ _ _ _ => ptsf_nil) (fun _ _ _ _ _ => (pf_cmp (op_inX (hu65 hr)) (pf_var 1) (pf_gstr (by rfl) T.c_LETTERS.2)))) paf_nil)))))
theorem sc_is_remark : FnScope N_is_remark P_is_remark (defScope s_is_remark) := ⟨rfl, rfl, rfl, by decide +kernel, rfl, by decide +kernel, by decide +kernel⟩
theorem G_is_remark (T : Tx K mg) : Gx P w K mg base 2 T.d_is_remark F_is_remark := by
  have G_is_name := G_is_name (P := P) (w := w) (base := base) T
  refine gx_of _ sc_is_remark fun cdv A outer s H E hr hg => ?_
  have nd := sc_is_remark.nd
  have tk := tkX (P := P) (w := w) (K := K) (mg := mg) (base := base) (x := "is_remark") (st := s_is_remark) (N := N_is_remark) (f := T.d_is_remark.f) (cdv := cdv) (A := A) (outer := outer) (s := s) (H := H) (E := E)
  have po := poX (P := P) (w := w) (K := K) (mg := mg) (base := base) (x := "is_remark") (st := s_is_remark) (N := N_is_remark) (f := T.d_is_remark.f) (cdv := cdv) (A := A) (outer := outer) (s := s) (H := H) (E := E)
  exact (pssf_one (psf_ret (pf_callR G_is_name (hr.mono (by decide)) hg (by rfl) tk (paf_cons (pf_var 0) paf_nil))))
theorem sc_is_place : FnScope N_is_place P_is_place (defScope s_is_place) := ⟨rfl, rfl, rfl, by decide +kernel, rfl, by decide +kernel, by decide +kernel⟩
theorem G_is_place (T : Tx K mg) : Gx P w K mg base 3 T.d_is_place F_is_place := by
  have G_is_number := G_is_number (P := P) (w := w) (base := base) T
  refine gx_of _ sc_is_place fun cdv A outer s H E hr hg => ?_
  have nd := sc_is_place.nd
  have tk := tkX (P := P) (w := w) (K := K) (mg := mg) (base := base) (x := "is_place") (st := s_is_place) (N := N_is_place) (f := T.d_is_place.f) (cdv := cdv) (A := A) (outer := outer) (s := s) (H := H) (E := E)
  have po := poX (P := P) (w := w) (K := K) (mg := mg) (base := base) (x := "is_place") (st := s_is_place) (N := N_is_place) (f := T.d_is_place.f) (cdv := cdv) (A := A) (outer := outer) (s := s) (H := H) (E := E)
  exact (pssf_one (psf_ret (pf_and (pf_isi (T := "tuple") (pf_var 0) (by rfl) T.b_isinstance (by rfl) T.b_tuple (by decide +kernel)) (pf_one (pf_callB (call_allX rfl) (by rfl) T.b_all (by decide +kernel) (paf_cons (pf_lc (own := [("one", 1)]) rfl nd (pif_any (pf_var 0)) (blkOk_by (own := [("one", 1)]) (N := N_is_place) (sc := defScope s_is_place) (by decide +kernel)) (fun _ _ _ _ _ => (pgf_name (i := 1) nd rfl (by first | exact Or.inl rfl | exact Or.inr rfl))) (fun _ _ _ _ _ => ptsf_nil) (fun _ _ _ _ _ => (pf_callR G_is_number (hr.mono (by decide)) hg (by rfl) takesW0 (paf_cons (pf_var 1) paf_nil)))) paf_nil))))))
theorem sc_places_below : FnScope N_places_below P_places_below (defScope s_places_below) := ⟨rfl, rfl, rfl, by decide +kernel, rfl, by decide +kernel, by decide +kernel⟩
theorem G_places_below (T : Tx K mg) : Gx P w K mg base 1 T.d_places_below F_places_below := by
  refine gx_of _ sc_places_below fun cdv A outer s H E hr hg => ?_
  have nd := sc_places_below.nd
  have tk := tkX (P := P) (w := w) (K := K) (mg := mg) (base := base) (x := "places_below") (st := s_places_below) (N := N_places_below) (f := T.d_places_below.f) (cdv := cdv) (A := A) (outer := outer) (s := s) (H := H) (E := E)
  have po := poX (P := P) (w := w) (K := K) (mg := mg) (base := base) (x := "places_below") (st := s_places_below) (N := N_places_below) (f := T.d_places_below.f) (cdv := cdv) (A := A) (outer := outer) (s := s) (H := H) (E := E)
  exact (pssf_cons (psf_set (i := 2) nd rfl (by first | exact Or.inl rfl | exact Or.inr rfl) (pf_lstS paf_nil))
    (pssf_cons (psf_set (i := 3) nd rfl (by first | exact Or.inl rfl | exact Or.inr rfl) (pf_lstS (paf_cons (pf_tup (paf_cons (pf_var 1) (paf_cons (pf_var 0) paf_nil))) paf_nil)))
    (pssf_cons (psf_while po (ptf_cmp op_gtD (pf_callB call_lenX (by rfl) T.b_len (by decide +kernel) (paf_cons (pf_var 3) paf_nil)) pf_int)
    (pssf_cons (psf_asg (pf_lm0 PySem.F.slot_list_pop PySem.F.type_list_pop mtL_pop (pf_var 3)) (pgf_tup rfl (pgsf_cons (pgf_name (i := 5) nd rfl (by first | exact Or.inl rfl | exact Or.inr rfl)) (pgsf_cons (pgf_name (i := 6) nd rfl (by first | exact Or.inl rfl | exact Or.inr rfl)) pgsf_nil))))
    (pssf_cons (psf_expr (pf_lm PySem.F.slot_list_append PySem.F.type_list_append mtL_append (pf_var 2) (paf_cons (pf_var 5) paf_nil)))
    (pssf_one (psf_for po rfl (pif_range3 (by rfl) T.b_range (paf_cons (pf_bin op_subD (pf_callB call_lenX (by rfl) T.b_len (by decide +kernel) (paf_cons (pf_ix (pf_var 6) pf_int) paf_nil)) pf_int) (paf_cons (pf_un un_negD pf_int) (paf_cons (pf_un un_negD pf_int) paf_nil)))) (pgf_name (i := 4) nd rfl (by first | exact Or.inl rfl | exact Or.inr rfl))
    (pssf_one (psf_expr (pf_lm PySem.F.slot_list_append PySem.F.type_list_append mtL_append (pf_var 3) (paf_cons (pf_tup (paf_cons (pf_tup (paf_star (pf_var 5) (paf_cons (pf_var 4) paf_nil))) (paf_cons (pf_ix (pf_ix (pf_var 6) pf_int) (pf_var 4)) paf_nil))) paf_nil)))))))))
    (pssf_one (psf_ret (pf_fz (pf_var 2)))))))
theorem sc_nodes_down : FnScope N_nodes_down P_nodes_down (defScope s_nodes_down) := ⟨rfl, rfl, rfl, by decide +kernel, rfl, by decide +kernel, by decide +kernel⟩
theorem G_nodes_down (T : Tx K mg) : Gx P w K mg base 1 T.d_nodes_down F_nodes_down := by
  refine gx_of _ sc_nodes_down fun cdv A outer s H E hr hg => ?_
  have nd := sc_nodes_down.nd
  have tk := tkX (P := P) (w := w) (K := K) (mg := mg) (base := base) (x := "nodes_down") (st := s_nodes_down) (N := N_nodes_down) (f := T.d_nodes_down.f) (cdv := cdv) (A := A) (outer := outer) (s := s) (H := H) (E := E)
  have po := poX (P := P) (w := w) (K := K) (mg := mg) (base := base) (x := "nodes_down") (st := s_nodes_down) (N := N_nodes_down) (f := T.d_nodes_down.f) (cdv := cdv) (A := A) (outer := outer) (s := s) (H := H) (E := E)
  exact (pssf_cons (psf_set (i := 1) nd rfl (by first | exact Or.inl rfl | exact Or.inr rfl) (pf_lstS paf_nil))
    (pssf_cons (psf_set (i := 2) nd rfl (by first | exact Or.inl rfl | exact Or.inr rfl) (pf_lstS (paf_cons (pf_var 0) paf_nil)))
    (pssf_cons (psf_while po (ptf_cmp op_gtD (pf_callB call_lenX (by rfl) T.b_len (by decide +kernel) (paf_cons (pf_var 2) paf_nil)) pf_int)
    (pssf_cons (psf_set (i := 3) nd rfl (by first | exact Or.inl rfl | exact Or.inr rfl) (pf_lm0 PySem.F.slot_list_pop PySem.F.type_list_pop mtL_pop (pf_var 2)))
    (pssf_cons (psf_expr (pf_lm PySem.F.slot_list_append PySem.F.type_list_append mtL_append (pf_var 1) (paf_cons (pf_var 3) paf_nil)))
    (pssf_one (psf_expr (pf_ext (pf_var 2) (pf_ix (pf_var 3) pf_int)))))))
    (pssf_one (psf_ret (pf_fz (pf_var 1)))))))
theorem sc_tree_by : FnScope N_tree_by P_tree_by (defScope s_tree_by) := ⟨rfl, rfl, rfl, by decide +kernel, rfl, by decide +kernel, by decide +kernel⟩
theorem G_tree_by (T : Tx K mg) : Gx P w K mg base 1 T.d_tree_by F_tree_by := by
  refine gx_of _ sc_tree_by fun cdv A outer s H E hr hg => ?_
  have nd := sc_tree_by.nd
  have tk := tkX (P := P) (w := w) (K := K) (mg := mg) (base := base) (x := "tree_by") (st := s_tree_by) (N := N_tree_by) (f := T.d_tree_by.f) (cdv := cdv) (A := A) (outer := outer) (s := s) (H := H) (E := E)
  have po := poX (P := P) (w := w) (K := K) (mg := mg) (base := base) (x := "tree_by") (st := s_tree_by) (N := N_tree_by) (f := T.d_tree_by.f) (cdv := cdv) (A := A) (outer := outer) (s := s) (H := H) (E := E)
  exact (pssf_cons (psf_set (i := 2) nd rfl (by first | exact Or.inl rfl | exact Or.inr rfl) (pf_lst paf_nil))
    (pssf_cons (psf_for po rfl (pif_range3 (by rfl) T.b_range (paf_cons (pf_bin op_subD (pf_callB call_lenX (by rfl) T.b_len (by decide +kernel) (paf_cons (pf_var 0) paf_nil)) pf_int) (paf_cons (pf_un un_negD pf_int) (paf_cons (pf_un un_negD pf_int) paf_nil)))) (pgf_name (i := 3) nd rfl (by first | exact Or.inl rfl | exact Or.inr rfl))
    (pssf_cons (psf_asg (pf_ix (pf_var 0) (pf_var 3)) (pgf_tup rfl (pgsf_cons (pgf_name (i := 6) nd rfl (by first | exact Or.inl rfl | exact Or.inr rfl)) (pgsf_cons (pgf_name (i := 7) nd rfl (by first | exact Or.inl rfl | exact Or.inr rfl)) (pgsf_cons (pgf_name (i := 8) nd rfl (by first | exact Or.inl rfl | exact Or.inr rfl)) pgsf_nil)))))
    (pssf_cons (psf_set (i := 4) nd rfl (by first | exact Or.inl rfl | exact Or.inr rfl) (pf_bin op_subD (pf_callB call_lenX (by rfl) T.b_len (by decide +kernel) (paf_cons (pf_var 2) paf_nil)) (pf_callB call_lenX (by rfl) T.b_len (by decide +kernel) (paf_cons (pf_var 8) paf_nil))))
    (pssf_cons (psf_set (i := 5) nd rfl (by first | exact Or.inl rfl | exact Or.inr rfl) (pf_tup (paf_cons (pf_ix (pf_var 1) (pf_var 3)) (paf_cons (pf_var 7) (paf_cons (pf_callTy call_tupleX (by rfl) T.b_tuple (by decide +kernel) (paf_cons (pf_slice (pf_var 2) (pof_some (pf_var 4)) pof_none) paf_nil)) paf_nil)))))
    (pssf_one (psf_set (i := 2) nd rfl (by first | exact Or.inl rfl | exact Or.inr rfl) (pf_lst (paf_star (pf_slice (pf_var 2) pof_none (pof_some (pf_var 4))) (paf_cons (pf_var 5) paf_nil)))))))))
    (pssf_one (psf_ret (pf_ix (pf_var 2) pf_int)))))
theorem sc_places_of : FnScope N_places_of P_places_of (defScope s_places_of) := ⟨rfl, rfl, rfl, by decide +kernel, rfl, by decide +kernel, by decide +kernel⟩
theorem G_places_of (T : Tx K mg) : Gx P w K mg base 2 T.d_places_of F_places_of := by
  have G_places_below := G_places_below (P := P) (w := w) (base := base) T
  refine gx_of _ sc_places_of fun cdv A outer s H E hr hg => ?_
  have nd := sc_places_of.nd
  have tk := tkX (P := P) (w := w) (K := K) (mg := mg) (base := base) (x := "places_of") (st := s_places_of) (N := N_places_of) (f := T.d_places_of.f) (cdv := cdv) (A := A) (outer := outer) (s := s) (H := H) (E := E)
  have po := poX (P := P) (w := w) (K := K) (mg := mg) (base := base) (x := "places_of") (st := s_places_of) (N := N_places_of) (f := T.d_places_of.f) (cdv := cdv) (A := A) (outer := outer) (s := s) (H := H) (E := E)
  exact (pssf_one (psf_ret (pf_callTy call_tupleX (by rfl) T.b_tuple (by decide +kernel) (paf_cons (pf_callR G_places_below (hr.mono (by decide)) hg (by rfl) tk (paf_cons (pf_var 0) (paf_cons (pf_tup paf_nil) paf_nil))) paf_nil))))
theorem sc_has_place : FnScope N_has_place P_has_place (defScope s_has_place) := ⟨rfl, rfl, rfl, by decide +kernel, rfl, by decide +kernel, by decide +kernel⟩
theorem G_has_place (T : Tx K mg) : Gx P w K mg base 4 T.d_has_place F_has_place := by
  have G_is_place := G_is_place (P := P) (w := w) (base := base) T
  refine gx_of _ sc_has_place fun cdv A outer s H E hr hg => ?_
  have nd := sc_has_place.nd
  have tk := tkX (P := P) (w := w) (K := K) (mg := mg) (base := base) (x := "has_place") (st := s_has_place) (N := N_has_place) (f := T.d_has_place.f) (cdv := cdv) (A := A) (outer := outer) (s := s) (H := H) (E := E)
  have po := poX (P := P) (w := w) (K := K) (mg := mg) (base := base) (x := "has_place") (st := s_has_place) (N := N_has_place) (f := T.d_has_place.f) (cdv := cdv) (A := A) (outer := outer) (s := s) (H := H) (E := E)
  exact (pssf_cons (psf_if (ptf_not (ptf_tru (pf_callR G_is_place (hr.mono (by decide)) hg (by rfl) tk (paf_cons (pf_var 1) paf_nil)))) (pssf_one (psf_ret pf_bl)) pssf_nil)
    (pssf_cons (psf_set (i := 2) nd rfl (by first | exact Or.inl rfl | exact Or.inr rfl) (pf_var 0))
    (pssf_cons (psf_for po rfl (pif_any (pf_var 1)) (pgf_name (i := 3) nd rfl (by first | exact Or.inl rfl | exact Or.inr rfl))
    (pssf_cons (psf_if (ptf_cmp op_geD (pf_var 3) (pf_callB call_lenX (by rfl) T.b_len (by decide +kernel) (paf_cons (pf_ix (pf_var 2) pf_int) paf_nil))) (pssf_one (psf_ret pf_bl)) pssf_nil)
    (pssf_one (psf_set (i := 2) nd rfl (by first | exact Or.inl rfl | exact Or.inr rfl) (pf_ix (pf_ix (pf_var 2) pf_int) (pf_var 3))))))
    (pssf_one (psf_ret pf_bl)))))
theorem sc_require_place : FnScope N_require_place P_require_place (defScope s_require_place) := ⟨rfl, rfl, rfl, by decide +kernel, rfl, by decide +kernel, by decide +kernel⟩
theorem G_require_place (T : Tx K mg) : Gx P w K mg base 5 T.d_require_place F_require_place := by
  have G_has_place := G_has_place (P := P) (w := w) (base := base) T
  refine gx_of _ sc_require_place fun cdv A outer s H E hr hg => ?_
  have nd := sc_require_place.nd
  have tk := tkX (P := P) (w := w) (K := K) (mg := mg) (base := base) (x := "require_place") (st := s_require_place) (N := N_require_place) (f := T.d_require_place.f) (cdv := cdv) (A := A) (outer := outer) (s := s) (H := H) (E := E)
  have po := poX (P := P) (w := w) (K := K) (mg := mg) (base := base) (x := "require_place") (st := s_require_place) (N := N_require_place) (f := T.d_require_place.f) (cdv := cdv) (A := A) (outer := outer) (s := s) (H := H) (E := E)
  exact (pssf_one (psf_if (ptf_not (ptf_tru (pf_callR G_has_place (hr.mono (by decide)) hg (by rfl) tk (paf_cons (pf_var 0) (paf_cons (pf_var 1) paf_nil))))) (pssf_one psf_no) pssf_nil))
theorem sc_below : FnScope N_below P_below (defScope s_below) := ⟨rfl, rfl, rfl, by decide +kernel, rfl, by decide +kernel, by decide +kernel⟩
theorem G_below (T : Tx K mg) : Gx P w K mg base 1 T.d_below F_below := by
  refine gx_of _ sc_below fun cdv A outer s H E hr hg => ?_
  have nd := sc_below.nd
  have tk := tkX (P := P) (w := w) (K := K) (mg := mg) (base := base) (x := "below") (st := s_below) (N := N_below) (f := T.d_below.f) (cdv := cdv) (A := A) (outer := outer) (s := s) (H := H) (E := E)
  have po := poX (P := P) (w := w) (K := K) (mg := mg) (base := base) (x := "below") (st := s_below) (N := N_below) (f := T.d_below.f) (cdv := cdv) (A := A) (outer := outer) (s := s) (H := H) (E := E)
  exact (pssf_cons (psf_set (i := 2) nd rfl (by first | exact Or.inl rfl | exact Or.inr rfl) (pf_var 0))
    (pssf_cons (psf_for po rfl (pif_any (pf_var 1)) (pgf_name (i := 3) nd rfl (by first | exact Or.inl rfl | exact Or.inr rfl))
    (pssf_one (psf_set (i := 2) nd rfl (by first | exact Or.inl rfl | exact Or.inr rfl) (pf_ix (pf_ix (pf_var 2) pf_int) (pf_var 3)))))
    (pssf_one (psf_ret (pf_var 2)))))
theorem sc_nodes_of : GScope N_nodes_of P_nodes_of (defScope s_nodes_of) := ⟨rfl, rfl, rfl, by decide +kernel, rfl, by decide +kernel, by decide +kernel⟩
theorem G_nodes_of (T : Tx K mg) : GnF P w K mg base 4 T.d_nodes_of.f T.d_nodes_of.fd P_nodes_of F_nodes_of := by
  have G_places_of := G_places_of (P := P) (w := w) (base := base) T
  have G_below := G_below (P := P) (w := w) (base := base) T
  refine gnf_of (k := 2) (N := N_nodes_of) T.d_nodes_of.fn sc_nodes_of (by decide +kernel) fun c e1 e2 e3 e4 e5 e6 e7 e8 e9 hr hg => ?_
  obtain ⟨P0, w0, K0, mg0, base0, NN, qual0, scope0, f0, cd0, outer0, A0, n0, pn0⟩ := c
  simp only at e1 e2 e3 e4 e5 e6 e7 e8 e9
  subst e1 e2 e3 e4 e5 e6 e7 e8 e9
  have nd := sc_nodes_of.nd
  exact (gjs_cons (gj_for (fun _ _ _ => (pif_any (pf_callR G_places_of (hr.mono (by decide)) hg (by rfl) takesW0 (paf_cons (pf_var 0) paf_nil)))) (fun _ _ _ => (pgf_name (i := 1) nd rfl (by first | exact Or.inl rfl | exact Or.inr rfl)))
    (gjs_cons (gj_yd (fun _ _ _ => (pf_tup (paf_cons (pf_var 1) (paf_cons (pf_ix (pf_callR G_below (hr.mono (by decide)) hg (by rfl) takesW0 (paf_cons (pf_var 0) (paf_cons (pf_var 1) paf_nil))) pf_int) paf_nil)))) rfl)
    gjs_nil app_nil) (app_sq (app_yd _) app_nil))
    gjs_nil app_nil)
theorem sc_node_at : FnScope N_node_at P_node_at (defScope s_node_at) := ⟨rfl, rfl, rfl, by decide +kernel, rfl, by decide +kernel, by decide +kernel⟩
theorem G_node_at (T : Tx K mg) : Gx P w K mg base 6 T.d_node_at F_node_at := by
  have G_require_place := G_require_place (P := P) (w := w) (base := base) T
  have G_below := G_below (P := P) (w := w) (base := base) T
  refine gx_of _ sc_node_at fun cdv A outer s H E hr hg => ?_
  have nd := sc_node_at.nd
  have tk := tkX (P := P) (w := w) (K := K) (mg := mg) (base := base) (x := "node_at") (st := s_node_at) (N := N_node_at) (f := T.d_node_at.f) (cdv := cdv) (A := A) (outer := outer) (s := s) (H := H) (E := E)
  have po := poX (P := P) (w := w) (K := K) (mg := mg) (base := base) (x := "node_at") (st := s_node_at) (N := N_node_at) (f := T.d_node_at.f) (cdv := cdv) (A := A) (outer := outer) (s := s) (H := H) (E := E)
  exact (pssf_cons (psf_expr (pf_callR G_require_place (hr.mono (by decide)) hg (by rfl) tk (paf_cons (pf_var 0) (paf_cons (pf_var 1) paf_nil))))
    (pssf_one (psf_ret (pf_callR G_below (hr.mono (by decide)) hg (by rfl) tk (paf_cons (pf_var 0) (paf_cons (pf_var 1) paf_nil))))))
theorem sc_replaced : FnScope N_replaced P_replaced (defScope s_replaced) := ⟨rfl, rfl, rfl, by decide +kernel, rfl, by decide +kernel, by decide +kernel⟩
theorem G_replaced (T : Tx K mg) : Gx P w K mg base 1 T.d_replaced F_replaced := by
  refine gx_of _ sc_replaced fun cdv A outer s H E hr hg => ?_
  have nd := sc_replaced.nd
  have tk := tkX (P := P) (w := w) (K := K) (mg := mg) (base := base) (x := "replaced") (st := s_replaced) (N := N_replaced) (f := T.d_replaced.f) (cdv := cdv) (A := A) (outer := outer) (s := s) (H := H) (E := E)
  have po := poX (P := P) (w := w) (K := K) (mg := mg) (base := base) (x := "replaced") (st := s_replaced) (N := N_replaced) (f := T.d_replaced.f) (cdv := cdv) (A := A) (outer := outer) (s := s) (H := H) (E := E)
  exact (pssf_cons (psf_set (i := 3) nd rfl (by first | exact Or.inl rfl | exact Or.inr rfl) (pf_lstS (paf_cons (pf_var 0) paf_nil)))
    (pssf_cons (psf_for po rfl (pif_any (pf_var 1)) (pgf_name (i := 4) nd rfl (by first | exact Or.inl rfl | exact Or.inr rfl))
    (pssf_one (psf_expr (pf_lm PySem.F.slot_list_append PySem.F.type_list_append mtL_append (pf_var 3) (paf_cons (pf_ix (pf_ix (pf_ix (pf_var 3) (pf_un un_negD pf_int)) pf_int) (pf_var 4)) paf_nil)))))
    (pssf_cons (psf_set (i := 5) nd rfl (by first | exact Or.inl rfl | exact Or.inr rfl) (pf_var 2))
    (pssf_cons (psf_for po rfl (pif_range3 (by rfl) T.b_range (paf_cons (pf_bin op_subD (pf_callB call_lenX (by rfl) T.b_len (by decide +kernel) (paf_cons (pf_var 1) paf_nil)) pf_int) (paf_cons (pf_un un_negD pf_int) (paf_cons (pf_un un_negD pf_int) paf_nil)))) (pgf_name (i := 6) nd rfl (by first | exact Or.inl rfl | exact Or.inr rfl))
    (pssf_cons (psf_asg (pf_ix (pf_var 3) (pf_var 6)) (pgf_tup rfl (pgsf_cons (pgf_name (i := 7) nd rfl (by first | exact Or.inl rfl | exact Or.inr rfl)) (pgsf_cons (pgf_name (i := 8) nd rfl (by first | exact Or.inl rfl | exact Or.inr rfl)) (pgsf_cons (pgf_name (i := 9) nd rfl (by first | exact Or.inl rfl | exact Or.inr rfl)) pgsf_nil)))))
    (pssf_one (psf_set (i := 5) nd rfl (by first | exact Or.inl rfl | exact Or.inr rfl) (pf_tup (paf_cons (pf_var 7) (paf_cons (pf_var 8) (paf_cons (pf_bin op_addD (pf_bin op_addD (pf_slice (pf_var 9) pof_none (pof_some (pf_ix (pf_var 1) (pf_var 6)))) (pf_tup (paf_cons (pf_var 5) paf_nil))) (pf_slice (pf_var 9) (pof_some (pf_bin op_addD (pf_ix (pf_var 1) (pf_var 6)) pf_int)) pof_none)) paf_nil))))))))
    (pssf_one (psf_ret (pf_var 5)))))))
theorem sc_with_tree : FnScope N_with_tree P_with_tree (defScope s_with_tree) := ⟨rfl, rfl, rfl, by decide +kernel, rfl, by decide +kernel, by decide +kernel⟩
theorem G_with_tree (T : Tx K mg) : Gx P w K mg base 6 T.d_with_tree F_with_tree := by
  have G_require_place := G_require_place (P := P) (w := w) (base := base) T
  have G_replaced := G_replaced (P := P) (w := w) (base := base) T
  refine gx_of _ sc_with_tree fun cdv A outer s H E hr hg => ?_
  have nd := sc_with_tree.nd
  have tk := tkX (P := P) (w := w) (K := K) (mg := mg) (base := base) (x := "with_tree") (st := s_with_tree) (N := N_with_tree) (f := T.d_with_tree.f) (cdv := cdv) (A := A) (outer := outer) (s := s) (H := H) (E := E)
  have po := poX (P := P) (w := w) (K := K) (mg := mg) (base := base) (x := "with_tree") (st := s_with_tree) (N := N_with_tree) (f := T.d_with_tree.f) (cdv := cdv) (A := A) (outer := outer) (s := s) (H := H) (E := E)
  exact (pssf_cons (psf_expr (pf_callR G_require_place (hr.mono (by decide)) hg (by rfl) tk (paf_cons (pf_var 0) (paf_cons (pf_var 1) paf_nil))))
    (pssf_one (psf_ret (pf_callR G_replaced (hr.mono (by decide)) hg (by rfl) tk (paf_cons (pf_var 0) (paf_cons (pf_var 1) (paf_cons (pf_var 2) paf_nil)))))))
theorem sc_joined_notes : FnScope N_joined_notes P_joined_notes (defScope s_joined_notes) := ⟨rfl, rfl, rfl, by decide +kernel, rfl, by decide +kernel, by decide +kernel⟩
theorem G_joined_notes (T : Tx K mg) : Gv P w K mg base 1 T.d_joined_notes F_joined_notes := by
  refine gv_of _ (by decide) sc_joined_notes fun cdv A outer s H E hr hg => ?_
  have nd := sc_joined_notes.nd
  have tk := tkX (P := P) (w := w) (K := K) (mg := mg) (base := base) (x := "joined_notes") (st := s_joined_notes) (N := N_joined_notes) (f := T.d_joined_notes.f) (cdv := cdv) (A := A) (outer := outer) (s := s) (H := H) (E := E)
  have po := poX (P := P) (w := w) (K := K) (mg := mg) (base := base) (x := "joined_notes") (st := s_joined_notes) (N := N_joined_notes) (f := T.d_joined_notes.f) (cdv := cdv) (A := A) (outer := outer) (s := s) (H := H) (E := E)
  exact (pssf_one (psf_ret (pf_callTy call_tupleX (by rfl) T.b_tuple (by decide +kernel) (paf_cons (pf_ssc2 (own := [("lot", 1), ("note", 2)]) (vs1 := [2]) rfl nd (by rfl) T.b_sorted (pif_any (pf_var 0)) (blkOk_by (own := [("lot", 1), ("note", 2)]) (N := N_joined_notes) (sc := defScope s_joined_notes) (by decide +kernel)) (fun _ _ _ _ _ => (pgf_name (i := 1) nd rfl (by first | exact Or.inl rfl | exact Or.inr rfl))) (fun _ _ _ _ _ => (pif_any (pf_var 1))) (fun _ _ _ _ _ => (pgf_name (i := 2) nd rfl (by first | exact Or.inl rfl | exact Or.inr rfl))) (fun _ _ _ _ _ => (pf_var 2))) paf_nil))))
theorem sc_with_notes : FnScope N_with_notes P_with_notes (defScope s_with_notes) := ⟨rfl, rfl, rfl, by decide +kernel, rfl, by decide +kernel, by decide +kernel⟩
theorem G_with_notes (T : Tx K mg) : Gx P w K mg base 7 T.d_with_notes F_with_notes := by
  have G_node_at := G_node_at (P := P) (w := w) (base := base) T
  have G_replaced := G_replaced (P := P) (w := w) (base := base) T
  have G_joined_notes := G_joined_notes (P := P) (w := w) (base := base) T
  refine gx_of _ sc_with_notes fun cdv A outer s H E hr hg => ?_
  have nd := sc_with_notes.nd
  have tk := tkX (P := P) (w := w) (K := K) (mg := mg) (base := base) (x := "with_notes") (st := s_with_notes) (N := N_with_notes) (f := T.d_with_notes.f) (cdv := cdv) (A := A) (outer := outer) (s := s) (H := H) (E := E)
  have po := poX (P := P) (w := w) (K := K) (mg := mg) (base := base) (x := "with_notes") (st := s_with_notes) (N := N_with_notes) (f := T.d_with_notes.f) (cdv := cdv) (A := A) (outer := outer) (s := s) (H := H) (E := E)
  exact (pssf_cons (psf_asg (pf_callR G_node_at (hr.mono (by decide)) hg (by rfl) tk (paf_cons (pf_var 0) (paf_cons (pf_var 1) paf_nil))) (pgf_tup rfl (pgsf_cons (pgf_name (i := 3) nd rfl (by first | exact Or.inl rfl | exact Or.inr rfl)) (pgsf_cons (pgf_name (i := 4) nd rfl (by first | exact Or.inl rfl | exact Or.inr rfl)) (pgsf_cons (pgf_name (i := 5) nd rfl (by first | exact Or.inl rfl | exact Or.inr rfl)) pgsf_nil)))))
    (pssf_one (psf_ret (pf_callR G_replaced (hr.mono (by decide)) hg (by rfl) tk (paf_cons (pf_var 0) (paf_cons (pf_var 1) (paf_cons (pf_tup (paf_cons (pf_callV G_joined_notes (hr.mono (by decide)) hg (by rfl) (paf_cons (pf_var 2) paf_nil)) (paf_cons (pf_var 4) (paf_cons (pf_var 5) paf_nil)))) paf_nil)))))))
theorem sc_bare : FnScope N_bare P_bare (defScope s_bare) := ⟨rfl, rfl, rfl, by decide +kernel, rfl, by decide +kernel, by decide +kernel⟩
theorem G_bare (T : Tx K mg) : Gx P w K mg base 2 T.d_bare F_bare := by
  have G_nodes_down := G_nodes_down (P := P) (w := w) (base := base) T
  have G_tree_by := G_tree_by (P := P) (w := w) (base := base) T
  refine gx_of _ sc_bare fun cdv A outer s H E hr hg => ?_
  have nd := sc_bare.nd
  have tk := tkX (P := P) (w := w) (K := K) (mg := mg) (base := base) (x := "bare") (st := s_bare) (N := N_bare) (f := T.d_bare.f) (cdv := cdv) (A := A) (outer := outer) (s := s) (H := H) (E := E)
  have po := poX (P := P) (w := w) (K := K) (mg := mg) (base := base) (x := "bare") (st := s_bare) (N := N_bare) (f := T.d_bare.f) (cdv := cdv) (A := A) (outer := outer) (s := s) (H := H) (E := E)
  exact (pssf_cons (psf_set (i := 1) nd rfl (by first | exact Or.inl rfl | exact Or.inr rfl) (pf_callR G_nodes_down (hr.mono (by decide)) hg (by rfl) tk (paf_cons (pf_var 0) paf_nil)))
    (pssf_one (psf_ret (pf_callR G_tree_by (hr.mono (by decide)) hg (by rfl) tk (paf_cons (pf_var 1) (paf_cons (pf_lc (own := [("here", 2)]) rfl nd (pif_any (pf_var 1)) (blkOk_by (own := [("here", 2)]) (N := N_bare) (sc := defScope s_bare) (by decide +kernel)) (fun _ _ _ _ _ => (pgf_name (i := 2) nd rfl (by first | exact Or.inl rfl | exact Or.inr rfl))) (fun _ _ _ _ _ => ptsf_nil) (fun _ _ _ _ _ => (pf_tup paf_nil))) paf_nil))))))
theorem sc_size_of : FnScope N_size_of P_size_of (defScope s_size_of) := ⟨rfl, rfl, rfl, by decide +kernel, rfl, by decide +kernel, by decide +kernel⟩
theorem G_size_of (T : Tx K mg) : Gx P w K mg base 2 T.d_size_of F_size_of := by
  have G_nodes_down := G_nodes_down (P := P) (w := w) (base := base) T
  refine gx_of _ sc_size_of fun cdv A outer s H E hr hg => ?_
  have nd := sc_size_of.nd
  have tk := tkX (P := P) (w := w) (K := K) (mg := mg) (base := base) (x := "size_of") (st := s_size_of) (N := N_size_of) (f := T.d_size_of.f) (cdv := cdv) (A := A) (outer := outer) (s := s) (H := H) (E := E)
  have po := poX (P := P) (w := w) (K := K) (mg := mg) (base := base) (x := "size_of") (st := s_size_of) (N := N_size_of) (f := T.d_size_of.f) (cdv := cdv) (A := A) (outer := outer) (s := s) (H := H) (E := E)
  exact (pssf_one (psf_ret (pf_callB call_lenX (by rfl) T.b_len (by decide +kernel) (paf_cons (pf_callR G_nodes_down (hr.mono (by decide)) hg (by rfl) tk (paf_cons (pf_var 0) paf_nil)) paf_nil))))
theorem sc_depth_of : FnScope N_depth_of P_depth_of (defScope s_depth_of) := ⟨rfl, rfl, rfl, by decide +kernel, rfl, by decide +kernel, by decide +kernel⟩
theorem G_depth_of (T : Tx K mg) : Gx P w K mg base 3 T.d_depth_of F_depth_of := by
  have G_places_of := G_places_of (P := P) (w := w) (base := base) T
  refine gx_of _ sc_depth_of fun cdv A outer s H E hr hg => ?_
  have nd := sc_depth_of.nd
  have tk := tkX (P := P) (w := w) (K := K) (mg := mg) (base := base) (x := "depth_of") (st := s_depth_of) (N := N_depth_of) (f := T.d_depth_of.f) (cdv := cdv) (A := A) (outer := outer) (s := s) (H := H) (E := E)
  have po := poX (P := P) (w := w) (K := K) (mg := mg) (base := base) (x := "depth_of") (st := s_depth_of) (N := N_depth_of) (f := T.d_depth_of.f) (cdv := cdv) (A := A) (outer := outer) (s := s) (H := H) (E := E)
  exact (pssf_one (psf_ret (pf_bin op_addD pf_int (pf_callB (call_max1X rfl) (by rfl) T.b_max (by decide +kernel) (paf_cons (pf_lc (own := [("place", 1)]) rfl nd (pif_any (pf_callR G_places_of (hr.mono (by decide)) hg (by rfl) tk (paf_cons (pf_var 0) paf_nil))) (blkOk_by (own := [("place", 1)]) (N := N_depth_of) (sc := defScope s_depth_of) (by decide +kernel)) (fun _ _ _ _ _ => (pgf_name (i := 1) nd rfl (by first | exact Or.inl rfl | exact Or.inr rfl))) (fun _ _ _ _ _ => ptsf_nil) (fun _ _ _ _ _ => (pf_callB call_lenX (by rfl) T.b_len (by decide +kernel) (paf_cons (pf_var 1) paf_nil)))) paf_nil)))))
theorem sc_notes_of : FnScope N_notes_of P_notes_of (defScope s_notes_of) := ⟨rfl, rfl, rfl, by decide +kernel, rfl, by decide +kernel, by decide +kernel⟩
theorem G_notes_of (T : Tx K mg) : Gx P w K mg base 3 T.d_notes_of F_notes_of := by
  have G_places_of := G_places_of (P := P) (w := w) (base := base) T
  have G_below := G_below (P := P) (w := w) (base := base) T
  refine gx_of _ sc_notes_of fun cdv A outer s H E hr hg => ?_
  have nd := sc_notes_of.nd
  have tk := tkX (P := P) (w := w) (K := K) (mg := mg) (base := base) (x := "notes_of") (st := s_notes_of) (N := N_notes_of) (f := T.d_notes_of.f) (cdv := cdv) (A := A) (outer := outer) (s := s) (H := H) (E := E)
  have po := poX (P := P) (w := w) (K := K) (mg := mg) (base := base) (x := "notes_of") (st := s_notes_of) (N := N_notes_of) (f := T.d_notes_of.f) (cdv := cdv) (A := A) (outer := outer) (s := s) (H := H) (E := E)
  exact (pssf_cons (psf_set (i := 1) nd rfl (by first | exact Or.inl rfl | exact Or.inr rfl) (pf_lstS paf_nil))
    (pssf_cons (psf_for po rfl (pif_any (pf_callR G_places_of (hr.mono (by decide)) hg (by rfl) tk (paf_cons (pf_var 0) paf_nil))) (pgf_name (i := 2) nd rfl (by first | exact Or.inl rfl | exact Or.inr rfl))
    (pssf_one (psf_expr (pf_ext (pf_var 1) (pf_lc (own := [("note", 3)]) rfl nd (pif_any (pf_ix (pf_callR G_below (hr.mono (by decide)) hg (by rfl) tk (paf_cons (pf_var 0) (paf_cons (pf_var 2) paf_nil))) pf_int)) (blkOk_by (own := [("note", 3)]) (N := N_notes_of) (sc := defScope s_notes_of) (by decide +kernel)) (fun _ _ _ _ _ => (pgf_name (i := 3) nd rfl (by first | exact Or.inl rfl | exact Or.inr rfl))) (fun _ _ _ _ _ => ptsf_nil) (fun _ _ _ _ _ => (pf_tup (paf_cons (pf_var 2) (paf_cons (pf_var 3) paf_nil)))))))))
    (pssf_one (psf_ret (pf_callTy call_tupleX (by rfl) T.b_tuple (by decide +kernel) (paf_cons (pf_var 1) paf_nil))))))
theorem sc_remarks_of : FnScope N_remarks_of P_remarks_of (defScope s_remarks_of) := ⟨rfl, rfl, rfl, by decide +kernel, rfl, by decide +kernel, by decide +kernel⟩
theorem G_remarks_of (T : Tx K mg) : Gx P w K mg base 4 T.d_remarks_of F_remarks_of := by
  have G_joined_notes := G_joined_notes (P := P) (w := w) (base := base) T
  have G_notes_of := G_notes_of (P := P) (w := w) (base := base) T
  have G_is_remark := G_is_remark (P := P) (w := w) (base := base) T
  refine gx_of _ sc_remarks_of fun cdv A outer s H E hr hg => ?_
  have nd := sc_remarks_of.nd
  have tk := tkX (P := P) (w := w) (K := K) (mg := mg) (base := base) (x := "remarks_of") (st := s_remarks_of) (N := N_remarks_of) (f := T.d_remarks_of.f) (cdv := cdv) (A := A) (outer := outer) (s := s) (H := H) (E := E)
  have po := poX (P := P) (w := w) (K := K) (mg := mg) (base := base) (x := "remarks_of") (st := s_remarks_of) (N := N_remarks_of) (f := T.d_remarks_of.f) (cdv := cdv) (A := A) (outer := outer) (s := s) (H := H) (E := E)
  exact (pssf_one (psf_ret (pf_callV G_joined_notes (hr.mono (by decide)) hg (by rfl) (paf_cons (pf_lc (own := [("place", 1), ("note", 2)]) rfl nd (pif_any (pf_callR G_notes_of (hr.mono (by decide)) hg (by rfl) tk (paf_cons (pf_var 0) paf_nil))) (blkOk_by (own := [("place", 1), ("note", 2)]) (N := N_remarks_of) (sc := defScope s_remarks_of) (by decide +kernel)) (fun _ _ _ _ _ => (pgf_tup rfl (pgsf_cons (pgf_name (i := 1) nd rfl (by first | exact Or.inl rfl | exact Or.inr rfl)) (pgsf_cons (pgf_name (i := 2) nd rfl (by first | exact Or.inl rfl | exact Or.inr rfl)) pgsf_nil)))) (fun _ _ _ _ _ => (ptsf_one (ptf_tru (pf_callR G_is_remark (hr.mono (by decide)) hg (by rfl) takesW0 (paf_cons (pf_var 2) paf_nil))))) (fun _ _ _ _ _ => (pf_var 2))) paf_nil))))
theorem sc__law_reader : FnScope N__law_reader P__law_reader (defScope s__law_reader) := ⟨rfl, rfl, rfl, by decide +kernel, rfl, by decide +kernel, by decide +kernel⟩
theorem G__law_reader (T : Tx K mg) : Gx P w K mg base 1 T.d__law_reader F__law_reader := by
  refine gx_of _ sc__law_reader fun cdv A outer s H E hr hg => ?_
  have nd := sc__law_reader.nd
  have tk := tkX (P := P) (w := w) (K := K) (mg := mg) (base := base) (x := "_law_reader") (st := s__law_reader) (N := N__law_reader) (f := T.d__law_reader.f) (cdv := cdv) (A := A) (outer := outer) (s := s) (H := H) (E := E)
  have po := poX (P := P) (w := w) (K := K) (mg := mg) (base := base) (x := "_law_reader") (st := s__law_reader) (N := N__law_reader) (f := T.d__law_reader.f) (cdv := cdv) (A := A) (outer := outer) (s := s) (H := H) (E := E)
  exact (pssf_one (psf_ret (pf_disp (fps := (((eC (.str "cells")), (eCb listD (aC (eSl (eV 0) oN (oS (eC (.int 63)))) aN))) :: (((eC (.str "spot")), (eC (.int 0))) :: (((eC (.str "rest")), (eC (.int 0))) :: (((eC (.str "calls")), (eC (.int 0))) :: []))))) (ppsf_cons pf_str (pf_callTy call_listX (by rfl) T.b_list (by decide +kernel) (paf_cons (pf_slice (pf_var 0) pof_none (pof_some pf_int)) paf_nil)) (ppsf_cons pf_str pf_int (ppsf_cons pf_str pf_int (ppsf_cons pf_str pf_int ppsf_nil)))))))
theorem sc__law_draw : FnScope N__law_draw P__law_draw (defScope s__law_draw) := ⟨rfl, rfl, rfl, by decide +kernel, rfl, by decide +kernel, by decide +kernel⟩
theorem G__law_draw (T : Tx K mg) : Gx P w K mg base 1 T.d__law_draw F__law_draw := by
  refine gx_of _ sc__law_draw fun cdv A outer s H E hr hg => ?_
  have nd := sc__law_draw.nd
  have tk := tkX (P := P) (w := w) (K := K) (mg := mg) (base := base) (x := "_law_draw") (st := s__law_draw) (N := N__law_draw) (f := T.d__law_draw.f) (cdv := cdv) (A := A) (outer := outer) (s := s) (H := H) (E := E)
  have po := poX (P := P) (w := w) (K := K) (mg := mg) (base := base) (x := "_law_draw") (st := s__law_draw) (N := N__law_draw) (f := T.d__law_draw.f) (cdv := cdv) (A := A) (outer := outer) (s := s) (H := H) (E := E)
  exact (pssf_cons (psf_set (i := 2) nd rfl (by first | exact Or.inl rfl | exact Or.inr rfl) (pf_bin op_addD (pf_dget (hu1 hr) (pf_var 0) pf_str) pf_int))
    (pssf_cons (psf_dput (hu1 hr) (pf_var 0) pf_str (pf_var 2))
    (pssf_cons (psf_if (ptf_cmp op_gtD (pf_dget (hu1 hr) (pf_var 0) pf_str) pf_int) (pssf_cons (psf_set (i := 7) nd rfl (by first | exact Or.inl rfl | exact Or.inr rfl) (pf_bin op_modD (pf_callTy call_intX (by rfl) T.b_int (by decide +kernel) (paf_cons (pf_dget (hu1 hr) (pf_var 0) pf_str) paf_nil)) (pf_var 1)))
    (pssf_cons (psf_dput (hu1 hr) (pf_var 0) pf_str (pf_bin op_fdvD (pf_dget (hu1 hr) (pf_var 0) pf_str) (pf_var 1)))
    (pssf_one (psf_ret (pf_var 7))))) pssf_nil)
    (pssf_cons (psf_set (i := 3) nd rfl (by first | exact Or.inl rfl | exact Or.inr rfl) (pf_dget (hu1 hr) (pf_var 0) pf_str))
    (pssf_cons (psf_dput (hu1 hr) (pf_var 0) pf_str (pf_bin op_addD (pf_var 3) pf_int))
    (pssf_cons (psf_set (i := 4) nd rfl (by first | exact Or.inl rfl | exact Or.inr rfl) (pf_dget (hu1 hr) (pf_var 0) pf_str))
    (pssf_cons (psf_set (i := 5) nd rfl (by first | exact Or.inl rfl | exact Or.inr rfl) (pf_ifx (ptf_cmp op_gtD (pf_callB call_lenX (by rfl) T.b_len (by decide +kernel) (paf_cons (pf_var 4) paf_nil)) pf_int) (pf_ix (pf_var 4) (pf_bin op_modD (pf_callTy call_intX (by rfl) T.b_int (by decide +kernel) (paf_cons (pf_var 3) paf_nil)) (pf_callB call_lenX (by rfl) T.b_len (by decide +kernel) (paf_cons (pf_var 4) paf_nil)))) pf_int))
    (pssf_cons (psf_if (ptf_w (pwf_and (ptf_cmp op_ltD (pf_var 3) (pf_callB call_lenX (by rfl) T.b_len (by decide +kernel) (paf_cons (pf_var 4) paf_nil))) (pwf_and1 (ptf_cmp op_geD (pf_var 5) (pf_bin op_powD pf_int pf_int))))) (pssf_cons (psf_dput (hu1 hr) (pf_var 0) pf_str (pf_bin op_fdvD (pf_var 5) (pf_var 1)))
    (pssf_one (psf_ret (pf_bin op_modD (pf_callTy call_intX (by rfl) T.b_int (by decide +kernel) (paf_cons (pf_var 5) paf_nil)) (pf_var 1))))) pssf_nil)
    (pssf_cons (psf_set (i := 6) nd rfl (by first | exact Or.inl rfl | exact Or.inr rfl) (pf_bin op_modD (pf_callTy call_intX (by rfl) T.b_int (by decide +kernel) (paf_cons (pf_bin op_powD (pf_bin op_addD (pf_bin op_addD (pf_bin op_modD (pf_callTy call_intX (by rfl) T.b_int (by decide +kernel) (paf_cons (pf_var 5) paf_nil)) pf_int) (pf_bin op_mulD pf_int (pf_var 2))) pf_int) pf_int) paf_nil)) pf_int))
    (pssf_one (psf_ret (pf_bin op_modD (pf_callTy call_intX (by rfl) T.b_int (by decide +kernel) (paf_cons (pf_bin op_fdvD (pf_bin op_modD (pf_callTy call_intX (by rfl) T.b_int (by decide +kernel) (paf_cons (pf_bin op_powD (pf_bin op_addD (pf_var 6) (pf_bin op_mulD (pf_bin op_mulD pf_int (pf_var 2)) (pf_var 2))) pf_int) paf_nil)) pf_int) pf_int) paf_nil)) (pf_var 1)))))))))))))
theorem sc__law_some : FnScope N__law_some P__law_some (defScope s__law_some) := ⟨rfl, rfl, rfl, by decide +kernel, rfl, by decide +kernel, by decide +kernel⟩
theorem G__law_some (T : Tx K mg) : Gx P w K mg base 2 T.d__law_some F__law_some := by
  have G__law_draw := G__law_draw (P := P) (w := w) (base := base) T
  refine gx_of _ sc__law_some fun cdv A outer s H E hr hg => ?_
  have nd := sc__law_some.nd
  have tk := tkX (P := P) (w := w) (K := K) (mg := mg) (base := base) (x := "_law_some") (st := s__law_some) (N := N__law_some) (f := T.d__law_some.f) (cdv := cdv) (A := A) (outer := outer) (s := s) (H := H) (E := E)
  have po := poX (P := P) (w := w) (K := K) (mg := mg) (base := base) (x := "_law_some") (st := s__law_some) (N := N__law_some) (f := T.d__law_some.f) (cdv := cdv) (A := A) (outer := outer) (s := s) (H := H) (E := E)
  exact (pssf_cons (psf_set (i := 4) nd rfl (by first | exact Or.inl rfl | exact Or.inr rfl) (pf_listS (by rfl) T.b_list (by decide +kernel) (paf_cons (pf_var 1) paf_nil)))
    (pssf_cons (psf_set (i := 5) nd rfl (by first | exact Or.inl rfl | exact Or.inr rfl) (pf_bin op_addD (pf_var 2) (pf_callR G__law_draw (hr.mono (by decide)) hg (by rfl) tk (paf_cons (pf_var 0) (paf_cons (pf_bin op_addD (pf_bin op_subD (pf_var 3) (pf_var 2)) pf_int) paf_nil)))))
    (pssf_cons (psf_while po (ptf_cmp op_gtD (pf_callB call_lenX (by rfl) T.b_len (by decide +kernel) (paf_cons (pf_var 4) paf_nil)) (pf_var 5))
    (pssf_one (psf_expr (pf_lm PySem.F.slot_list_pop PySem.F.type_list_pop mtL_popAt (pf_var 4) (paf_cons (pf_callR G__law_draw (hr.mono (by decide)) hg (by rfl) tk (paf_cons (pf_var 0) (paf_cons (pf_callB call_lenX (by rfl) T.b_len (by decide +kernel) (paf_cons (pf_var 4) paf_nil)) paf_nil))) paf_nil)))))
    (pssf_one (psf_ret (pf_callB call_sortLX (by rfl) T.b_sorted (by decide +kernel) (paf_cons (pf_var 4) paf_nil)))))))
theorem sc__law_power : FnScope N__law_power P__law_power (defScope s__law_power) := ⟨rfl, rfl, rfl, by decide +kernel, rfl, by decide +kernel, by decide +kernel⟩
theorem G__law_power (T : Tx K mg) : Gx P w K mg base 1 T.d__law_power F__law_power := by
  refine gx_of _ sc__law_power fun cdv A outer s H E hr hg => ?_
  have nd := sc__law_power.nd
  have tk := tkX (P := P) (w := w) (K := K) (mg := mg) (base := base) (x := "_law_power") (st := s__law_power) (N := N__law_power) (f := T.d__law_power.f) (cdv := cdv) (A := A) (outer := outer) (s := s) (H := H) (E := E)
  have po := poX (P := P) (w := w) (K := K) (mg := mg) (base := base) (x := "_law_power") (st := s__law_power) (N := N__law_power) (f := T.d__law_power.f) (cdv := cdv) (A := A) (outer := outer) (s := s) (H := H) (E := E)
  exact (pssf_cons (psf_set (i := 2) nd rfl (by first | exact Or.inl rfl | exact Or.inr rfl) pf_int)
    (pssf_cons (psf_for po rfl (pif_range1 (by rfl) T.b_range (paf_cons (pf_var 1) paf_nil)) (pgf_name (i := 3) nd rfl (by first | exact Or.inl rfl | exact Or.inr rfl))
    (pssf_one (psf_set (i := 2) nd rfl (by first | exact Or.inl rfl | exact Or.inr rfl) (pf_bin op_mulD (pf_var 2) (pf_var 0)))))
    (pssf_one (psf_ret (pf_var 2)))))
theorem sc__law_random_tongue : FnScope N__law_random_tongue P__law_random_tongue (defScope s__law_random_tongue) := ⟨rfl, rfl, rfl, by decide +kernel, rfl, by decide +kernel, by decide +kernel⟩
theorem G__law_random_tongue (T : Tx K mg) : Gx P w K mg base 3 T.d__law_random_tongue F__law_random_tongue := by
  have G__law_some := G__law_some (P := P) (w := w) (base := base) T
  have G__law_draw := G__law_draw (P := P) (w := w) (base := base) T
  have G__law_power := G__law_power (P := P) (w := w) (base := base) T
  refine gx_of _ sc__law_random_tongue fun cdv A outer s H E hr hg => ?_
  have nd := sc__law_random_tongue.nd
  have tk := tkX (P := P) (w := w) (K := K) (mg := mg) (base := base) (x := "_law_random_tongue") (st := s__law_random_tongue) (N := N__law_random_tongue) (f := T.d__law_random_tongue.f) (cdv := cdv) (A := A) (outer := outer) (s := s) (H := H) (E := E)
  have po := poX (P := P) (w := w) (K := K) (mg := mg) (base := base) (x := "_law_random_tongue") (st := s__law_random_tongue) (N := N__law_random_tongue) (f := T.d__law_random_tongue.f) (cdv := cdv) (A := A) (outer := outer) (s := s) (H := H) (E := E)
  exact (pssf_cons (psf_set (i := 1) nd rfl (by first | exact Or.inl rfl | exact Or.inr rfl) (pf_ix (pf_lst (paf_cons pf_int (paf_cons pf_int (paf_cons pf_int (paf_cons pf_int paf_nil))))) (pf_callR G__law_draw (hr.mono (by decide)) hg (by rfl) tk (paf_cons (pf_var 0) (paf_cons pf_int paf_nil)))))
    (pssf_cons (psf_set (i := 2) nd rfl (by first | exact Or.inl rfl | exact Or.inr rfl) (pf_lstS paf_nil))
    (pssf_cons (psf_for po rfl (pif_any (pf_callR G__law_some (hr.mono (by decide)) hg (by rfl) tk (paf_cons (pf_var 0) (paf_cons (pf_lst (paf_cons pf_str (paf_cons pf_str (paf_cons pf_str (paf_cons pf_str (paf_cons pf_str (paf_cons pf_str paf_nil))))))) (paf_cons pf_int (paf_cons pf_int paf_nil)))))) (pgf_name (i := 3) nd rfl (by first | exact Or.inl rfl | exact Or.inr rfl))
    (pssf_cons (psf_set (i := 5) nd rfl (by first | exact Or.inl rfl | exact Or.inr rfl) (pf_ix (pf_lst (paf_cons pf_int (paf_cons pf_int (paf_cons pf_int (paf_cons pf_int paf_nil))))) (pf_callR G__law_draw (hr.mono (by decide)) hg (by rfl) tk (paf_cons (pf_var 0) (paf_cons pf_int paf_nil)))))
    (pssf_cons (psf_set (i := 6) nd rfl (by first | exact Or.inl rfl | exact Or.inr rfl) (pf_callR G__law_power (hr.mono (by decide)) hg (by rfl) tk (paf_cons (pf_var 1) (paf_cons (pf_var 5) paf_nil))))
    (pssf_one (psf_expr (pf_lm PySem.F.slot_list_append PySem.F.type_list_append mtL_append (pf_var 2) (paf_cons (pf_tup (paf_cons (pf_var 3) (paf_cons (pf_var 5) (paf_cons (pf_callTy call_tupleX (by rfl) T.b_tuple (by decide +kernel) (paf_cons (pf_lc (own := [("_law_k", 8)]) rfl nd (pif_range1 (by rfl) T.b_range (paf_cons (pf_var 6) paf_nil)) (blkOk_by (own := [("_law_k", 8)]) (N := N__law_random_tongue) (sc := defScope s__law_random_tongue) (by decide +kernel)) (fun _ _ _ _ _ => (pgf_name (i := 8) nd rfl (by first | exact Or.inl rfl | exact Or.inr rfl))) (fun _ _ _ _ _ => ptsf_nil) (fun _ _ _ _ _ => (pf_callR G__law_draw (hr.mono (by decide)) hg (by rfl) takesW0 (paf_cons (pf_var 0) (paf_cons (pf_var 1) paf_nil))))) paf_nil)) paf_nil)))) paf_nil)))))))
    (pssf_fz (i := 2) (pssf_cons (psf_set (i := 4) nd rfl (by first | exact Or.inl rfl | exact Or.inr rfl) (pf_callR G__law_some (hr.mono (by decide)) hg (by rfl) tk (paf_cons (pf_var 0) (paf_cons (pf_lst (paf_cons pf_str (paf_cons pf_str (paf_cons pf_str paf_nil)))) (paf_cons pf_int (paf_cons pf_int paf_nil))))))
    (pssf_cons (psf_if (ptf_w (pwf_and (ptf_cmp (op_eqL (hu64 hr)) (pf_var 4) (pf_lst paf_nil)) (pwf_and1 (ptf_cmp (op_eqL (hu64 hr)) (pf_lc (own := [("_law_one", 7)]) rfl nd (pif_any (pf_var 2)) (blkOk_by (own := [("_law_one", 7)]) (N := N__law_random_tongue) (sc := defScope s__law_random_tongue) (by decide +kernel)) (fun _ _ _ _ _ => (pgf_name (i := 7) nd rfl (by first | exact Or.inl rfl | exact Or.inr rfl))) (fun _ _ _ _ _ => (ptsf_one (ptf_cmp (op_eqD' (hu64 hr)) (pf_ix (pf_var 7) pf_int) pf_int))) (fun _ _ _ _ _ => (pf_var 7))) (pf_lst paf_nil))))) (pssf_one (psf_set (i := 4) nd rfl (by first | exact Or.inl rfl | exact Or.inr rfl) (pf_lst (paf_cons pf_str paf_nil)))) pssf_nil)
    (pssf_one (psf_ret (pf_tup (paf_cons (pf_var 1) (paf_cons (pf_callTy call_tupleX (by rfl) T.b_tuple (by decide +kernel) (paf_cons (pf_var 4) paf_nil)) (paf_cons (pf_callTy call_tupleX (by rfl) T.b_tuple (by decide +kernel) (paf_cons (pf_var 2) paf_nil)) paf_nil))))))))))))
theorem sc__law_random_notes : FnScope N__law_random_notes P__law_random_notes (defScope s__law_random_notes) := ⟨rfl, rfl, rfl, by decide +kernel, rfl, by decide +kernel, by decide +kernel⟩
theorem G__law_random_notes (T : Tx K mg) : Gx P w K mg base 3 T.d__law_random_notes F__law_random_notes := by
  have G__law_draw := G__law_draw (P := P) (w := w) (base := base) T
  have G__law_some := G__law_some (P := P) (w := w) (base := base) T
  refine gx_of _ sc__law_random_notes fun cdv A outer s H E hr hg => ?_
  have nd := sc__law_random_notes.nd
  have tk := tkX (P := P) (w := w) (K := K) (mg := mg) (base := base) (x := "_law_random_notes") (st := s__law_random_notes) (N := N__law_random_notes) (f := T.d__law_random_notes.f) (cdv := cdv) (A := A) (outer := outer) (s := s) (H := H) (E := E)
  have po := poX (P := P) (w := w) (K := K) (mg := mg) (base := base) (x := "_law_random_notes") (st := s__law_random_notes) (N := N__law_random_notes) (f := T.d__law_random_notes.f) (cdv := cdv) (A := A) (outer := outer) (s := s) (H := H) (E := E)
  exact (pssf_cons (psf_set (i := 1) nd rfl (by first | exact Or.inl rfl | exact Or.inr rfl) (pf_lst (paf_cons pf_str (paf_cons pf_str (paf_cons pf_str (paf_cons pf_str (paf_cons pf_str (paf_cons pf_str (paf_cons pf_str paf_nil)))))))))
    (pssf_cons (psf_if (ptf_cmp (op_eqD' (hu64 hr)) (pf_callR G__law_draw (hr.mono (by decide)) hg (by rfl) tk (paf_cons (pf_var 0) (paf_cons pf_int paf_nil))) pf_int) (pssf_one (psf_ret (pf_tup paf_nil))) pssf_nil)
    (pssf_one (psf_ret (pf_callTy call_tupleX (by rfl) T.b_tuple (by decide +kernel) (paf_cons (pf_callR G__law_some (hr.mono (by decide)) hg (by rfl) tk (paf_cons (pf_var 0) (paf_cons (pf_var 1) (paf_cons pf_int (paf_cons pf_int paf_nil))))) paf_nil))))))
theorem sc__law_random_tree : FnScope N__law_random_tree P__law_random_tree (defScope s__law_random_tree) := ⟨rfl, rfl, rfl, by decide +kernel, rfl, by decide +kernel, by decide +kernel⟩
theorem G__law_random_tree (T : Tx K mg) : ∀ l, Gx P w K mg base (3 + l) T.d__law_random_tree (F__law_random_tree l)
  | 0 => gx_no _
  | l + 1 => by
    have G := G__law_random_tree T l
    have G__law_random_notes := G__law_random_notes (P := P) (w := w) (base := base) T
    have G__law_draw := G__law_draw (P := P) (w := w) (base := base) T
    refine gx_of (k := 3 + l) _ sc__law_random_tree fun cdv A outer s H E hr hg => ?_
    have nd := sc__law_random_tree.nd
    have tk := tkX (P := P) (w := w) (K := K) (mg := mg) (base := base) (x := "_law_random_tree") (st := s__law_random_tree) (N := N__law_random_tree) (f := T.d__law_random_tree.f) (cdv := cdv) (A := A) (outer := outer) (s := s) (H := H) (E := E)
    have po := poX (P := P) (w := w) (K := K) (mg := mg) (base := base) (x := "_law_random_tree") (st := s__law_random_tree) (N := N__law_random_tree) (f := T.d__law_random_tree.f) (cdv := cdv) (A := A) (outer := outer) (s := s) (H := H) (E := E)
    exact (pssf_cons (psf_asg (pf_bin op_subD (pf_ix (pf_var 2) pf_int) pf_int) (pgf_ix (pf_w0 (W := fun c d _ H => E c d H) (pf_var 2)) (pf_w0 (W := fun c d _ H => E c d H) pf_int)))
    (pssf_cons (psf_set (i := 3) nd rfl (by first | exact Or.inl rfl | exact Or.inr rfl) (pf_bin op_addD (pf_callTy call_listX (by rfl) T.b_list (by decide +kernel) (paf_cons (pf_ix (pf_var 1) pf_int) paf_nil)) (pf_lc (own := [("_law_one", 11)]) rfl nd (pif_any (pf_ix (pf_var 1) pf_int)) (blkOk_by (own := [("_law_one", 11)]) (N := N__law_random_tree) (sc := defScope s__law_random_tree) (by decide +kernel)) (fun _ _ _ _ _ => (pgf_name (i := 11) nd rfl (by first | exact Or.inl rfl | exact Or.inr rfl))) (fun _ _ _ _ _ => (ptsf_one (ptf_cmp (op_eqD' (hu64 hr)) (pf_ix (pf_var 11) pf_int) pf_int))) (fun _ _ _ _ _ => (pf_ix (pf_var 11) pf_int)))))
    (pssf_cons (psf_setLc (i := 4) (own := [("_law_one", 11)]) rfl nd rfl rfl (sw_true rfl rfl rfl (by decide +kernel)) (pif_any (pf_ix (pf_var 1) pf_int)) (blkOk_by (own := [("_law_one", 11)]) (N := N__law_random_tree) (sc := defScope s__law_random_tree) (by decide +kernel)) (fun _ _ _ _ _ => (pgf_name (i := 11) nd rfl (by first | exact Or.inl rfl | exact Or.inr rfl))) (fun _ _ _ _ _ => (ptsf_one (ptf_chain op_ltD op_leD pf_int (pf_ix (pf_var 11) pf_int) (pf_ix (pf_var 2) pf_int)))) (fun _ _ _ _ _ => (pf_var 11)))
    (pssf_cons (psf_set (i := 5) nd rfl (by first | exact Or.inl rfl | exact Or.inr rfl) (pf_callR G__law_random_notes (hr.mono (by omega)) hg (by rfl) tk (paf_cons (pf_var 0) paf_nil)))
    (pssf_cons (psf_if (ptf_w (pwf_or (ptf_cmp (op_eqL (hu64 hr)) (pf_var 4) (pf_lst paf_nil)) (pwf_or1 (ptf_cmp (op_eqD' (hu64 hr)) (pf_callR G__law_draw (hr.mono (by omega)) hg (by rfl) tk (paf_cons (pf_var 0) (paf_cons pf_int paf_nil))) pf_int)))) (pssf_one (psf_ret (pf_tup (paf_cons (pf_var 5) (paf_cons (pf_ix (pf_var 3) (pf_callR G__law_draw (hr.mono (by omega)) hg (by rfl) tk (paf_cons (pf_var 0) (paf_cons (pf_callB call_lenX (by rfl) T.b_len (by decide +kernel) (paf_cons (pf_var 3) paf_nil)) paf_nil)))) (paf_cons (pf_tup paf_nil) paf_nil)))))) pssf_nil)
    (pssf_cons (psf_asg (pf_ix (pf_var 4) (pf_callR G__law_draw (hr.mono (by omega)) hg (by rfl) tk (paf_cons (pf_var 0) (paf_cons (pf_callB call_lenX (by rfl) T.b_len (by decide +kernel) (paf_cons (pf_var 4) paf_nil)) paf_nil)))) (pgf_tup rfl (pgsf_cons (pgf_name (i := 8) nd rfl (by first | exact Or.inl rfl | exact Or.inr rfl)) (pgsf_cons (pgf_name (i := 9) nd rfl (by first | exact Or.inl rfl | exact Or.inr rfl)) (pgsf_cons (pgf_name (i := 10) nd rfl (by first | exact Or.inl rfl | exact Or.inr rfl)) pgsf_nil)))))
    (pssf_cons (psf_asg (pf_bin op_subD (pf_ix (pf_var 2) pf_int) (pf_var 9)) (pgf_ix (pf_w0 (W := fun c d _ H => E c d H) (pf_var 2)) (pf_w0 (W := fun c d _ H => E c d H) pf_int)))
    (pssf_cons (psf_set (i := 6) nd rfl (by first | exact Or.inl rfl | exact Or.inr rfl) (pf_lstS paf_nil))
    (pssf_cons (psf_for po rfl (pif_range1 (by rfl) T.b_range (paf_cons (pf_var 9) paf_nil)) (pgf_name (i := 7) nd rfl (by first | exact Or.inl rfl | exact Or.inr rfl))
    (pssf_cons (psf_asg (pf_bin op_addD (pf_ix (pf_var 2) pf_int) pf_int) (pgf_ix (pf_w0 (W := fun c d _ H => E c d H) (pf_var 2)) (pf_w0 (W := fun c d _ H => E c d H) pf_int)))
    (pssf_one (psf_expr (pf_lm PySem.F.slot_list_append PySem.F.type_list_append mtL_append (pf_var 6) (paf_cons (pf_callR G (hr.mono (by omega)) hg (by rfl) tk (paf_cons (pf_var 0) (paf_cons (pf_var 1) (paf_cons (pf_var 2) paf_nil)))) paf_nil))))))
    (pssf_one (psf_ret (pf_tup (paf_cons (pf_var 5) (paf_cons (pf_var 8) (paf_cons (pf_callTy call_tupleX (by rfl) T.b_tuple (by decide +kernel) (paf_cons (pf_var 6) paf_nil)) paf_nil)))))))))))))))
theorem sc__law_loose_tree : FnScope N__law_loose_tree P__law_loose_tree (defScope s__law_loose_tree) := ⟨rfl, rfl, rfl, by decide +kernel, rfl, by decide +kernel, by decide +kernel⟩
theorem G__law_loose_tree (T : Tx K mg) : ∀ l, Gx P w K mg base (3 + l) T.d__law_loose_tree (F__law_loose_tree l)
  | 0 => gx_no _
  | l + 1 => by
    have G := G__law_loose_tree T l
    have G__law_random_notes := G__law_random_notes (P := P) (w := w) (base := base) T
    have G__law_draw := G__law_draw (P := P) (w := w) (base := base) T
    refine gx_of (k := 3 + l) _ sc__law_loose_tree fun cdv A outer s H E hr hg => ?_
    have nd := sc__law_loose_tree.nd
    have tk := tkX (P := P) (w := w) (K := K) (mg := mg) (base := base) (x := "_law_loose_tree") (st := s__law_loose_tree) (N := N__law_loose_tree) (f := T.d__law_loose_tree.f) (cdv := cdv) (A := A) (outer := outer) (s := s) (H := H) (E := E)
    have po := poX (P := P) (w := w) (K := K) (mg := mg) (base := base) (x := "_law_loose_tree") (st := s__law_loose_tree) (N := N__law_loose_tree) (f := T.d__law_loose_tree.f) (cdv := cdv) (A := A) (outer := outer) (s := s) (H := H) (E := E)
    exact (pssf_cons (psf_asg (pf_bin op_subD (pf_ix (pf_var 1) pf_int) pf_int) (pgf_ix (pf_w0 (W := fun c d _ H => E c d H) (pf_var 1)) (pf_w0 (W := fun c d _ H => E c d H) pf_int)))
    (pssf_cons (psf_set (i := 2) nd rfl (by first | exact Or.inl rfl | exact Or.inr rfl) (pf_callB (call_min2X rfl) (by rfl) T.b_min (by decide +kernel) (paf_cons (pf_ix (pf_var 1) pf_int) (paf_cons (pf_callR G__law_draw (hr.mono (by omega)) hg (by rfl) tk (paf_cons (pf_var 0) (paf_cons pf_int paf_nil))) paf_nil))))
    (pssf_cons (psf_set (i := 3) nd rfl (by first | exact Or.inl rfl | exact Or.inr rfl) (pf_ix (pf_lst (paf_cons pf_str (paf_cons pf_str (paf_cons pf_str (paf_cons pf_str (paf_cons pf_str paf_nil)))))) (pf_callR G__law_draw (hr.mono (by omega)) hg (by rfl) tk (paf_cons (pf_var 0) (paf_cons pf_int paf_nil)))))
    (pssf_cons (psf_set (i := 4) nd rfl (by first | exact Or.inl rfl | exact Or.inr rfl) (pf_callR G__law_random_notes (hr.mono (by omega)) hg (by rfl) tk (paf_cons (pf_var 0) paf_nil)))
    (pssf_cons (psf_asg (pf_bin op_subD (pf_ix (pf_var 1) pf_int) (pf_var 2)) (pgf_ix (pf_w0 (W := fun c d _ H => E c d H) (pf_var 1)) (pf_w0 (W := fun c d _ H => E c d H) pf_int)))
    (pssf_cons (psf_set (i := 5) nd rfl (by first | exact Or.inl rfl | exact Or.inr rfl) (pf_lstS paf_nil))
    (pssf_cons (psf_for po rfl (pif_range1 (by rfl) T.b_range (paf_cons (pf_var 2) paf_nil)) (pgf_name (i := 6) nd rfl (by first | exact Or.inl rfl | exact Or.inr rfl))
    (pssf_cons (psf_asg (pf_bin op_addD (pf_ix (pf_var 1) pf_int) pf_int) (pgf_ix (pf_w0 (W := fun c d _ H => E c d H) (pf_var 1)) (pf_w0 (W := fun c d _ H => E c d H) pf_int)))
    (pssf_one (psf_expr (pf_lm PySem.F.slot_list_append PySem.F.type_list_append mtL_append (pf_var 5) (paf_cons (pf_callR G (hr.mono (by omega)) hg (by rfl) tk (paf_cons (pf_var 0) (paf_cons (pf_var 1) paf_nil))) paf_nil))))))
    (pssf_one (psf_ret (pf_tup (paf_cons (pf_var 4) (paf_cons (pf_var 3) (paf_cons (pf_callTy call_tupleX (by rfl) T.b_tuple (by decide +kernel) (paf_cons (pf_var 5) paf_nil)) paf_nil)))))))))))))
theorem sc__law_fixed_trees : FnScope N__law_fixed_trees P__law_fixed_trees (defScope s__law_fixed_trees) := ⟨rfl, rfl, rfl, by decide +kernel, rfl, by decide +kernel, by decide +kernel⟩
theorem G__law_fixed_trees (T : Tx K mg) : Gx P w K mg base 1 T.d__law_fixed_trees F__law_fixed_trees := by
  refine gx_of _ sc__law_fixed_trees fun cdv A outer s H E hr hg => ?_
  have nd := sc__law_fixed_trees.nd
  have tk := tkX (P := P) (w := w) (K := K) (mg := mg) (base := base) (x := "_law_fixed_trees") (st := s__law_fixed_trees) (N := N__law_fixed_trees) (f := T.d__law_fixed_trees.f) (cdv := cdv) (A := A) (outer := outer) (s := s) (H := H) (E := E)
  have po := poX (P := P) (w := w) (K := K) (mg := mg) (base := base) (x := "_law_fixed_trees") (st := s__law_fixed_trees) (N := N__law_fixed_trees) (f := T.d__law_fixed_trees.f) (cdv := cdv) (A := A) (outer := outer) (s := s) (H := H) (E := E)
  exact (pssf_cons (psf_asg (pf_tup (paf_cons (pf_tup (paf_cons (pf_tup paf_nil) (paf_cons pf_str (paf_cons (pf_tup paf_nil) paf_nil)))) (paf_cons (pf_tup (paf_cons (pf_tup paf_nil) (paf_cons pf_str (paf_cons (pf_tup paf_nil) paf_nil)))) paf_nil))) (pgf_tup rfl (pgsf_cons (pgf_name (i := 5) nd rfl (by first | exact Or.inl rfl | exact Or.inr rfl)) (pgsf_cons (pgf_name (i := 6) nd rfl (by first | exact Or.inl rfl | exact Or.inr rfl)) pgsf_nil))))
    (pssf_cons (psf_set (i := 0) nd rfl (by first | exact Or.inl rfl | exact Or.inr rfl) (pf_tup (paf_cons (pf_tup (paf_cons pf_str paf_nil)) (paf_cons pf_str (paf_cons (pf_tup paf_nil) paf_nil)))))
    (pssf_cons (psf_set (i := 1) nd rfl (by first | exact Or.inl rfl | exact Or.inr rfl) (pf_tup (paf_cons (pf_tup (paf_cons pf_str paf_nil)) (paf_cons pf_str (paf_cons (pf_tup (paf_cons (pf_tup (paf_cons (pf_tup paf_nil) (paf_cons pf_str (paf_cons (pf_tup (paf_cons (pf_var 5) (paf_cons (pf_var 6) paf_nil))) paf_nil)))) (paf_cons (pf_tup (paf_cons (pf_tup paf_nil) (paf_cons pf_str (paf_cons (pf_tup (paf_cons (pf_var 0) (paf_cons (pf_var 6) paf_nil))) paf_nil)))) paf_nil))) paf_nil)))))
    (pssf_cons (psf_set (i := 2) nd rfl (by first | exact Or.inl rfl | exact Or.inr rfl) (pf_tup (paf_cons (pf_tup (paf_cons pf_str (paf_cons pf_str (paf_cons pf_str paf_nil)))) (paf_cons pf_str (paf_cons (pf_tup paf_nil) paf_nil)))))
    (pssf_cons (psf_for po rfl (pif_range1 (by rfl) T.b_range (paf_cons pf_int paf_nil)) (pgf_name (i := 3) nd rfl (by first | exact Or.inl rfl | exact Or.inr rfl))
    (pssf_one (psf_set (i := 2) nd rfl (by first | exact Or.inl rfl | exact Or.inr rfl) (pf_tup (paf_cons (pf_ifx (ptf_cmp (op_eqD' (hu64 hr)) (pf_var 3) pf_int) (pf_tup (paf_cons pf_str paf_nil)) (pf_tup paf_nil)) (paf_cons pf_str (paf_cons (pf_tup (paf_cons (pf_var 2) paf_nil)) paf_nil)))))))
    (pssf_cons (psf_set (i := 4) nd rfl (by first | exact Or.inl rfl | exact Or.inr rfl) (pf_tup (paf_cons (pf_tup paf_nil) (paf_cons pf_str (paf_cons (pf_tup (paf_cons (pf_var 5) (paf_cons (pf_var 0) (paf_cons (pf_tup (paf_cons (pf_tup paf_nil) (paf_cons pf_str (paf_cons (pf_tup paf_nil) paf_nil)))) (paf_cons (pf_tup (paf_cons (pf_tup (paf_cons pf_str (paf_cons pf_str (paf_cons pf_str paf_nil)))) (paf_cons pf_str (paf_cons (pf_tup (paf_cons (pf_var 5) paf_nil)) paf_nil)))) (paf_cons (pf_var 5) (paf_cons (pf_var 6) paf_nil))))))) paf_nil)))))
    (pssf_one (psf_ret (pf_lstS (paf_cons (pf_var 1) (paf_cons (pf_var 5) (paf_cons (pf_tup (paf_cons (pf_tup (paf_cons pf_str (paf_cons pf_str (paf_cons pf_str paf_nil)))) (paf_cons pf_str (paf_cons (pf_tup paf_nil) paf_nil)))) (paf_cons (pf_var 2) (paf_cons (pf_var 4) paf_nil))))))))))))))
theorem sc__law_check_place : FnScope N__law_check_place P__law_check_place (defScope s__law_check_place) := ⟨rfl, rfl, rfl, by decide +kernel, rfl, by decide +kernel, by decide +kernel⟩
theorem G__law_check_place (T : Tx K mg) : Gx P w K mg base 7 T.d__law_check_place F__law_check_place := by
  have G_node_at := G_node_at (P := P) (w := w) (base := base) T
  have G_with_tree := G_with_tree (P := P) (w := w) (base := base) T
  have G_bare := G_bare (P := P) (w := w) (base := base) T
  have G_size_of := G_size_of (P := P) (w := w) (base := base) T
  have G_places_of := G_places_of (P := P) (w := w) (base := base) T
  have G_notes_of := G_notes_of (P := P) (w := w) (base := base) T
  refine gx_of _ sc__law_check_place fun cdv A outer s H E hr hg => ?_
  have nd := sc__law_check_place.nd
  have tk := tkX (P := P) (w := w) (K := K) (mg := mg) (base := base) (x := "_law_check_place") (st := s__law_check_place) (N := N__law_check_place) (f := T.d__law_check_place.f) (cdv := cdv) (A := A) (outer := outer) (s := s) (H := H) (E := E)
  have po := poX (P := P) (w := w) (K := K) (mg := mg) (base := base) (x := "_law_check_place") (st := s__law_check_place) (N := N__law_check_place) (f := T.d__law_check_place.f) (cdv := cdv) (A := A) (outer := outer) (s := s) (H := H) (E := E)
  exact (pssf_cons (psf_asg (pf_tup (paf_cons (pf_callR G_node_at (hr.mono (by decide)) hg (by rfl) tk (paf_cons (pf_var 0) (paf_cons (pf_var 1) paf_nil))) (paf_cons (pf_callR G_with_tree (hr.mono (by decide)) hg (by rfl) tk (paf_cons (pf_var 0) (paf_cons (pf_var 1) (paf_cons (pf_var 2) paf_nil)))) paf_nil))) (pgf_tup rfl (pgsf_cons (pgf_name (i := 6) nd rfl (by first | exact Or.inl rfl | exact Or.inr rfl)) (pgsf_cons (pgf_name (i := 7) nd rfl (by first | exact Or.inl rfl | exact Or.inr rfl)) pgsf_nil))))
    (pssf_cons (psf_if (ptf_w (pwf_or (ptf_cmp (op_neD' (hu64 hr)) (pf_callR G_node_at (hr.mono (by decide)) hg (by rfl) tk (paf_cons (pf_var 7) (paf_cons (pf_var 1) paf_nil))) (pf_var 2)) (pwf_or (ptf_cmp (op_neD' (hu64 hr)) (pf_callR G_with_tree (hr.mono (by decide)) hg (by rfl) tk (paf_cons (pf_var 0) (paf_cons (pf_var 1) (paf_cons (pf_var 6) paf_nil)))) (pf_var 0)) (pwf_or1 (ptf_cmp (op_neD' (hu64 hr)) (pf_callR G_with_tree (hr.mono (by decide)) hg (by rfl) tk (paf_cons (pf_var 7) (paf_cons (pf_var 1) (paf_cons (pf_var 6) paf_nil)))) (pf_var 0)))))) (pssf_one (psf_ret pf_bl)) pssf_nil)
    (pssf_cons (psf_if (ptf_w (pwf_or (ptf_cmp (op_neD' (hu64 hr)) (pf_callR G_size_of (hr.mono (by decide)) hg (by rfl) tk (paf_cons (pf_var 7) paf_nil)) (pf_bin op_addD (pf_bin op_subD (pf_callR G_size_of (hr.mono (by decide)) hg (by rfl) tk (paf_cons (pf_var 0) paf_nil)) (pf_callR G_size_of (hr.mono (by decide)) hg (by rfl) tk (paf_cons (pf_var 6) paf_nil))) (pf_callR G_size_of (hr.mono (by decide)) hg (by rfl) tk (paf_cons (pf_var 2) paf_nil)))) (pwf_or1 (ptf_cmp (op_neD' (hu64 hr)) (pf_var 6) (pf_callR G_node_at (hr.mono (by decide)) hg (by rfl) tk (paf_cons (pf_var 0) (paf_cons (pf_var 1) paf_nil))))))) (pssf_one (psf_ret pf_bl)) pssf_nil)
    (pssf_cons (psf_setLc (i := 3) (own := [("_law_spot", 8)]) rfl nd rfl rfl (sw_true rfl rfl rfl (by decide +kernel)) (pif_any (pf_callR G_places_of (hr.mono (by decide)) hg (by rfl) tk (paf_cons (pf_var 0) paf_nil))) (blkOk_by (own := [("_law_spot", 8)]) (N := N__law_check_place) (sc := defScope s__law_check_place) (by decide +kernel)) (fun _ _ _ _ _ => (pgf_name (i := 8) nd rfl (by first | exact Or.inl rfl | exact Or.inr rfl))) (fun _ _ _ _ _ => (ptsf_one (ptf_cmp (op_eqD' (hu64 hr)) (pf_slice (pf_var 8) pof_none (pof_some (pf_callB call_lenX (by rfl) T.b_len (by decide +kernel) (paf_cons (pf_var 1) paf_nil)))) (pf_var 1)))) (fun _ _ _ _ _ => (pf_var 8)))
    (pssf_cons (psf_if (ptf_cmp (op_neD' (hu64 hr)) (pf_var 3) (pf_lc (own := [("_law_spot", 8)]) rfl nd (pif_any (pf_callR G_places_of (hr.mono (by decide)) hg (by rfl) tk (paf_cons (pf_var 6) paf_nil))) (blkOk_by (own := [("_law_spot", 8)]) (N := N__law_check_place) (sc := defScope s__law_check_place) (by decide +kernel)) (fun _ _ _ _ _ => (pgf_name (i := 8) nd rfl (by first | exact Or.inl rfl | exact Or.inr rfl))) (fun _ _ _ _ _ => ptsf_nil) (fun _ _ _ _ _ => (pf_bin op_addD (pf_var 1) (pf_var 8))))) (pssf_one (psf_ret pf_bl)) pssf_nil)
    (pssf_cons (psf_if (ptf_cmp (op_neD' (hu64 hr)) (pf_lc (own := [("_law_spot", 8)]) rfl nd (pif_any (pf_var 3)) (blkOk_by (own := [("_law_spot", 8)]) (N := N__law_check_place) (sc := defScope s__law_check_place) (by decide +kernel)) (fun _ _ _ _ _ => (pgf_name (i := 8) nd rfl (by first | exact Or.inl rfl | exact Or.inr rfl))) (fun _ _ _ _ _ => ptsf_nil) (fun _ _ _ _ _ => (pf_callR G_node_at (hr.mono (by decide)) hg (by rfl) takesW0 (paf_cons (pf_var 0) (paf_cons (pf_var 8) paf_nil))))) (pf_lc (own := [("_law_spot", 8)]) rfl nd (pif_any (pf_var 3)) (blkOk_by (own := [("_law_spot", 8)]) (N := N__law_check_place) (sc := defScope s__law_check_place) (by decide +kernel)) (fun _ _ _ _ _ => (pgf_name (i := 8) nd rfl (by first | exact Or.inl rfl | exact Or.inr rfl))) (fun _ _ _ _ _ => ptsf_nil) (fun _ _ _ _ _ => (pf_callR G_node_at (hr.mono (by decide)) hg (by rfl) takesW0 (paf_cons (pf_var 6) (paf_cons (pf_slice (pf_var 8) (pof_some (pf_callB call_lenX (by rfl) T.b_len (by decide +kernel) (paf_cons (pf_var 1) paf_nil))) pof_none) paf_nil)))))) (pssf_one (psf_ret pf_bl)) pssf_nil)
    (pssf_cons (psf_setLc (i := 4) (own := [("_law_spot", 8)]) rfl nd rfl rfl (sw_true rfl rfl rfl (by decide +kernel)) (pif_any (pf_callR G_places_of (hr.mono (by decide)) hg (by rfl) tk (paf_cons (pf_var 0) paf_nil))) (blkOk_by (own := [("_law_spot", 8)]) (N := N__law_check_place) (sc := defScope s__law_check_place) (by decide +kernel)) (fun _ _ _ _ _ => (pgf_name (i := 8) nd rfl (by first | exact Or.inl rfl | exact Or.inr rfl))) (fun _ _ _ _ _ => (ptsf_one (ptf_cmp (op_neD' (hu64 hr)) (pf_slice (pf_var 8) pof_none (pof_some (pf_callB call_lenX (by rfl) T.b_len (by decide +kernel) (paf_cons (pf_var 1) paf_nil)))) (pf_var 1)))) (fun _ _ _ _ _ => (pf_var 8)))
    (pssf_cons (psf_if (ptf_cmp (op_neD' (hu64 hr)) (pf_var 4) (pf_lc (own := [("_law_spot", 8)]) rfl nd (pif_any (pf_callR G_places_of (hr.mono (by decide)) hg (by rfl) tk (paf_cons (pf_var 7) paf_nil))) (blkOk_by (own := [("_law_spot", 8)]) (N := N__law_check_place) (sc := defScope s__law_check_place) (by decide +kernel)) (fun _ _ _ _ _ => (pgf_name (i := 8) nd rfl (by first | exact Or.inl rfl | exact Or.inr rfl))) (fun _ _ _ _ _ => (ptsf_one (ptf_cmp (op_neD' (hu64 hr)) (pf_slice (pf_var 8) pof_none (pof_some (pf_callB call_lenX (by rfl) T.b_len (by decide +kernel) (paf_cons (pf_var 1) paf_nil)))) (pf_var 1)))) (fun _ _ _ _ _ => (pf_var 8)))) (pssf_one (psf_ret pf_bl)) pssf_nil)
    (pssf_cons (psf_setLc (i := 5) (own := [("_law_pair", 9)]) rfl nd rfl rfl (sw_true rfl rfl rfl (by decide +kernel)) (pif_any (pf_callR G_notes_of (hr.mono (by decide)) hg (by rfl) tk (paf_cons (pf_var 7) paf_nil))) (blkOk_by (own := [("_law_pair", 9)]) (N := N__law_check_place) (sc := defScope s__law_check_place) (by decide +kernel)) (fun _ _ _ _ _ => (pgf_name (i := 9) nd rfl (by first | exact Or.inl rfl | exact Or.inr rfl))) (fun _ _ _ _ _ => (ptsf_one (ptf_cmp (op_neD' (hu64 hr)) (pf_slice (pf_ix (pf_var 9) pf_int) pof_none (pof_some (pf_callB call_lenX (by rfl) T.b_len (by decide +kernel) (paf_cons (pf_var 1) paf_nil)))) (pf_var 1)))) (fun _ _ _ _ _ => (pf_var 9)))
    (pssf_cons (psf_if (ptf_cmp (op_neD' (hu64 hr)) (pf_var 5) (pf_lc (own := [("_law_pair", 9)]) rfl nd (pif_any (pf_callR G_notes_of (hr.mono (by decide)) hg (by rfl) tk (paf_cons (pf_var 0) paf_nil))) (blkOk_by (own := [("_law_pair", 9)]) (N := N__law_check_place) (sc := defScope s__law_check_place) (by decide +kernel)) (fun _ _ _ _ _ => (pgf_name (i := 9) nd rfl (by first | exact Or.inl rfl | exact Or.inr rfl))) (fun _ _ _ _ _ => (ptsf_one (ptf_cmp (op_neD' (hu64 hr)) (pf_slice (pf_ix (pf_var 9) pf_int) pof_none (pof_some (pf_callB call_lenX (by rfl) T.b_len (by decide +kernel) (paf_cons (pf_var 1) paf_nil)))) (pf_var 1)))) (fun _ _ _ _ _ => (pf_var 9)))) (pssf_one (psf_ret pf_bl)) pssf_nil)
    (pssf_one (psf_ret (pf_cmp (op_eqD' (hu64 hr)) (pf_callR G_bare (hr.mono (by decide)) hg (by rfl) tk (paf_cons (pf_var 7) paf_nil)) (pf_callR G_with_tree (hr.mono (by decide)) hg (by rfl) tk (paf_cons (pf_callR G_bare (hr.mono (by decide)) hg (by rfl) tk (paf_cons (pf_var 0) paf_nil)) (paf_cons (pf_var 1) (paf_cons (pf_callR G_bare (hr.mono (by decide)) hg (by rfl) tk (paf_cons (pf_var 2) paf_nil)) paf_nil)))))))))))))))))
theorem sc__law_check_notes : FnScope N__law_check_notes P__law_check_notes (defScope s__law_check_notes) := ⟨rfl, rfl, rfl, by decide +kernel, rfl, by decide +kernel, by decide +kernel⟩
theorem G__law_check_notes (T : Tx K mg) : Gx P w K mg base 8 T.d__law_check_notes F__law_check_notes := by
  have G_with_notes := G_with_notes (P := P) (w := w) (base := base) T
  have G_remarks_of := G_remarks_of (P := P) (w := w) (base := base) T
  have G_notes_of := G_notes_of (P := P) (w := w) (base := base) T
  have G_bare := G_bare (P := P) (w := w) (base := base) T
  refine gx_of _ sc__law_check_notes fun cdv A outer s H E hr hg => ?_
  have nd := sc__law_check_notes.nd
  have tk := tkX (P := P) (w := w) (K := K) (mg := mg) (base := base) (x := "_law_check_notes") (st := s__law_check_notes) (N := N__law_check_notes) (f := T.d__law_check_notes.f) (cdv := cdv) (A := A) (outer := outer) (s := s) (H := H) (E := E)
  have po := poX (P := P) (w := w) (K := K) (mg := mg) (base := base) (x := "_law_check_notes") (st := s__law_check_notes) (N := N__law_check_notes) (f := T.d__law_check_notes.f) (cdv := cdv) (A := A) (outer := outer) (s := s) (H := H) (E := E)
  exact (pssf_cons (psf_set (i := 2) nd rfl (by first | exact Or.inl rfl | exact Or.inr rfl) (pf_callR G_with_notes (hr.mono (by decide)) hg (by rfl) tk (paf_cons (pf_var 0) (paf_cons (pf_var 1) (paf_cons (pf_tup (paf_cons pf_str (paf_cons pf_str (paf_cons pf_str (paf_cons pf_str paf_nil))))) paf_nil)))))
    (pssf_cons (psf_setLc (i := 3) (own := [("_law_pair", 6)]) rfl nd rfl rfl (sw_true rfl rfl rfl (by decide +kernel)) (pif_any (pf_callR G_notes_of (hr.mono (by decide)) hg (by rfl) tk (paf_cons (pf_var 2) paf_nil))) (blkOk_by (own := [("_law_pair", 6)]) (N := N__law_check_notes) (sc := defScope s__law_check_notes) (by decide +kernel)) (fun _ _ _ _ _ => (pgf_name (i := 6) nd rfl (by first | exact Or.inl rfl | exact Or.inr rfl))) (fun _ _ _ _ _ => (ptsf_one (ptf_cmp (op_eqD' (hu64 hr)) (pf_ix (pf_var 6) pf_int) (pf_var 1)))) (fun _ _ _ _ _ => (pf_var 6)))
    (pssf_cons (psf_if (ptf_w (pwf_or (ptf_cmp (op_neD' (hu64 hr)) (pf_var 3) (pf_lst (paf_cons (pf_tup (paf_cons (pf_var 1) (paf_cons pf_str paf_nil))) (paf_cons (pf_tup (paf_cons (pf_var 1) (paf_cons pf_str paf_nil))) (paf_cons (pf_tup (paf_cons (pf_var 1) (paf_cons pf_str paf_nil))) paf_nil))))) (pwf_or1 (ptf_cmp (op_neD' (hu64 hr)) (pf_callR G_bare (hr.mono (by decide)) hg (by rfl) tk (paf_cons (pf_var 2) paf_nil)) (pf_callR G_bare (hr.mono (by decide)) hg (by rfl) tk (paf_cons (pf_var 0) paf_nil)))))) (pssf_one (psf_ret pf_bl)) pssf_nil)
    (pssf_cons (psf_setLc (i := 4) (own := [("_law_pair", 6)]) rfl nd rfl rfl (sw_true rfl rfl rfl (by decide +kernel)) (pif_any (pf_callR G_notes_of (hr.mono (by decide)) hg (by rfl) tk (paf_cons (pf_var 0) paf_nil))) (blkOk_by (own := [("_law_pair", 6)]) (N := N__law_check_notes) (sc := defScope s__law_check_notes) (by decide +kernel)) (fun _ _ _ _ _ => (pgf_name (i := 6) nd rfl (by first | exact Or.inl rfl | exact Or.inr rfl))) (fun _ _ _ _ _ => (ptsf_one (ptf_cmp (op_neD' (hu64 hr)) (pf_ix (pf_var 6) pf_int) (pf_var 1)))) (fun _ _ _ _ _ => (pf_var 6)))
    (pssf_cons (psf_if (ptf_cmp (op_neD' (hu64 hr)) (pf_lc (own := [("_law_pair", 6)]) rfl nd (pif_any (pf_callR G_notes_of (hr.mono (by decide)) hg (by rfl) tk (paf_cons (pf_var 2) paf_nil))) (blkOk_by (own := [("_law_pair", 6)]) (N := N__law_check_notes) (sc := defScope s__law_check_notes) (by decide +kernel)) (fun _ _ _ _ _ => (pgf_name (i := 6) nd rfl (by first | exact Or.inl rfl | exact Or.inr rfl))) (fun _ _ _ _ _ => (ptsf_one (ptf_cmp (op_neD' (hu64 hr)) (pf_ix (pf_var 6) pf_int) (pf_var 1)))) (fun _ _ _ _ _ => (pf_var 6))) (pf_var 4)) (pssf_one (psf_ret pf_bl)) pssf_nil)
    (pssf_cons (psf_set (i := 5) nd rfl (by first | exact Or.inl rfl | exact Or.inr rfl) (pf_callTy call_tupleX (by rfl) T.b_tuple (by decide +kernel) (paf_cons (pf_lc (own := [("_law_spot", 7), ("_law_one", 8)]) rfl nd (pif_any (pf_callR G_notes_of (hr.mono (by decide)) hg (by rfl) tk (paf_cons (pf_var 0) paf_nil))) (blkOk_by (own := [("_law_spot", 7), ("_law_one", 8)]) (N := N__law_check_notes) (sc := defScope s__law_check_notes) (by decide +kernel)) (fun _ _ _ _ _ => (pgf_tup rfl (pgsf_cons (pgf_name (i := 7) nd rfl (by first | exact Or.inl rfl | exact Or.inr rfl)) (pgsf_cons (pgf_name (i := 8) nd rfl (by first | exact Or.inl rfl | exact Or.inr rfl)) pgsf_nil)))) (fun _ _ _ _ _ => (ptsf_one (ptf_cmp (op_eqD' (hu64 hr)) (pf_var 7) (pf_var 1)))) (fun _ _ _ _ _ => (pf_var 8))) paf_nil)))
    (pssf_cons (psf_if (ptf_w (pwf_or (ptf_cmp (op_neD' (hu64 hr)) (pf_callR G_with_notes (hr.mono (by decide)) hg (by rfl) tk (paf_cons (pf_var 2) (paf_cons (pf_var 1) (paf_cons (pf_bin op_addD (pf_rev (pf_var 5)) (pf_var 5)) paf_nil)))) (pf_var 0)) (pwf_or1 (ptf_cmp (op_neD' (hu64 hr)) (pf_callR G_with_notes (hr.mono (by decide)) hg (by rfl) tk (paf_cons (pf_var 2) (paf_cons (pf_var 1) (paf_cons (pf_tup paf_nil) paf_nil)))) (pf_callR G_with_notes (hr.mono (by decide)) hg (by rfl) tk (paf_cons (pf_var 0) (paf_cons (pf_var 1) (paf_cons (pf_tup paf_nil) paf_nil)))))))) (pssf_one (psf_ret pf_bl)) pssf_nil)
    (pssf_one (psf_ret (pf_cmp (op_eqD' (hu64 hr)) (pf_callR G_remarks_of (hr.mono (by decide)) hg (by rfl) tk (paf_cons (pf_var 2) paf_nil)) (pf_callTy call_tupleX (by rfl) T.b_tuple (by decide +kernel) (paf_cons (pf_sortset rfl (by rfl) T.b_sorted (by rfl) T.b_set (paf_cons (pf_lc (own := [("_law_spot", 7), ("_law_one", 8)]) rfl nd (pif_any (pf_callR G_notes_of (hr.mono (by decide)) hg (by rfl) tk (paf_cons (pf_var 2) paf_nil))) (blkOk_by (own := [("_law_spot", 7), ("_law_one", 8)]) (N := N__law_check_notes) (sc := defScope s__law_check_notes) (by decide +kernel)) (fun _ _ _ _ _ => (pgf_tup rfl (pgsf_cons (pgf_name (i := 7) nd rfl (by first | exact Or.inl rfl | exact Or.inr rfl)) (pgsf_cons (pgf_name (i := 8) nd rfl (by first | exact Or.inl rfl | exact Or.inr rfl)) pgsf_nil)))) (fun _ _ _ _ _ => (ptsf_one (ptf_cmp (op_niX (hu65 hr)) (pf_ix (pf_var 8) pf_int) pf_str))) (fun _ _ _ _ _ => (pf_var 8))) paf_nil)) paf_nil))))))))))))
theorem sc__law_check_two : FnScope N__law_check_two P__law_check_two (defScope s__law_check_two) := ⟨rfl, rfl, rfl, by decide +kernel, rfl, by decide +kernel, by decide +kernel⟩
theorem G__law_check_two (T : Tx K mg) : Gx P w K mg base 7 T.d__law_check_two F__law_check_two := by
  have G_with_tree := G_with_tree (P := P) (w := w) (base := base) T
  have G_node_at := G_node_at (P := P) (w := w) (base := base) T
  refine gx_of _ sc__law_check_two fun cdv A outer s H E hr hg => ?_
  have nd := sc__law_check_two.nd
  have tk := tkX (P := P) (w := w) (K := K) (mg := mg) (base := base) (x := "_law_check_two") (st := s__law_check_two) (N := N__law_check_two) (f := T.d__law_check_two.f) (cdv := cdv) (A := A) (outer := outer) (s := s) (H := H) (E := E)
  have po := poX (P := P) (w := w) (K := K) (mg := mg) (base := base) (x := "_law_check_two") (st := s__law_check_two) (N := N__law_check_two) (f := T.d__law_check_two.f) (cdv := cdv) (A := A) (outer := outer) (s := s) (H := H) (E := E)
  exact (pssf_cons (psf_if (ptf_cmp (op_eqD' (hu64 hr)) (pf_slice (pf_var 2) pof_none (pof_some (pf_callB call_lenX (by rfl) T.b_len (by decide +kernel) (paf_cons (pf_var 1) paf_nil)))) (pf_var 1)) (pssf_one (psf_ret (pf_cmp (op_eqD' (hu64 hr)) (pf_callR G_with_tree (hr.mono (by decide)) hg (by rfl) tk (paf_cons (pf_callR G_with_tree (hr.mono (by decide)) hg (by rfl) tk (paf_cons (pf_var 0) (paf_cons (pf_var 2) (paf_cons (pf_var 4) paf_nil)))) (paf_cons (pf_var 1) (paf_cons (pf_var 3) paf_nil)))) (pf_callR G_with_tree (hr.mono (by decide)) hg (by rfl) tk (paf_cons (pf_var 0) (paf_cons (pf_var 1) (paf_cons (pf_var 3) paf_nil))))))) pssf_nil)
    (pssf_cons (psf_if (ptf_cmp (op_eqD' (hu64 hr)) (pf_slice (pf_var 1) pof_none (pof_some (pf_callB call_lenX (by rfl) T.b_len (by decide +kernel) (paf_cons (pf_var 2) paf_nil)))) (pf_var 2)) (pssf_one (psf_ret pf_bl)) pssf_nil)
    (pssf_cons (psf_set (i := 5) nd rfl (by first | exact Or.inl rfl | exact Or.inr rfl) (pf_callR G_with_tree (hr.mono (by decide)) hg (by rfl) tk (paf_cons (pf_callR G_with_tree (hr.mono (by decide)) hg (by rfl) tk (paf_cons (pf_var 0) (paf_cons (pf_var 1) (paf_cons (pf_var 3) paf_nil)))) (paf_cons (pf_var 2) (paf_cons (pf_var 4) paf_nil)))))
    (pssf_one (psf_ret (pf_and (pf_cmp (op_eqD' (hu64 hr)) (pf_var 5) (pf_callR G_with_tree (hr.mono (by decide)) hg (by rfl) tk (paf_cons (pf_callR G_with_tree (hr.mono (by decide)) hg (by rfl) tk (paf_cons (pf_var 0) (paf_cons (pf_var 2) (paf_cons (pf_var 4) paf_nil)))) (paf_cons (pf_var 1) (paf_cons (pf_var 3) paf_nil))))) (pf_one (pf_cmp (op_eqD' (hu64 hr)) (pf_callR G_node_at (hr.mono (by decide)) hg (by rfl) tk (paf_cons (pf_var 5) (paf_cons (pf_var 1) paf_nil))) (pf_var 3)))))))))
theorem sc_law : FnScope N_law P_law (defScope s_law) := ⟨rfl, rfl, rfl, by decide +kernel, rfl, by decide +kernel, by decide +kernel⟩
theorem G_law (T : Tx K mg) : Gx P w K mg base 18 T.d_law F_law := by
  have G__law_reader := G__law_reader (P := P) (w := w) (base := base) T
  have G__law_fixed_trees := G__law_fixed_trees (P := P) (w := w) (base := base) T
  have G__law_random_tree := G__law_random_tree (P := P) (w := w) (base := base) T 14
  have G__law_loose_tree := G__law_loose_tree (P := P) (w := w) (base := base) T 14
  have G_places_of := G_places_of (P := P) (w := w) (base := base) T
  have G__law_random_tongue := G__law_random_tongue (P := P) (w := w) (base := base) T
  have G__law_draw := G__law_draw (P := P) (w := w) (base := base) T
  have G_size_of := G_size_of (P := P) (w := w) (base := base) T
  have G_depth_of := G_depth_of (P := P) (w := w) (base := base) T
  have G_bare := G_bare (P := P) (w := w) (base := base) T
  have G_notes_of := G_notes_of (P := P) (w := w) (base := base) T
  have G_remarks_of := G_remarks_of (P := P) (w := w) (base := base) T
  have G__law_check_two := G__law_check_two (P := P) (w := w) (base := base) T
  have G_nodes_of := G_nodes_of (P := P) (w := w) (base := base) T
  have G__law_check_place := G__law_check_place (P := P) (w := w) (base := base) T
  have G__law_check_notes := G__law_check_notes (P := P) (w := w) (base := base) T
  refine gx_of _ sc_law fun cdv A outer s H E hr hg => ?_
  have nd := sc_law.nd
  have tk := tkX (P := P) (w := w) (K := K) (mg := mg) (base := base) (x := "law") (st := s_law) (N := N_law) (f := T.d_law.f) (cdv := cdv) (A := A) (outer := outer) (s := s) (H := H) (E := E)
  have po := poX (P := P) (w := w) (K := K) (mg := mg) (base := base) (x := "law") (st := s_law) (N := N_law) (f := T.d_law.f) (cdv := cdv) (A := A) (outer := outer) (s := s) (H := H) (E := E)
  exact (pssf_cons (psf_set (i := 1) nd rfl (by first | exact Or.inl rfl | exact Or.inr rfl) (pf_callR G__law_reader (hr.mono (by decide)) hg (by rfl) tk (paf_cons (pf_var 0) paf_nil)))
    (pssf_cons (psf_set (i := 2) nd rfl (by first | exact Or.inl rfl | exact Or.inr rfl) (pf_callR0 G__law_fixed_trees (hr.mono (by decide)) hg (by rfl) tk))
    (pssf_cons (psf_for po rfl (pif_range1 (by rfl) T.b_range (paf_cons pf_int paf_nil)) (pgf_name (i := 3) nd rfl (by first | exact Or.inl rfl | exact Or.inr rfl))
    (pssf_cons (psf_expr (pf_lm PySem.F.slot_list_append PySem.F.type_list_append mtL_append (pf_var 2) (paf_cons (pf_callR G__law_random_tree (hr.mono (by decide)) hg (by rfl) tk (paf_cons (pf_var 1) (paf_cons (pf_callR G__law_random_tongue (hr.mono (by decide)) hg (by rfl) tk (paf_cons (pf_var 1) paf_nil)) (paf_cons (pf_lstS (paf_cons (pf_bin op_addD pf_int (pf_callR G__law_draw (hr.mono (by decide)) hg (by rfl) tk (paf_cons (pf_var 1) (paf_cons pf_int paf_nil)))) paf_nil)) paf_nil)))) paf_nil)))
    (pssf_one (psf_expr (pf_lm PySem.F.slot_list_append PySem.F.type_list_append mtL_append (pf_var 2) (paf_cons (pf_callR G__law_loose_tree (hr.mono (by decide)) hg (by rfl) tk (paf_cons (pf_var 1) (paf_cons (pf_lstS (paf_cons (pf_bin op_addD pf_int (pf_callR G__law_draw (hr.mono (by decide)) hg (by rfl) tk (paf_cons (pf_var 1) (paf_cons pf_int paf_nil)))) paf_nil)) paf_nil))) paf_nil))))))
    (pssf_fz (i := 2) (pssf_cons (psf_for po rfl (pif_any (pf_var 2)) (pgf_name (i := 4) nd rfl (by first | exact Or.inl rfl | exact Or.inr rfl))
    (pssf_cons (psf_par (i := 6) (j := 7) rfl nd rfl rfl (by decide) rfl rfl (paf_cons (pf_callR G_places_of (hr.mono (by decide)) hg (by rfl) tk (paf_cons (pf_var 4) paf_nil)) (paf_cons (pf_ix (pf_var 2) (pf_callR G__law_draw (hr.mono (by decide)) hg (by rfl) tk (paf_cons (pf_var 1) (paf_cons (pf_callB call_lenX (by rfl) T.b_len (by decide +kernel) (paf_cons (pf_var 2) paf_nil)) paf_nil)))) paf_nil)) (by rfl))
    (pssf_cons (psf_if (ptf_w (pwf_or (ptf_cmp (op_neD' (hu64 hr)) (pf_lcG (own := [("_law_pair", 10)]) rfl nd rfl G_nodes_of (hr.mono (by decide)) hg (by rfl) T.d_nodes_of.at_ T.d_nodes_of.fn.kp T.d_nodes_of.bd (paf_cons (pf_var 4) paf_nil) (blkOk_by (own := [("_law_pair", 10)]) (N := N_law) (sc := defScope s_law) (by decide +kernel)) (by decide +kernel) (fun _ _ _ _ _ => (pgf_name (i := 10) nd rfl (by first | exact Or.inl rfl | exact Or.inr rfl))) (fun _ _ _ _ _ => ptsf_nil) (fun _ _ _ _ _ => (pf_ix (pf_var 10) pf_int))) (pf_callTy call_listX (by rfl) T.b_list (by decide +kernel) (paf_cons (pf_var 6) paf_nil))) (pwf_or1 (ptf_cmp (op_neD' (hu64 hr)) (pf_callR G_size_of (hr.mono (by decide)) hg (by rfl) tk (paf_cons (pf_var 4) paf_nil)) (pf_callB call_lenX (by rfl) T.b_len (by decide +kernel) (paf_cons (pf_var 6) paf_nil)))))) (pssf_one (psf_ret pf_bl)) pssf_nil)
    (pssf_cons (psf_if (ptf_w (pwf_or (ptf_cmp (op_neD' (hu64 hr)) (pf_callR G_depth_of (hr.mono (by decide)) hg (by rfl) tk (paf_cons (pf_var 4) paf_nil)) (pf_bin op_addD pf_int (pf_callB (call_max1X rfl) (by rfl) T.b_max (by decide +kernel) (paf_cons (pf_lc (own := [("_law_at", 5)]) rfl nd (pif_any (pf_var 6)) (blkOk_by (own := [("_law_at", 5)]) (N := N_law) (sc := defScope s_law) (by decide +kernel)) (fun _ _ _ _ _ => (pgf_name (i := 5) nd rfl (by first | exact Or.inl rfl | exact Or.inr rfl))) (fun _ _ _ _ _ => ptsf_nil) (fun _ _ _ _ _ => (pf_callB call_lenX (by rfl) T.b_len (by decide +kernel) (paf_cons (pf_var 5) paf_nil)))) paf_nil)))) (pwf_or1 (ptf_cmp (op_neD' (hu64 hr)) (pf_callR G_places_of (hr.mono (by decide)) hg (by rfl) tk (paf_cons (pf_callR G_bare (hr.mono (by decide)) hg (by rfl) tk (paf_cons (pf_var 4) paf_nil)) paf_nil)) (pf_var 6))))) (pssf_one (psf_ret pf_bl)) pssf_nil)
    (pssf_cons (psf_if (ptf_cmp (op_neD' (hu64 hr)) (pf_lcG (own := [("_law_pair", 10)]) rfl nd rfl G_nodes_of (hr.mono (by decide)) hg (by rfl) T.d_nodes_of.at_ T.d_nodes_of.fn.kp T.d_nodes_of.bd (paf_cons (pf_callR G_bare (hr.mono (by decide)) hg (by rfl) tk (paf_cons (pf_var 4) paf_nil)) paf_nil) (blkOk_by (own := [("_law_pair", 10)]) (N := N_law) (sc := defScope s_law) (by decide +kernel)) (by decide +kernel) (fun _ _ _ _ _ => (pgf_name (i := 10) nd rfl (by first | exact Or.inl rfl | exact Or.inr rfl))) (fun _ _ _ _ _ => ptsf_nil) (fun _ _ _ _ _ => (pf_var 10))) (pf_lcG (own := [("_law_pair", 10)]) rfl nd rfl G_nodes_of (hr.mono (by decide)) hg (by rfl) T.d_nodes_of.at_ T.d_nodes_of.fn.kp T.d_nodes_of.bd (paf_cons (pf_var 4) paf_nil) (blkOk_by (own := [("_law_pair", 10)]) (N := N_law) (sc := defScope s_law) (by decide +kernel)) (by decide +kernel) (fun _ _ _ _ _ => (pgf_name (i := 10) nd rfl (by first | exact Or.inl rfl | exact Or.inr rfl))) (fun _ _ _ _ _ => ptsf_nil) (fun _ _ _ _ _ => (pf_var 10)))) (pssf_one (psf_ret pf_bl)) pssf_nil)
    (pssf_cons (psf_if (ptf_w (pwf_or (ptf_cmp (op_neD' (hu64 hr)) (pf_callR G_bare (hr.mono (by decide)) hg (by rfl) tk (paf_cons (pf_callR G_bare (hr.mono (by decide)) hg (by rfl) tk (paf_cons (pf_var 4) paf_nil)) paf_nil)) (pf_callR G_bare (hr.mono (by decide)) hg (by rfl) tk (paf_cons (pf_var 4) paf_nil))) (pwf_or (ptf_cmp (op_neD' (hu64 hr)) (pf_callR G_notes_of (hr.mono (by decide)) hg (by rfl) tk (paf_cons (pf_callR G_bare (hr.mono (by decide)) hg (by rfl) tk (paf_cons (pf_var 4) paf_nil)) paf_nil)) (pf_tup paf_nil)) (pwf_or1 (ptf_cmp (op_neD' (hu64 hr)) (pf_callR G_remarks_of (hr.mono (by decide)) hg (by rfl) tk (paf_cons (pf_callR G_bare (hr.mono (by decide)) hg (by rfl) tk (paf_cons (pf_var 4) paf_nil)) paf_nil)) (pf_tup paf_nil)))))) (pssf_one (psf_ret pf_bl)) pssf_nil)
    (pssf_one (psf_for po rfl (pif_any (pf_var 6)) (pgf_name (i := 5) nd rfl (by first | exact Or.inl rfl | exact Or.inr rfl))
    (pssf_cons (psf_if (ptf_w (pwf_or (ptf_not (ptf_tru (pf_callR G__law_check_place (hr.mono (by decide)) hg (by rfl) tk (paf_cons (pf_var 4) (paf_cons (pf_var 5) (paf_cons (pf_var 7) paf_nil)))))) (pwf_or1 (ptf_not (ptf_tru (pf_callR G__law_check_notes (hr.mono (by decide)) hg (by rfl) tk (paf_cons (pf_var 4) (paf_cons (pf_var 5) paf_nil)))))))) (pssf_one (psf_ret pf_bl)) pssf_nil)
    (pssf_cons (psf_par (i := 8) (j := 9) rfl nd rfl rfl (by decide) rfl rfl (paf_cons (pf_ix (pf_var 6) (pf_callR G__law_draw (hr.mono (by decide)) hg (by rfl) tk (paf_cons (pf_var 1) (paf_cons (pf_callB call_lenX (by rfl) T.b_len (by decide +kernel) (paf_cons (pf_var 6) paf_nil)) paf_nil)))) (paf_cons (pf_ix (pf_var 2) (pf_callR G__law_draw (hr.mono (by decide)) hg (by rfl) tk (paf_cons (pf_var 1) (paf_cons (pf_callB call_lenX (by rfl) T.b_len (by decide +kernel) (paf_cons (pf_var 2) paf_nil)) paf_nil)))) paf_nil)) (by rfl))
    (pssf_one (psf_if (ptf_not (ptf_tru (pf_callR G__law_check_two (hr.mono (by decide)) hg (by rfl) tk (paf_cons (pf_var 4) (paf_cons (pf_var 5) (paf_cons (pf_var 8) (paf_cons (pf_var 7) (paf_cons (pf_var 9) paf_nil)))))))) (pssf_one (psf_ret pf_bl)) pssf_nil))))))))))))
    (pssf_one (psf_ret pf_bl)))))))
end
end Tk

set_option Elab.async false
set_option linter.all false
set_option maxRecDepth 100000
set_option maxHeartbeats 4000000
namespace Tk
open PySem L2 Td Tg Tt
theorem leave_rt {w' : Ws} {n : Nat} {d : PyData} (h : w'.length = n) : leave n (.rt d w') = .ok d w' := by
  subst h
  simp only [leave]
  split
  · rw [List.take_length]
  · rfl
theorem k_ii : kitB "int" "int" = some true := by decide +kernel
theorem k_ib : kitB "int" "bool" = some false := by decide +kernel
theorem k_is : kitB "int" "str" = some false := by decide +kernel
theorem k_it : kitB "int" "tuple" = some false := by decide +kernel
theorem k_bi : kitB "bool" "int" = some true := by decide +kernel
theorem k_bb : kitB "bool" "bool" = some true := by decide +kernel
theorem k_bs : kitB "bool" "str" = some false := by decide +kernel
theorem k_bt : kitB "bool" "tuple" = some false := by decide +kernel
theorem k_si : kitB "str" "int" = some false := by decide +kernel
theorem k_sb : kitB "str" "bool" = some false := by decide +kernel
theorem k_ss : kitB "str" "str" = some true := by decide +kernel
theorem k_st : kitB "str" "tuple" = some false := by decide +kernel
theorem k_ti : kitB "tuple" "int" = some false := by decide +kernel
theorem k_tb : kitB "tuple" "bool" = some false := by decide +kernel
theorem k_ts : kitB "tuple" "str" = some false := by decide +kernel
theorem k_tt : kitB "tuple" "tuple" = some true := by decide +kernel
theorem k_li : kitB "list" "int" = some false := by decide +kernel
theorem k_lb : kitB "list" "bool" = some false := by decide +kernel
theorem k_ls : kitB "list" "str" = some false := by decide +kernel
theorem k_lt : kitB "list" "tuple" = some false := by decide +kernel
theorem k_ni : kitB "NoneType" "int" = some false := by decide +kernel
theorem k_nb : kitB "NoneType" "bool" = some false := by decide +kernel
theorem k_ns : kitB "NoneType" "str" = some false := by decide +kernel
theorem k_nt : kitB "NoneType" "tuple" = some false := by decide +kernel
/-! ### places, what stands there -/
def plI (q : List Nat) : List PyData := q.map fun (i : Nat) => PyData.int (i : Int)
def plD (q : List Nat) : PyData := .tuple (plI q)
theorem eB_ok {f : Ws → PyData → PyData → Option PyData} {fa fb : FE} {ρ : Ev} {w : Ws} {a b c : PyData} (h1 : fa ρ w = .ok a w) (h2 : fb ρ w = .ok b w) (h3 : f w a b = some c) : eB f fa fb ρ w = .ok c w := by
  simp only [eB, h1, h2, Oc.bind, h3, Oc.of]
theorem eV_ok {i : Nat} {ρ : Ev} {w : Ws} {d : PyData} (h : ρ[i]? = some (some d)) : eV i ρ w = .ok d w := by simp only [eV, h]
theorem ix2 {w : Ws} {t : Tr} : ixD w (toD t) (.int 2) = some (.tuple (toDs t.ps)) := by cases t; rfl
theorem ix1 {w : Ws} {t : Tr} : ixD w (toD t) (.int 1) = some (.str t.hd) := by cases t; rfl
theorem ix0 {w : Ws} {t : Tr} : ixD w (toD t) (.int 0) = some (.tuple (t.ns.map .str)) := by cases t; rfl
theorem ixk {w : Ws} {ps : List Tr} {k : Nat} {p : Tr} (h : ps[k]? = some p) : ixD w (.tuple (toDs ps)) (.int (k : Int)) = some (toD p) := by
  rw [ixD_tup]
  exact Td.atI_nat (by rw [toDs_map, List.getElem?_map, h]; rfl)
theorem below_loop (w : Ws) (x0 x1 : Option PyData) : ∀ (q : List Nat) (t a : Tr) (x3 : Option PyData), sub t q = some a →
    ∃ y3, forL (gN 3) (sAsg (eB ixD (eB ixD (eV 2) (eC (.int 2))) (eV 3)) (gN 2)) (plI q) [x0, x1, some (toD t), x3] w = .nx [x0, x1, some (toD a), y3] w
  | [], t, a, x3, h => ⟨x3, by rw [sub_nil] at h; cases h; rfl⟩
  | k :: q, .mk ns h ps, a, x3, e => by
    obtain ⟨p, hp, e⟩ := sub_inv e
    obtain ⟨y3, ih⟩ := below_loop w x0 x1 q p a (some (.int (k : Int))) e
    refine ⟨y3, ?_⟩
    have i2 : ixD w (toD (.mk ns h ps)) (.int 2) = some (.tuple (toDs ps)) := ix2
    have ik := ixk (w := w) hp
    generalize toD (.mk ns h ps) = T at i2
    show forL _ _ (.int (k : Int) :: plI q) _ _ = _
    simp only [forL, gN, List.set_cons_zero, List.set_cons_succ, sAsg, eB, eV, eC, List.getElem?_cons_zero, List.getElem?_cons_succ, Oc.bind, i2, Oc.of, ik, Oc.thenS]
    exact ih
theorem below_ok {t a : Tr} {q : List Nat} (e : sub t q = some a) (w : Ws) : F_below [toD t, plD q] w = .ok (toD a) w := by
  obtain ⟨y3, h⟩ := below_loop w (some (toD t)) (some (plD q)) q t a none e
  show leave w.length (b_below [some (toD t), some (plD q), none, none] w) = _
  have b : b_below [some (toD t), some (plD q), none, none] w = .rt (toD a) w := by
    unfold b_below
    have it : itD (plD q) = some (plI q) := rfl
    generalize plD q = PQ at *
    generalize toD t = T at *
    rw [seq_nx (f := sAsg (eV 0) (gN 2)) (ρ1 := [some T, some PQ, some T, none]) (w1 := w) rfl]
    rw [seq_nx (ρ1 := [some T, some PQ, some (toD a), y3]) (w1 := w) (by
      simp only [sFor, iE, eV, List.getElem?_cons_zero, List.getElem?_cons_succ, Oc.bind, it, Oc.of, Oc.thenS]
      exact h)]
    rfl
  rw [b]
  exact leave_rt rfl
theorem is_number_ok (i : Nat) (w : Ws) : F_is_number [.int (i : Int)] w = .ok (.bool true) w := by
  have e1 : F_is_integer [.int (i : Int)] w = .ok (.bool true) w := by
    show leave w.length (b_is_integer [some (.int (i : Int))] w) = _
    have b : b_is_integer [some (.int (i : Int))] w = .rt (.bool true) w := by
      simp [b_is_integer, defF, startE, sRet, sExp, sIf, sSeq, sAsg, sFor, gN, gT, gC, gZ, eAn, eOr, eNo, eIf, eIsi, eV, eC, eB, eU, eCb, eCall, eSl, oN, oS, eTup, eLst, aN, aC, eLc, eCh, tAn, tOr', tNo, tB', tTr, tYs, iE, iZ, iR1, iR2, sNil, Oc.bind, Oc.thenS, Oc.of, Oc.on, tyD, leave_rt, truD, List.replicate, List.set, List.append_nil, List.nil_append, List.cons_append, wipeE, cond_true, cond_false, k_ii, k_ib, k_is, k_it, k_bi, k_bb, k_bs, k_bt, k_si, k_sb, k_ss, k_st, k_ti, k_tb, k_ts, k_tt, k_li, k_lb, k_ls, k_lt, k_ni, k_nb, k_ns, k_nt]
    rw [b]; exact leave_rt rfl
  show leave w.length (b_is_number [some (.int (i : Int))] w) = _
  have b : b_is_number [some (.int (i : Int))] w = .rt (.bool true) w := by
    have : decide ((0 : Int) ≤ (i : Int)) = true := decide_eq_true (by omega)
    simp only [b_is_number, sRet, eAn, eCall, aC, aN, eB, eV, eC, List.getElem?_cons_zero, Oc.bind, List.append_nil, e1, geD, cmpD, this, Oc.of, Oc.thenS]
  rw [b]; exact leave_rt rfl
theorem is_place_ok (q : List Nat) (w : Ws) (hq : q.length ≤ 1000) : F_is_place [plD q] w = .ok (.bool true) w := by
  show leave w.length (b_is_place [some (plD q), none] w) = _
  have q1 : wS (fun _ _ => False) (fun d w1 => d = .bool true ∧ w1 = w) (b_is_place [some (plD q), none] w) := by
    unfold b_is_place
    have it : itD (plD q) = some (plI q) := rfl
    have ty : tyD w (plD q) = some "tuple" := rfl
    generalize hPQ : plD q = PQ at *
    simp only [wipeE, sRet, sExp, sIf, sAsg, sFor, gN, gT, gC, gZ, eAn, eOr, eNo, eIf, eIsi, eV, eC, eB, eU, eCb, eCall, eSl, oN, oS, eTup, eLst, aN, aC, eLc, eCh, tAn, tOr', tNo, tB', tTr, tYs, iE, iZ, iR1, iR2, sNil, wO_bind, wO_ok, wO_onE, wO_ofif, wO_some, wS_seq, wS_then, wS_nx, wS_rt, cond_true, cond_false, List.append_nil, List.nil_append, List.cons_append, List.getElem?_cons_zero, List.getElem?_cons_succ, List.set_cons_zero, List.set_cons_succ, ty, Option.bind_some, k_tt, it]
    refine wA_lcL (fun i acc W => W = w ∧ acc.length = i ∧ ∀ x ∈ acc, x = .bool true) (plI q) 0 w [] (by rw [sizeLine_eq]; simp [plI]; omega) ⟨rfl, rfl, fun x h => by cases h⟩ ?_ ?_
    · rintro j d acc W hj ⟨rfl, hl, ha⟩
      obtain ⟨i, _, rfl⟩ := List.mem_map.mp (List.mem_of_getElem? hj)
      simp only [wipeE, sRet, sExp, sIf, sAsg, sFor, gN, gT, gC, gZ, eAn, eOr, eNo, eIf, eIsi, eV, eC, eB, eU, eCb, eCall, eSl, oN, oS, eTup, eLst, aN, aC, eLc, eCh, tAn, tOr', tNo, tB', tTr, tYs, iE, iZ, iR1, iR2, sNil, wO_bind, wO_ok, wO_onE, wO_ofif, wO_some, wS_seq, wS_then, wS_nx, wS_rt, cond_true, cond_false, List.append_nil, List.nil_append, List.cons_append, List.getElem?_cons_zero, List.getElem?_cons_succ, List.set_cons_zero, List.set_cons_succ, is_number_ok]
      refine ⟨trivial, by simp [hl], fun x hx => ?_⟩
      rcases List.mem_append.mp hx with hx | hx
      · exact ha x hx
      · exact List.mem_singleton.mp hx
    · rintro acc W ⟨rfl, hl, ha⟩
      have e : acc = List.replicate acc.length (.bool true) := List.eq_replicate_iff.mpr ⟨rfl, ha⟩
      have ab : allD W [.list acc] = some (.bool true) := by
        rw [e]
        generalize acc.length = n
        have b : boolsOf (List.replicate n (PyData.bool true)) = some (List.replicate n true) := by
          induction n with
          | zero => rfl
          | succ n ih => simp [List.replicate_succ, boolsOf, ih]
        simp [allD, qD, lstOf_list, b]
      simp only [wipeE, sRet, sExp, sIf, sAsg, sFor, gN, gT, gC, gZ, eAn, eOr, eNo, eIf, eIsi, eV, eC, eB, eU, eCb, eCall, eSl, oN, oS, eTup, eLst, aN, aC, eLc, eCh, tAn, tOr', tNo, tB', tTr, tYs, iE, iZ, iR1, iR2, sNil, wO_bind, wO_ok, wO_onE, wO_ofif, wO_some, wS_seq, wS_then, wS_nx, wS_rt, cond_true, cond_false, List.append_nil, List.nil_append, List.cons_append, List.getElem?_cons_zero, List.getElem?_cons_succ, List.set_cons_zero, List.set_cons_succ, ab]
      exact ⟨trivial, trivial⟩
  obtain ⟨d, w1, e, rfl, rfl⟩ := wS_rtE q1
  rw [e]; exact leave_rt rfl
theorem has_loop (w : Ws) (x0 x1 : Option PyData) : ∀ (q : List Nat) (t a : Tr) (x3 : Option PyData), sub t q = some a →
    ∃ y2 y3, forL (gN 3) (sSeq (sIf (tB' (eB geD (eV 3) (eCb lenD (aC (eB ixD (eV 2) (eC (.int 2))) aN)))) (sRet (eC (.bool false))) sNil) (sAsg (eB ixD (eB ixD (eV 2) (eC (.int 2))) (eV 3)) (gN 2))) (plI q) [x0, x1, some (toD t), x3] w = .nx [x0, x1, y2, y3] w
  | [], t, a, x3, h => ⟨_, x3, rfl⟩
  | k :: q, .mk ns h ps, a, x3, e => by
    obtain ⟨p, hp, e⟩ := sub_inv e
    obtain ⟨y2, y3, ih⟩ := has_loop w x0 x1 q p a (some (.int (k : Int))) e
    refine ⟨y2, y3, ?_⟩
    have i2 : ixD w (toD (.mk ns h ps)) (.int 2) = some (.tuple (toDs ps)) := ix2
    have ik := ixk (w := w) hp
    have hk := (List.getElem?_eq_some_iff.mp hp).1
    have ge : decide (((toDs ps).length : Int) ≤ (k : Int)) = false := decide_eq_false (by rw [toDs_map, List.length_map]; omega)
    generalize toD (.mk ns h ps) = T at i2
    show forL _ _ (.int (k : Int) :: plI q) _ _ = _
    simp only [forL, gN, List.set_cons_zero, List.set_cons_succ, sSeq, sIf, tB', sAsg, eB, eV, eC, eCb, aC, aN, List.getElem?_cons_zero, List.getElem?_cons_succ, Oc.bind, i2, Oc.of, ik, Oc.thenS, lenD, geD, cmpD, ge, cond_false, sNil]
    exact ih
theorem has_place_ok {t a : Tr} {q : List Nat} (e : sub t q = some a) (hq : q.length ≤ 1000) (w : Ws) : F_has_place [toD t, plD q] w = .ok (.bool true) w := by
  obtain ⟨y2, y3, h⟩ := has_loop w (some (toD t)) (some (plD q)) q t a none e
  have ip := is_place_ok q w hq
  show leave w.length (b_has_place [some (toD t), some (plD q), none, none] w) = _
  have b : b_has_place [some (toD t), some (plD q), none, none] w = .rt (.bool true) w := by
    unfold b_has_place
    have it : itD (plD q) = some (plI q) := rfl
    generalize plD q = PQ at *
    generalize toD t = T at *
    rw [seq_nx (ρ1 := [some T, some PQ, none, none]) (w1 := w) (by
      simp only [sIf, tNo, tTr, eCall, aC, aN, eV, List.getElem?_cons_zero, List.getElem?_cons_succ, Oc.bind, List.append_nil, ip, truD, Oc.of, Bool.not_true, Oc.thenS, cond_false, sNil])]
    rw [seq_nx (f := sAsg (eV 0) (gN 2)) (ρ1 := [some T, some PQ, some T, none]) (w1 := w) rfl]
    rw [seq_nx (ρ1 := [some T, some PQ, y2, y3]) (w1 := w) (by
      simp only [sFor, iE, eV, List.getElem?_cons_zero, List.getElem?_cons_succ, Oc.bind, it, Oc.of, Oc.thenS]
      exact h)]
    rfl
  rw [b]
  exact leave_rt rfl
theorem require_ok {t a : Tr} {q : List Nat} (e : sub t q = some a) (hq : q.length ≤ 1000) (w : Ws) : F_require_place [toD t, plD q] w = .ok .none w := by
  have hp := has_place_ok e hq w
  show leave w.length (b_require_place [some (toD t), some (plD q)] w) = _
  have b : b_require_place [some (toD t), some (plD q)] w = .nx [some (toD t), some (plD q)] w := by
    unfold b_require_place
    generalize plD q = PQ at *
    generalize toD t = T at *
    simp only [sIf, tNo, tTr, eCall, aC, aN, eV, List.getElem?_cons_zero, List.getElem?_cons_succ, Oc.bind, List.append_nil, hp, truD, Oc.of, Bool.not_true, Oc.thenS, cond_false, sNil]
  rw [b]
  exact leave_end rfl
theorem node_at_ok {t a : Tr} {q : List Nat} (e : sub t q = some a) (hq : q.length ≤ 1000) (w : Ws) : F_node_at [toD t, plD q] w = .ok (toD a) w := by
  have h1 := require_ok e hq w
  have h2 := below_ok e w
  show leave w.length (b_node_at [some (toD t), some (plD q)] w) = _
  have b : b_node_at [some (toD t), some (plD q)] w = .rt (toD a) w := by
    unfold b_node_at
    generalize plD q = PQ at *
    generalize toD t = T at *
    simp only [sSeq, sExp, sRet, eCall, aC, aN, eV, List.getElem?_cons_zero, List.getElem?_cons_succ, Oc.bind, List.append_nil, h1, h2, Oc.thenS]
  rw [b]
  exact leave_rt rfl
end Tk

set_option Elab.async false
set_option linter.all false
set_option maxRecDepth 100000
set_option maxHeartbeats 4000000
namespace Tk
open PySem L2 Td Tg Tt
/-! ### putting at a place -/
theorem cut_to {α : Type} (xs : List α) (k : Nat) : cutL xs none (some (k : Int)) = xs.take k := by
  unfold cutL
  rw [HT.sIx_none, HT.sIx_nat, List.drop_zero, Nat.sub_zero]
  by_cases h : k ≤ xs.length
  · rw [Nat.min_eq_left h]
  · rw [Nat.min_eq_right (by omega), List.take_of_length_le (Nat.le_refl _), List.take_of_length_le (by omega)]
theorem cut_from {α : Type} (xs : List α) (k : Nat) : cutL xs (some (k : Int)) none = xs.drop k := by
  unfold cutL
  rw [HT.sIx_none, HT.sIx_nat]
  by_cases h : k ≤ xs.length
  · rw [Nat.min_eq_left h, List.take_of_length_le (by rw [List.length_drop]; exact Nat.le_refl _)]
  · rw [Nat.min_eq_right (by omega), Nat.sub_self, List.take_zero, List.drop_eq_nil_of_le (by omega)]
theorem cut_from1 {α : Type} (xs : List α) (k : Nat) : cutL xs (some ((k : Int) + 1)) none = xs.drop (k + 1) := by
  have := cut_from xs (k + 1)
  rw [show (((k + 1 : Nat)) : Int) = (k : Int) + 1 by omega] at this
  exact this
mutual
theorem bnd_toD (n : Nat) : ∀ t : Tr, bnd n (toD t) = true
  | .mk ns h ps => by
    have e : bndA n (ns.map PyData.str) = true := by
      induction ns with
      | nil => rfl
      | cons a ns ih => simp [bndA, bnd, ih]
    simp [toD, bnd, bndA, bnd_toDs n ps, e]
theorem bnd_toDs (n : Nat) : ∀ ps : List Tr, bndA n (toDs ps) = true
  | [] => rfl
  | p :: ps => by simp [toDs, bndA, bnd_toD n p, bnd_toDs n ps]
end
theorem bnd_plD (n : Nat) (q : List Nat) : bnd n (plD q) = true := by
  unfold plD
  simp only [bnd]
  unfold plI
  induction q with
  | nil => rfl
  | cons a q ih => simp [bndA, bnd, ih]
/-- what is passed on the way to a place -/
def way : Tr → List Nat → List Tr
  | t, [] => [t]
  | .mk ns h ps, k :: q => .mk ns h ps :: (match ps[k]? with
    | some p => way p q
    | none => [])
theorem way_at : ∀ {q : List Nat} {t a : Tr} {i : Nat}, sub t q = some a → i ≤ q.length → ∃ b, (way t q)[i]? = some b ∧ sub t (q.take i) = some b
  | [], t, a, i, e, h => by
    have : i = 0 := by simpa using h
    subst this
    exact ⟨t, by cases t; rfl, by rw [List.take_nil, sub_nil]⟩
  | k :: q, .mk ns h ps, a, 0, e, _ => ⟨_, rfl, by rw [List.take_zero, sub_nil]⟩
  | k :: q, .mk ns h ps, a, i + 1, e, hi => by
    obtain ⟨p, hp, e⟩ := sub_inv e
    obtain ⟨b, hb, hs⟩ := way_at (i := i) e (by simpa using hi)
    refine ⟨b, ?_, ?_⟩
    · simp only [way, hp]; exact hb
    · rw [List.take_succ_cons, sub_cons hp]; exact hs
theorem way_loop (w : Ws) (x0 x1 x2 : Option PyData) : ∀ (q : List Nat) (t a : Tr) (pre : List PyData) (x4 : Option PyData) (r : List (Option PyData)), sub t q = some a → pre.length + q.length + 1 ≤ 1000 →
    ∃ y4, forL (gN 4) (sExp (eLm apL (eV 3) (aC (eB ixD (eB ixD (eB ixD (eV 3) (eU negD (eC (.int 1)))) (eC (.int 2))) (eV 4)) aN))) (plI q) (x0 :: x1 :: x2 :: some (rf w.length) :: x4 :: r) (w ++ [.lst (pre ++ [toD t])]) = .nx (x0 :: x1 :: x2 :: some (rf w.length) :: y4 :: r) (w ++ [.lst (pre ++ toDs (way t q))])
  | [], t, a, pre, x4, r, h, _ => ⟨x4, by cases t; rfl⟩
  | k :: q, .mk ns h ps, a, pre, x4, r, e, hl => by
    obtain ⟨p, hp, e⟩ := sub_inv e
    obtain ⟨y4, ih⟩ := way_loop w x0 x1 x2 q p a (pre ++ [toD (.mk ns h ps)]) (some (.int (k : Int))) r e (by simp only [List.length_append, List.length_cons, List.length_nil] at hl ⊢; omega)
    refine ⟨y4, ?_⟩
    have i2 : ∀ W, ixD W (toD (.mk ns h ps)) (.int 2) = some (.tuple (toDs ps)) := fun W => ix2
    have ik := fun W => ixk (w := W) hp
    have hway : toDs (way (.mk ns h ps) (k :: q)) = toD (.mk ns h ps) :: toDs (way p q) := by simp only [way, hp]; rfl
    rw [hway]
    generalize toD (.mk ns h ps) = T at *
    have g1 : (w ++ [Ob.lst (pre ++ [T])])[w.length]? = some (.lst (pre ++ [T])) := own_at0
    have gi : ixD (w ++ [Ob.lst (pre ++ [T])]) (rf w.length) (.int (-1)) = some T := by rw [ixD_rf g1]; exact Td.atI_last pre T
    have hz : (pre ++ [T]).length < sizeLine := by rw [sizeLine_eq, List.length_append, List.length_singleton]; simp only [List.length_cons] at hl; omega
    have u := upd_at (w := w ++ [Ob.lst (pre ++ [T])]) (q := w.length) (k := fun xs => apL xs [toD p]) (d := .none) (ys := (pre ++ [T]) ++ [toD p]) g1 (by simp only [apL]; rw [if_pos hz])
    have st : (w ++ [Ob.lst (pre ++ [T])]).set w.length (.lst ((pre ++ [T]) ++ [toD p])) = w ++ [.lst ((pre ++ [T]) ++ [toD p])] := own_set0
    have n1 : negD (w ++ [Ob.lst (pre ++ [T])]) (.int 1) = some (.int (-1)) := rfl
    show forL _ _ (.int (k : Int) :: plI q) _ _ = _
    simp only [forL, gN, List.getElem?_cons_zero, List.getElem?_cons_succ, List.set_cons_zero, List.set_cons_succ, sExp, eLm, eB, eU, eV, eC, aC, aN, Oc.bind, Oc.of, n1, gi, i2, ik, lst_at g1, Option.isSome_some, Oc.on, cond_true, u, st, Oc.thenS]
    rw [ih]
    simp
theorem setTk {ps : List Tr} {k : Nat} {p x : Tr} (h : ps[k]? = some p) : toDs (ps.set k x) = (toDs ps).take k ++ [toD x] ++ (toDs ps).drop (k + 1) := by
  have hk := (List.getElem?_eq_some_iff.mp h).1
  rw [List.set_eq_take_append_cons_drop, if_pos hk]
  simp only [toDs_map, List.map_append, List.map_cons, List.map_take, List.map_drop, List.append_assoc, List.singleton_append]
theorem ndsA_len : ∀ ps : List Tr, ps.length ≤ ndsA ps
  | [] => Nat.zero_le _
  | p :: ps => by
    have := ndsA_len ps
    have := nds_hgt p
    simp only [ndsA, List.length_cons]; omega
theorem len_ps {t : Tr} : t.ps.length < nds t := by
  cases t with
  | mk ns h ps => have := ndsA_len ps; simp only [nds, Tr.ps]; omega
theorem nds_sub : ∀ {q : List Nat} {t a : Tr}, sub t q = some a → nds a ≤ nds t := by
  intro q t a e
  have h1 := nds_put (o := .mk [] "" []) e
  have h2 : 0 < nds (put t q (.mk [] "" [])) := by have := nds_hgt (put t q (.mk [] "" [])); omega
  have h3 : nds (.mk [] "" []) = 1 := rfl
  omega
theorem len_q {q : List Nat} {t a : Tr} (e : sub t q = some a) : q.length < nds t := by
  have := hgt_sub e
  have := nds_hgt t
  omega
theorem dn_get {n i : Nat} (h : i < n) : (dnD ((n : Int) - 1) (-1))[i]? = some (.int ((n - 1 - i : Nat) : Int)) := by
  have e : ((n : Int) - 1 - -1).toNat = n := by omega
  unfold dnD
  rw [e, List.getElem?_map, List.getElem?_range h, Option.map_some]
  congr 2
  omega
theorem dn_len (n : Nat) : (dnD ((n : Int) - 1) (-1)).length = n := by
  unfold dnD
  rw [List.length_map, List.length_range]
  omega
theorem toD_eq (t : Tr) : toD t = .tuple [.tuple (t.ns.map .str), .str t.hd, .tuple (toDs t.ps)] := by cases t; rfl
theorem bindok {α β : Type} {a : α} {w : Ws} {f : α → Ws → Oc β} : (Oc.ok a w).bind f = f a w := rfl
theorem gT3 {t : Tr} {i j k : Nat} {ρ : Ev} {w : Ws} : gT 3 (gC (gN i) (gC (gN j) (gC (gN k) gZ))) (toD t) ρ w = .ok (((ρ.set i (some (.tuple (t.ns.map .str)))).set j (some (.str t.hd))).set k (some (.tuple (toDs t.ps)))) w := by
  rw [toD_eq]; rfl
theorem replaced_ok {t a o : Tr} {q : List Nat} {w : Ws} (hc : Cl w) (e : sub t q = some a) (hn : nds t ≤ 1000) : F_replaced [toD t, plD q, toD o] w = .ok (toD (put t q o)) w := by
  have hq := len_q e
  show leave w.length (b_replaced [some (toD t), some (plD q), some (toD o), none, none, none, none, none, none, none] w) = _
  have key : wS (fun _ _ => False) (fun d W => d = toD (put t q o) ∧ W = w ++ [.lst (toDs (way t q))]) (b_replaced [some (toD t), some (plD q), some (toD o), none, none, none, none, none, none, none] w) := by
    unfold b_replaced
    have sz1 : szOk 1 = true := szOk_of (by omega)
    have it : itD (plD q) = some (plI q) := rfl
    obtain ⟨y4, l1⟩ := way_loop w (some (toD t)) (some (plD q)) (some (toD o)) q t a [] none [none, none, none, none, none] e (by simp only [List.length_nil]; omega)
    have ln : ∀ W, lenD W [plD q] = some (.int (q.length : Int)) := fun W => by simp [lenD, plD, plI]
    have sb : ∀ W, subD W (.int (q.length : Int)) (.int 1) = some (.int ((q.length : Int) - 1)) := fun W => rfl
    have ng : ∀ W, negD W (.int 1) = some (.int (-1)) := fun W => rfl
    have c1 : c62 ((q.length : Int) - 1) = true := by unfold c62; exact decide_eq_true (by omega)
    have c2 : c62 (-1) = true := by decide
    simp only [eLstS, List.length_cons, List.length_nil, Nat.zero_add, sz1, Oc.on, wipeE, sRet, sExp, sIf, sAsg, sFor, gN, gT, gC, gZ, eAn, eOr, eNo, eIf, eIsi, eV, eC, eB, eU, eCb, eCall, eSl, oN, oS, eTup, eLst, aN, aC, eLc, eCh, tAn, tOr', tNo, tB', tTr, tYs, iE, iZ, iR1, iR2, sNil, wO_bind, wO_ok, wO_onE, wO_ofif, wO_some, wS_seq, wS_then, wS_nx, wS_rt, cond_true, cond_false, List.append_nil, List.nil_append, List.cons_append, List.getElem?_cons_zero, List.getElem?_cons_succ, List.set_cons_zero, List.set_cons_succ, wO_onE, true_and, it]
    rw [show w ++ [Ob.lst [toD t]] = w ++ [Ob.lst ([] ++ [toD t])] from rfl, wS_eqn l1]
    simp only [iR3, wipeE, sRet, sExp, sIf, sAsg, sFor, gN, gT, gC, gZ, eAn, eOr, eNo, eIf, eIsi, eV, eC, eB, eU, eCb, eCall, eSl, oN, oS, eTup, eLst, aN, aC, eLc, eCh, tAn, tOr', tNo, tB', tTr, tYs, iE, iZ, iR1, iR2, sNil, wO_bind, wO_ok, wO_onE, wO_ofif, wO_some, wS_seq, wS_then, wS_nx, wS_rt, cond_true, cond_false, List.append_nil, List.nil_append, List.cons_append, List.getElem?_cons_zero, List.getElem?_cons_succ, List.set_cons_zero, List.set_cons_succ, ln, sb, ng, c1, c2, Bool.and_self, decide_true, wO_onE, true_and]
    have gW : (w ++ [Ob.lst (toDs (way t q))])[w.length]? = some (.lst (toDs (way t q))) := own_at0
    refine wS_forL (fun i ρ W => W = w ++ [.lst (toDs (way t q))] ∧ ∃ b y6 y7 y8 y9, sub t (q.take (q.length - i)) = some b ∧
      ρ = [some (toD t), some (plD q), some (toD o), some (rf w.length), y4, some (toD (put b (q.drop (q.length - i)) o)), y6, y7, y8, y9]) _ 0 _ _ ⟨rfl, a, none, none, none, none, ?_, ?_⟩ ?_ ?_
    · rw [Nat.sub_zero, List.take_length]; exact e
    · rw [Nat.sub_zero, List.drop_length, put_nil]
    · rintro i d ρ W hj ⟨rfl, b, y6, y7, y8, y9, hb, rfl⟩
      rw [Nat.zero_add] at hb ⊢
      have hi : i < q.length := by
        have := (List.getElem?_eq_some_iff.mp hj).1
        rw [dn_len] at this; exact this
      rw [dn_get hi] at hj
      cases hj
      obtain ⟨c, hc1, hc2⟩ := way_at (i := q.length - 1 - i) e (by omega)
      have hlt : q.length - 1 - i < q.length := by omega
      have hqk : q[q.length - 1 - i]? = some q[q.length - 1 - i] := List.getElem?_eq_getElem hlt
      generalize hk : q[q.length - 1 - i] = k at hqk
      have htk : q.take (q.length - i) = q.take (q.length - 1 - i) ++ [k] := by
        rw [show q.length - i = (q.length - 1 - i) + 1 by omega, List.take_succ, hqk]; rfl
      have hdr : q.drop (q.length - 1 - i) = k :: q.drop (q.length - i) := by
        rw [List.drop_eq_getElem_cons hlt, hk, show q.length - 1 - i + 1 = q.length - i by omega]
      rw [htk, sub_app hc2] at hb
      obtain ⟨cns, chd, cps⟩ := c
      obtain ⟨p, hp, hpb⟩ := sub_inv hb
      rw [sub_nil] at hpb
      cases hpb
      have hps := (List.getElem?_eq_some_iff.mp hp).1
      have hcl : cps.length ≤ 1000 := by
        have h1 := nds_sub hc2
        have h2 := len_ps (t := .mk cns chd cps)
        simp only [Tr.ps] at h2
        omega
      have ixW : ixD (w ++ [Ob.lst (toDs (way t q))]) (rf w.length) (.int ((q.length - 1 - i : Nat) : Int)) = some (.tuple [.tuple (cns.map .str), .str chd, .tuple (toDs cps)]) := by
        rw [ixD_rf gW]
        exact Td.atI_nat (by rw [toDs_map, List.getElem?_map, hc1]; rfl)
      have ixP : ∀ W, ixD W (plD q) (.int ((q.length - 1 - i : Nat) : Int)) = some (.int (k : Int)) := fun W => by
        unfold plD
        rw [ixD_tup]
        exact Td.atI_nat (by unfold plI; rw [List.getElem?_map, hqk]; rfl)
      have ad : ∀ W, addD W (.int (k : Int)) (.int 1) = some (.int ((k : Int) + 1)) := fun W => rfl
      have lt : (toDs cps).length = cps.length := by rw [toDs_map, List.length_map]
      have s3 : szOk 3 = true := szOk_of (by omega)
      generalize hR : toD (put b (q.drop (q.length - i)) o) = RS
      have add1 : ∀ W, addD W (.tuple ((toDs cps).take k)) (.tuple [RS]) = some (.tuple ((toDs cps).take k ++ [RS])) := fun W => by
        simp only [addD]
        rw [if_pos (szOk_of (by rw [List.length_take, lt, List.length_singleton]; omega))]
      have add2 : ∀ W, addD W (.tuple ((toDs cps).take k ++ [RS])) (.tuple ((toDs cps).drop (k + 1))) = some (.tuple ((toDs cps).take k ++ [RS] ++ (toDs cps).drop (k + 1))) := fun W => by
        simp only [addD]
        rw [if_pos (szOk_of (by rw [List.length_append, List.length_take, List.length_drop, lt, List.length_singleton]; omega))]
      have cut1 : ∀ W, cutD W (.tuple (toDs cps)) none (some (k : Int)) = some (.tuple ((toDs cps).take k)) := fun W => by simp only [cutD, cut_to]
      have cut2 : ∀ W, cutD W (.tuple (toDs cps)) (some ((k : Int) + 1)) none = some (.tuple ((toDs cps).drop (k + 1))) := fun W => by simp only [cutD, cut_from1]
      have lc : (toDs cps).length = cps.length := lt
      simp only [wipeE, sRet, sExp, sIf, sAsg, sFor, gN, gT, gC, gZ, eAn, eOr, eNo, eIf, eIsi, eV, eC, eB, eU, eCb, eCall, eSl, oN, oS, eTup, eLst, aN, aC, eLc, eCh, tAn, tOr', tNo, tB', tTr, tYs, iE, iZ, iR1, iR2, sNil, wO_bind, wO_ok, wO_onE, wO_ofif, wO_some, wS_seq, wS_then, wS_nx, wS_rt, cond_true, cond_false, List.append_nil, List.nil_append, List.cons_append, List.getElem?_cons_zero, List.getElem?_cons_succ, List.set_cons_zero, List.set_cons_succ, ixW, gT, bindok, cut1, cut2, ixP, ad, List.length_cons, List.length_nil, Nat.zero_add, Nat.reduceAdd, sz1, s3, Oc.on, add1, add2, wO_onE, true_and, if_true]
      refine ⟨.mk cns chd cps, some (.int ((q.length - 1 - i : Nat) : Int)), some (.tuple (cns.map .str)), some (.str chd), some (.tuple (toDs cps)), (by rw [show q.length - (i + 1) = q.length - 1 - i by omega]; exact hc2), ?_⟩
      rw [show q.length - (i + 1) = q.length - 1 - i by omega, hdr, put_cons hp]
      have ex : toD (.mk cns chd (cps.set k (put b (q.drop (q.length - i)) o))) = .tuple [.tuple (cns.map .str), .str chd, .tuple ((toDs cps).take k ++ [RS] ++ (toDs cps).drop (k + 1))] := by
        rw [toD_eq]
        simp only [Tr.ns, Tr.hd, Tr.ps]
        rw [setTk hp, hR]
      rw [ex]
    · rintro ρ W ⟨rfl, b, y6, y7, y8, y9, hb, rfl⟩
      rw [dn_len, Nat.zero_add, Nat.sub_self, List.take_zero, sub_nil] at hb
      cases hb
      simp only [dn_len, Nat.zero_add, Nat.sub_self, List.drop_zero, wipeE, sRet, sExp, sIf, sAsg, sFor, gN, gT, gC, gZ, eAn, eOr, eNo, eIf, eIsi, eV, eC, eB, eU, eCb, eCall, eSl, oN, oS, eTup, eLst, aN, aC, eLc, eCh, tAn, tOr', tNo, tB', tTr, tYs, iE, iZ, iR1, iR2, sNil, wO_bind, wO_ok, wO_onE, wO_ofif, wO_some, wS_seq, wS_then, wS_nx, wS_rt, cond_true, cond_false, List.append_nil, List.nil_append, List.cons_append, List.getElem?_cons_zero, List.getElem?_cons_succ, List.set_cons_zero, List.set_cons_succ]
      exact ⟨trivial, trivial⟩
  obtain ⟨d, w1, e1, rfl, rfl⟩ := wS_rtE key
  rw [e1]
  exact leave_trim hc (bnd_toD _ _)
end Tk

set_option Elab.async false
set_option linter.all false
set_option maxRecDepth 100000
set_option maxHeartbeats 4000000
namespace Tk
open PySem L2 Td Tg Tt
theorem with_tree_ok {t a o : Tr} {q : List Nat} {w : Ws} (hc : Cl w) (e : sub t q = some a) (hn : nds t ≤ 1000) : F_with_tree [toD t, plD q, toD o] w = .ok (toD (put t q o)) w := by
  have hq := len_q e
  have h1 := require_ok e (by omega) w
  have h2 := replaced_ok (o := o) hc e hn
  show leave w.length (b_with_tree [some (toD t), some (plD q), some (toD o)] w) = _
  have b : b_with_tree [some (toD t), some (plD q), some (toD o)] w = .rt (toD (put t q o)) w := by
    unfold b_with_tree
    simp only [sSeq, sExp, sRet, eCall, aC, aN, eV, List.getElem?_cons_zero, List.getElem?_cons_succ, List.set_cons_zero, List.set_cons_succ, Oc.bind, List.append_nil, h1, h2, Oc.thenS]
  rw [b]
  exact leave_rt rfl
theorem strsD_strs : ∀ xs : List Str, strsD (xs.map .str) = some xs
  | [] => rfl
  | x :: xs => by simp only [List.map_cons, strsD, strsD_strs xs, Option.map_some]
theorem lcL_pure {gt : FG} {tt : FT} {fe : FE} {ρ : Ev} {w : Ws} (p : PyData → Bool) (f : PyData → PyData) : ∀ (ds acc : List PyData), acc.length + ds.length ≤ sizeLine →
    (∀ d ∈ ds, ∃ ρ1, gt d ρ w = .ok ρ1 w ∧ tt ρ1 w = .ok (p d) w ∧ (p d = true → fe ρ1 w = .ok (f d) w)) → lcL gt tt fe ρ ds w acc = .ok (acc ++ (ds.filter p).map f) w
  | [], acc, _, _ => by simp [lcL]
  | d :: ds, acc, hs, h => by
    obtain ⟨ρ1, h1, h2, h3⟩ := h d List.mem_cons_self
    have hs' : acc.length + (ds.length + 1) ≤ sizeLine := hs
    cases hp : p d with
    | false =>
      rw [hp] at h2
      have ih := lcL_pure p f ds acc (by omega) fun x hx => h x (List.mem_cons_of_mem _ hx)
      simp only [lcL, h1, h2, ih, List.filter_cons, hp]
      rfl
    | true =>
      rw [hp] at h2
      have ih := lcL_pure p f ds (acc ++ [f d]) (by rw [List.length_append]; simp; omega) fun x hx => h x (List.mem_cons_of_mem _ hx)
      simp only [lcL, h1, h2, h3 hp, ih, List.filter_cons, hp, if_pos (show acc.length < sizeLine by omega)]
      simp
def jn (ns : List Str) : PyData := .tuple ((srtS (ddS ns)).map .str)
theorem joined_ok {d : PyData} {ns : List Str} (hd : itD d = some (ns.map .str)) (hl : ns.length ≤ 1000) (w : Ws) : F_joined_notes [.tuple [d]] w = .ok (jn ns) w := by
  show leave w.length (b_joined_notes [some (.tuple [d]), none, none] w) = _
  have b : b_joined_notes [some (.tuple [d]), none, none] w = .rt (jn ns) w := by
    unfold b_joined_notes
    have l1 : lcL (gN 2) tYs (eV 2) [some (.tuple [d]), some d, none] (ns.map .str) w [] = .ok (ns.map .str) w := by
      rw [lcL_pure (fun _ => true) id (ns.map .str) [] (by rw [sizeLine_eq]; simp; omega) fun x _ => ⟨[some (.tuple [d]), some d, some x], rfl, rfl, fun _ => rfl⟩]
      simp
    have sb : decide (ns.length + 1 < scanBound) = true := decide_eq_true (by unfold scanBound; omega)
    have i1 : itD (.tuple [d]) = some [d] := rfl
    have tp : ∀ xs, tupleD w [.list xs] = some (.tuple xs) := fun xs => rfl
    simp only [sRet, eCb, aC, aN, eSsc2, iE, eV, List.getElem?_cons_zero, List.getElem?_cons_succ, List.set_cons_zero, List.set_cons_succ, Oc.bind, Oc.of, i1, lc2L, gN, wipeE, hd]
    rw [l1]
    simp only [strsD_strs, sb, if_true, tp, Oc.thenS]
    rfl
  rw [b]
  exact leave_rt rfl
theorem callV_ok {m : Nat} {gf : FF} {fa : FA} {ρ : Ev} {w w1 w2 : Ws} {as : List PyData} {d : PyData} (h1 : fa ρ w = .ok as w1) (h2 : as.length ≤ m) (h3 : gf [.tuple as] w1 = .ok d w2) : eCallV m gf fa ρ w = .ok d w2 := by
  simp only [eCallV, h1, Oc.bind, Oc.on, decide_eq_true h2, cond_true, h3]
def mark (a : Tr) (ns : List Str) : Tr := .mk (srtS (ddS ns)) a.hd a.ps
theorem with_notes_ok {t a : Tr} {q : List Nat} {ns : List Str} {w : Ws} (hc : Cl w) (e : sub t q = some a) (hn : nds t ≤ 1000) (hl : ns.length ≤ 1000) : F_with_notes [toD t, plD q, .tuple (ns.map .str)] w = .ok (toD (put t q (mark a ns))) w := by
  have hq := len_q e
  have h1 := node_at_ok e (by omega) w
  have h2 := replaced_ok (o := mark a ns) hc e hn
  have e2 : toD (mark a ns) = .tuple [jn ns, .str a.hd, .tuple (toDs a.ps)] := rfl
  rw [e2] at h2
  have h3 := joined_ok (d := .tuple (ns.map .str)) rfl hl w
  have z3 : szOk 3 = true := szOk_of (by omega)
  show leave w.length (b_with_notes [some (toD t), some (plD q), some (.tuple (ns.map .str)), none, none, none] w) = _
  have b : b_with_notes [some (toD t), some (plD q), some (.tuple (ns.map .str)), none, none, none] w = .rt (toD (put t q (mark a ns))) w := by
    unfold b_with_notes
    generalize plD q = PQ at *
    generalize hT : toD t = T at *
    rw [seq_nx (ρ1 := [some T, some PQ, some (.tuple (ns.map .str)), some (.tuple (a.ns.map .str)), some (.str a.hd), some (.tuple (toDs a.ps))]) (w1 := w) (by
      simp only [sAsg, eCall, aC, aN, eV, List.getElem?_cons_zero, List.getElem?_cons_succ, List.set_cons_zero, List.set_cons_succ, Oc.bind, List.append_nil, h1, Oc.thenS, gT3])]
    have cv : eCallV 5 F_joined_notes (aC (eV 2) aN) [some T, some PQ, some (.tuple (ns.map .str)), some (.tuple (a.ns.map .str)), some (.str a.hd), some (.tuple (toDs a.ps))] w = .ok (jn ns) w := callV_ok (as := [.tuple (ns.map .str)]) rfl (by simp) h3
    simp only [sRet, eCall, eTup, aC, aN, eV, List.getElem?_cons_zero, List.getElem?_cons_succ, List.set_cons_zero, List.set_cons_succ, Oc.bind, List.append_nil, cv, List.length_cons, List.length_nil, Nat.zero_add, Nat.reduceAdd, z3, Oc.on, cond_true, h2, Oc.thenS]
  rw [b]
  exact leave_rt rfl
end Tk

set_option Elab.async false
set_option linter.all false
set_option maxRecDepth 100000
set_option maxHeartbeats 4000000
namespace Tk
open PySem L2 Td Tg Tt
/-! ### the places of a tree -/
def prT (x : List Nat × Tr) : PyData := .tuple [plD x.1, toD x.2]
def kid (p : List Nat) : Nat → List Tr → List (List Nat × Tr)
  | _, [] => []
  | k, x :: xs => (p ++ [k], x) :: kid p (k + 1) xs
def plsF (S : List (List Nat × Tr)) : List (List Nat) := S.flatMap fun x => pls x.1 x.2
theorem plsA_kid (p : List Nat) : ∀ (k : Nat) (ps : List Tr), plsA p k ps = plsF (kid p k ps)
  | _, [] => rfl
  | k, x :: xs => by simp only [plsA, kid, plsF, List.flatMap_cons, plsA_kid p (k + 1) xs]
theorem kid_len (p : List Nat) : ∀ (k : Nat) (ps : List Tr), (kid p k ps).length = ps.length
  | _, [] => rfl
  | k, x :: xs => by simp only [kid, List.length_cons, kid_len p (k + 1) xs]
theorem kid_get (p : List Nat) : ∀ (ps : List Tr) (k j : Nat) (x : Tr), ps[j]? = some x → (kid p k ps)[j]? = some (p ++ [k + j], x)
  | [], _, _, _, h => by simp at h
  | y :: ps, k, 0, x, h => by simp only [List.getElem?_cons_zero, Option.some.injEq] at h; subst h; rfl
  | y :: ps, k, j + 1, x, h => by
    have := kid_get p ps (k + 1) j x (by simpa using h)
    simp only [kid, List.getElem?_cons_succ, this]
    congr 4
    omega
theorem kid_mem {p : List Nat} : ∀ {ps : List Tr} {k : Nat} {y : List Nat × Tr}, y ∈ kid p k ps → y.1.length = p.length + 1 ∧ y.2 ∈ ps
  | [], k, y, h => by cases h
  | x :: ps, k, y, h => by
    rcases List.mem_cons.mp h with rfl | h
    · exact ⟨by simp, by simp⟩
    · obtain ⟨h1, h2⟩ := kid_mem h
      exact ⟨h1, List.mem_cons_of_mem _ h2⟩
theorem hgt_mem {ps : List Tr} {x : Tr} (h : x ∈ ps) : hgt x + 1 ≤ hgtA ps := by
  obtain ⟨k, hk⟩ := List.getElem?_of_mem h
  exact hgtA_get hk
theorem plsF_len : ∀ S : List (List Nat × Tr), S.length ≤ (plsF S).length
  | [] => Nat.le_refl _
  | x :: S => by
    have h1 := plsF_len S
    have h2 := pls_len x.1 x.2
    have h3 := nds_hgt x.2
    simp only [plsF, List.flatMap_cons, List.length_append, List.length_cons] at *
    omega
theorem len_rf {W : Ws} {k : Nat} {ds : List PyData} (h : W[k]? = some (.lst ds)) : lenD W [rf k] = some (.int ds.length) := by
  simp only [lenD, rf, lst_at h, Option.map_some]
theorem down_loop (w : Ws) (x0 x1 : Option PyData) (p : List Nat) (t : Tr) (F : List PyData) (S : List (List Nat × Tr)) (hp : p.length ≤ 1000) (hs : t.ps.length + S.length ≤ 1000) (x4 : Option PyData) :
    wS (fun ρ W => ∃ y4, ρ = [x0, x1, some (rf w.length), some (rf (w.length + 1)), y4, some (plD p), some (toD t)] ∧ W = w ++ [.lst F, .lst ((kid p 0 t.ps ++ S).reverse.map prT)]) (fun _ _ => False)
      (forL (gN 4) (sExp (eLm apL (eV 3) (aC (eTup (aC (eTup (aSt (eV 5) (aC (eV 4) aN))) (aC (eB ixD (eB ixD (eV 6) (eC (.int 2))) (eV 4)) aN))) aN)))
        (dnD ((t.ps.length : Int) - 1) (-1)) [x0, x1, some (rf w.length), some (rf (w.length + 1)), x4, some (plD p), some (toD t)] (w ++ [.lst F, .lst (S.reverse.map prT)])) := by
  refine wS_forL (fun i ρ W => ∃ y4, ρ = [x0, x1, some (rf w.length), some (rf (w.length + 1)), y4, some (plD p), some (toD t)] ∧ W = w ++ [.lst F, .lst (((kid p 0 t.ps).drop (t.ps.length - i) ++ S).reverse.map prT)]) _ 0 _ _ ⟨x4, rfl, ?_⟩ ?_ ?_
  · rw [Nat.sub_zero, List.drop_eq_nil_of_le (by rw [kid_len]; exact Nat.le_refl _)]; rfl
  · rintro i d ρ W hj ⟨y4, rfl, rfl⟩
    rw [Nat.zero_add]
    have hi : i < t.ps.length := by
      have := (List.getElem?_eq_some_iff.mp hj).1
      rw [dn_len] at this; exact this
    rw [dn_get hi] at hj
    cases hj
    have hlt : t.ps.length - 1 - i < t.ps.length := by omega
    obtain ⟨x, hx⟩ : ∃ x, t.ps[t.ps.length - 1 - i]? = some x := ⟨_, List.getElem?_eq_getElem hlt⟩
    have hk := kid_get p t.ps 0 _ x hx
    rw [Nat.zero_add] at hk
    have hdr : (kid p 0 t.ps).drop (t.ps.length - (i + 1)) = (p ++ [t.ps.length - 1 - i], x) :: (kid p 0 t.ps).drop (t.ps.length - i) := by
      obtain ⟨h1, h2⟩ := List.getElem?_eq_some_iff.mp hk
      rw [show t.ps.length - (i + 1) = t.ps.length - 1 - i by omega, List.drop_eq_getElem_cons h1, h2, show t.ps.length - 1 - i + 1 = t.ps.length - i by omega]
    rw [hdr]
    generalize t.ps.length - 1 - i = j at *
    generalize hS : (kid p 0 t.ps).drop (t.ps.length - i) ++ S = S1
    have hl1 : S1.length ≤ 1000 := by
      rw [← hS, List.length_append, List.length_drop, kid_len]; omega
    have i2 : ∀ W, ixD W (toD t) (.int 2) = some (.tuple (toDs t.ps)) := fun W => ix2
    have ik := fun W => ixk (w := W) hx
    have sq : ∀ W, seqOf W (plD p) = some (plI p) := fun W => rfl
    have s2 : szOk 2 = true := szOk_of (by omega)
    have s3 : szOk (plI p ++ [PyData.int (j : Int)]).length = true := szOk_of (by simp [plI]; omega)
    have g1 : (w ++ [Ob.lst F, Ob.lst (S1.reverse.map prT)])[w.length + 1]? = some (.lst (S1.reverse.map prT)) := own_at
    have lo := lst_at g1
    have epr : PyData.tuple [.tuple (plI p ++ [.int (j : Int)]), toD x] = prT (p ++ [j], x) := by simp [prT, plD, plI]
    have u := upd_at (k := fun xs => apL xs [prT (p ++ [j], x)]) (d := .none) (ys := S1.reverse.map prT ++ [prT (p ++ [j], x)]) g1 (by simp only [apL]; rw [if_pos (by rw [sizeLine_eq, List.length_map, List.length_reverse]; omega)])
    have st : (w ++ [Ob.lst F, Ob.lst (S1.reverse.map prT)]).set (w.length + 1) (.lst (S1.reverse.map prT ++ [prT (p ++ [j], x)])) = w ++ [.lst F, .lst (S1.reverse.map prT ++ [prT (p ++ [j], x)])] := own_set
    simp only [wipeE, sRet, sExp, sIf, sAsg, sFor, gN, gT, gC, gZ, eAn, eOr, eNo, eIf, eIsi, eV, eC, eB, eU, eCb, eCall, eSl, oN, oS, eTup, eLst, aN, aC, eLc, eCh, tAn, tOr', tNo, tB', tTr, tYs, iE, iZ, iR1, iR2, sNil, wO_bind, wO_ok, wO_onE, wO_ofif, wO_some, wS_seq, wS_then, wS_nx, wS_rt, cond_true, cond_false, List.append_nil, List.nil_append, List.cons_append, List.getElem?_cons_zero, List.getElem?_cons_succ, List.set_cons_zero, List.set_cons_succ, eLm, aSt, lo, Option.isSome_some, Oc.on, sq, s3, i2, ik, List.length_cons, List.length_nil, Nat.zero_add, Nat.reduceAdd, s2, epr, u, st]
    rw [hS]
    exact ⟨_, rfl, by simp⟩
  · rintro ρ W ⟨y4, rfl, rfl⟩
    rw [dn_len, Nat.zero_add, Nat.sub_self, List.drop_zero]
    exact ⟨y4, rfl, rfl⟩
theorem places_below_ok {t : Tr} {a : List Nat} {w : Ws} (hc : Cl w) (hn : nds t ≤ 500) (ha : a.length ≤ 500) : F_places_below [toD t, plD a] w = .ok (.list ((pls a t).map plD)) w := by
  have sz2 : szOk 2 = true := szOk_of (by omega)
  have sz0 : szOk 0 = true := szOk_of (by omega)
  have sz1 : szOk 1 = true := szOk_of (by omega)
  show leave w.length (b_places_below [some (toD t), some (plD a), none, none, none, none, none] w) = _
  have key : wS (fun _ _ => False) (fun d W => d = .list ((pls a t).map plD) ∧ ∃ v, W = w ++ v) (b_places_below [some (toD t), some (plD a), none, none, none, none, none] w) := by
    unfold b_places_below
    simp only [eLstS, wipeE, sRet, sExp, sIf, sAsg, sFor, gN, gT, gC, gZ, eAn, eOr, eNo, eIf, eIsi, eV, eC, eB, eU, eCb, eCall, eSl, oN, oS, eTup, eLst, aN, aC, eLc, eCh, tAn, tOr', tNo, tB', tTr, tYs, iE, iZ, iR1, iR2, sNil, wO_bind, wO_ok, wO_onE, wO_ofif, wO_some, wS_seq, wS_then, wS_nx, wS_rt, cond_true, cond_false, List.append_nil, List.nil_append, List.cons_append, List.getElem?_cons_zero, List.getElem?_cons_succ, List.set_cons_zero, List.set_cons_succ, Oc.on, List.length_cons, List.length_nil, Nat.zero_add, Nat.reduceAdd, sz0, sz1, sz2, List.length_append, List.append_assoc]
    refine wS_sWh (fun m ρ W => ∃ (FD : List (List Nat)) (S : List (List Nat × Tr)) (y4 y5 y6 : Option PyData), W = w ++ [.lst (FD.map plD), .lst (S.reverse.map prT)] ∧ ρ = [some (toD t), some (plD a), some (rf w.length), some (rf (w.length + 1)), y4, y5, y6] ∧
      FD ++ plsF S = pls a t ∧ m = (plsF S).length ∧ ∀ x ∈ S, x.1.length + hgt x.2 ≤ 1000) (nds t) (by omega) ⟨[], [(a, t)], none, none, none, rfl, rfl, by simp [plsF], by simp [plsF, pls_len], fun x hx => ?_⟩ ?_
    · rw [List.mem_singleton] at hx
      subst hx
      have := nds_hgt t
      simp only; omega
    · rintro m ρ W ⟨FD, S, y4, y5, y6, rfl, rfl, hF, rfl, hb⟩
      have hlen := congrArg List.length hF
      rw [pls_len, List.length_append] at hlen
      have gS : (w ++ [Ob.lst (FD.map plD), Ob.lst (S.reverse.map prT)])[w.length + 1]? = some (.lst (S.reverse.map prT)) := own_at
      have lS := len_rf gS
      rw [List.length_map, List.length_reverse] at lS
      cases S with
      | nil =>
        have e0 : decide (((0 : Int)) < (([] : List (List Nat × Tr)).length : Int)) = false := by decide
        have fz : fzD (w ++ [Ob.lst (FD.map plD), Ob.lst (([] : List (List Nat × Tr)).reverse.map prT)]) (rf w.length) = some (.list (FD.map plD), w ++ [.dead, .lst []]) := by
          have g0 : (w ++ [Ob.lst (FD.map plD), Ob.lst (([] : List (List Nat × Tr)).reverse.map prT)])[w.length]? = some (.lst (FD.map plD)) := own_at0
          have st : (w ++ [Ob.lst (FD.map plD), Ob.lst (([] : List (List Nat × Tr)).reverse.map prT)]).set w.length .dead = w ++ [.dead, .lst []] := own_set0
          simp [fzD, locOf, g0, st]
        have hF' : FD = pls a t := by simpa [plsF] using hF
        simp only [wipeE, sRet, sExp, sIf, sAsg, sFor, gN, gT, gC, gZ, eAn, eOr, eNo, eIf, eIsi, eV, eC, eB, eU, eCb, eCall, eSl, oN, oS, eTup, eLst, aN, aC, eLc, eCh, tAn, tOr', tNo, tB', tTr, tYs, iE, iZ, iR1, iR2, sNil, wO_bind, wO_ok, wO_onE, wO_ofif, wO_some, wS_seq, wS_then, wS_nx, wS_rt, cond_true, cond_false, List.append_nil, List.nil_append, List.cons_append, List.getElem?_cons_zero, List.getElem?_cons_succ, List.set_cons_zero, List.set_cons_succ, lS, gtD, cmpD, e0, eFz, fz]
        exact ⟨by rw [hF'], _, rfl⟩
      | cons x S =>
        obtain ⟨p, u⟩ := x
        have e1 : decide ((0 : Int) < ((S.length + 1 : Nat) : Int)) = true := decide_eq_true (by omega)
        have hSl := plsF_len ((p, u) :: S)
        have hul := pls_len p u
        have hul2 := len_ps (t := u)
        have hpu : (plsF ((p, u) :: S)).length = nds u + (plsF S).length := by simp only [plsF, List.flatMap_cons, List.length_append, hul]
        have hS2 := plsF_len S
        have hbx := hb (p, u) List.mem_cons_self
        simp only at hbx
        have ppd : ppL ((S.reverse.map prT) ++ [prT (p, u)]) [] = some (.tuple [plD p, toD u], S.reverse.map prT) := by
          simp [ppL, prT]
        have eS : (((p, u) :: S).reverse.map prT) = (S.reverse.map prT) ++ [prT (p, u)] := by simp
        rw [eS] at gS lS ⊢
        have u1 := upd_at (k := fun xs => ppL xs []) gS ppd
        have st1 : (w ++ [Ob.lst (FD.map plD), Ob.lst (S.reverse.map prT ++ [prT (p, u)])]).set (w.length + 1) (.lst (S.reverse.map prT)) = w ++ [.lst (FD.map plD), .lst (S.reverse.map prT)] := own_set
        rw [st1] at u1
        have g0 : (w ++ [Ob.lst (FD.map plD), Ob.lst (S.reverse.map prT)])[w.length]? = some (.lst (FD.map plD)) := own_at0
        have l0 := lst_at g0
        have u2 := upd_at (k := fun xs => apL xs [plD p]) (d := .none) (ys := FD.map plD ++ [plD p]) g0 (by simp only [apL]; rw [if_pos (by rw [sizeLine_eq, List.length_map]; omega)])
        have st2 : (w ++ [Ob.lst (FD.map plD), Ob.lst (S.reverse.map prT)]).set w.length (.lst (FD.map plD ++ [plD p])) = w ++ [.lst (FD.map plD ++ [plD p]), .lst (S.reverse.map prT)] := own_set0
        rw [st2] at u2
        have i2 : ∀ W, ixD W (toD u) (.int 2) = some (.tuple (toDs u.ps)) := fun W => ix2
        have ln : ∀ W, lenD W [.tuple (toDs u.ps)] = some (.int (u.ps.length : Int)) := fun W => by simp only [lenD, toDs_map, List.length_map]
        have sb : ∀ W, subD W (.int (u.ps.length : Int)) (.int 1) = some (.int ((u.ps.length : Int) - 1)) := fun W => rfl
        have ng : ∀ W, negD W (.int 1) = some (.int (-1)) := fun W => rfl
        have c1 : c62 ((u.ps.length : Int) - 1) = true := by unfold c62; exact decide_eq_true (by omega)
        have c2 : c62 (-1) = true := by decide
        have dl := down_loop w (some (toD t)) (some (plD a)) p u (FD.map plD ++ [plD p]) S (by omega) (by simp only [List.length_cons] at *; omega) y4
        simp only [wipeE, sRet, sExp, sIf, sAsg, sFor, gN, gT, gC, gZ, eAn, eOr, eNo, eIf, eIsi, eV, eC, eB, eU, eCb, eCall, eSl, oN, oS, eTup, eLst, aN, aC, eLc, eCh, tAn, tOr', tNo, tB', tTr, tYs, iE, iZ, iR1, iR2, sNil, wO_bind, wO_ok, wO_onE, wO_ofif, wO_some, wS_seq, wS_then, wS_nx, wS_rt, cond_true, cond_false, List.append_nil, List.nil_append, List.cons_append, List.getElem?_cons_zero, List.getElem?_cons_succ, List.set_cons_zero, List.set_cons_succ, lS, gtD, cmpD, e1, eLm0, u1, gT, bindok, List.length_cons, List.length_nil, Nat.zero_add, Nat.reduceAdd, if_true, eLm, l0, Option.isSome_some, Oc.on, u2, iR3, i2, ln, sb, ng, c1, c2, Bool.and_self, decide_true]
        refine wS_mono dl ?_ fun _ _ h => h.elim
        rintro ρ W ⟨y4', rfl, rfl⟩
        refine ⟨(plsF (kid p 0 u.ps ++ S)).length, ?_, FD ++ [p], kid p 0 u.ps ++ S, y4', some (plD p), some (toD u), by simp, rfl, ?_, rfl, ?_⟩
        · have e : (plsF (kid p 0 u.ps ++ S)).length + 1 = nds u + (plsF S).length := by
            rw [← hul]
            cases u with
            | mk ns h ps => simp only [plsF, List.flatMap_append, List.length_append, pls, List.length_cons, Tr.ps, plsA_kid]; omega
          omega
        · rw [← hF]
          cases u with
          | mk ns h ps => simp [plsF, pls, plsA_kid, Tr.ps]
        · intro x hx
          rcases List.mem_append.mp hx with hx | hx
          · obtain ⟨h1, h2⟩ := kid_mem hx
            have h3 := hgt_mem h2
            have h4 : hgt u = hgtA u.ps := by cases u; rfl
            omega
          · exact hb x (List.mem_cons_of_mem _ hx)
  obtain ⟨d, w1, e1, rfl, v, rfl⟩ := wS_rtE key
  rw [e1]
  refine leave_trim hc ?_
  simp only [bnd]
  generalize pls a t = L
  induction L with
  | nil => rfl
  | cons x L ih => simp [bndA, bnd_plD, ih]
theorem places_of_ok {t : Tr} {w : Ws} (hc : Cl w) (hn : nds t ≤ 500) : F_places_of [toD t] w = .ok (.tuple ((pls [] t).map plD)) w := by
  have h1 := places_below_ok (a := []) hc hn (by simp)
  have sz0 : szOk 0 = true := szOk_of (by omega)
  show leave w.length (b_places_of [some (toD t)] w) = _
  have b : b_places_of [some (toD t)] w = .rt (.tuple ((pls [] t).map plD)) w := by
    unfold b_places_of
    rw [show plD [] = PyData.tuple [] from rfl] at h1
    simp only [sRet, eCb, eCall, eTup, aC, aN, eV, List.getElem?_cons_zero, List.getElem?_cons_succ, List.set_cons_zero, List.set_cons_succ, Oc.bind, List.append_nil, List.length_nil, sz0, Oc.on, cond_true, h1, tupleD, lstOf_list, Option.map_some, Oc.of, Oc.thenS]
  rw [b]
  exact leave_rt rfl
end Tk

set_option Elab.async false
set_option linter.all false
set_option maxRecDepth 100000
set_option maxHeartbeats 4000000
namespace Tk
open PySem L2 Td Tg Tt
/-! ### a tree with no notes -/
mutual
def dn : Tr → List Tr
  | .mk ns h ps => .mk ns h ps :: dnA ps
def dnA : List Tr → List Tr
  | [] => []
  | p :: ps => dnA ps ++ dn p
end
def dnF (R : List Tr) : List Tr := R.flatMap dn
theorem dnA_rev : ∀ ps : List Tr, dnA ps = dnF ps.reverse
  | [] => rfl
  | p :: ps => by simp only [dnA, dnA_rev ps, dnF, List.reverse_cons, List.flatMap_append, List.flatMap_cons, List.flatMap_nil, List.append_nil]
mutual
theorem dn_len' : ∀ t : Tr, (dn t).length = nds t
  | .mk ns h ps => by simp only [dn, List.length_cons, dnA_len ps, nds]; omega
theorem dnA_len : ∀ ps : List Tr, (dnA ps).length = ndsA ps
  | [] => rfl
  | p :: ps => by simp only [dnA, List.length_append, dnA_len ps, dn_len' p, ndsA]; omega
end
theorem dnF_len : ∀ R : List Tr, R.length ≤ (dnF R).length
  | [] => Nat.le_refl _
  | x :: R => by
    have h1 := dnF_len R
    have h2 := dn_len' x
    have h3 := nds_hgt x
    simp only [dnF, List.flatMap_cons, List.length_append, List.length_cons] at *
    omega
theorem bndA_toDs (n : Nat) (L : List Tr) : bndA n (toDs L) = true := bnd_toDs n L
theorem toDs_app (a b : List Tr) : toDs (a ++ b) = toDs a ++ toDs b := by simp only [toDs_map, List.map_append]
theorem toDs_len (a : List Tr) : (toDs a).length = a.length := by rw [toDs_map, List.length_map]
theorem nodes_down_ok {t : Tr} {w : Ws} (hc : Cl w) (hn : nds t ≤ 500) : F_nodes_down [toD t] w = .ok (.list (toDs (dn t))) w := by
  have sz0 : szOk 0 = true := szOk_of (by omega)
  have sz1 : szOk 1 = true := szOk_of (by omega)
  show leave w.length (b_nodes_down [some (toD t), none, none, none] w) = _
  have key : wS (fun _ _ => False) (fun d W => d = .list (toDs (dn t)) ∧ ∃ v, W = w ++ v) (b_nodes_down [some (toD t), none, none, none] w) := by
    unfold b_nodes_down
    simp only [eLstS, wipeE, sRet, sExp, sIf, sAsg, sFor, gN, gT, gC, gZ, eAn, eOr, eNo, eIf, eIsi, eV, eC, eB, eU, eCb, eCall, eSl, oN, oS, eTup, eLst, aN, aC, eLc, eCh, tAn, tOr', tNo, tB', tTr, tYs, iE, iZ, iR1, iR2, sNil, wO_bind, wO_ok, wO_onE, wO_ofif, wO_some, wS_seq, wS_then, wS_nx, wS_rt, cond_true, cond_false, List.append_nil, List.nil_append, List.cons_append, List.getElem?_cons_zero, List.getElem?_cons_succ, List.set_cons_zero, List.set_cons_succ, Oc.on, List.length_cons, List.length_nil, Nat.zero_add, Nat.reduceAdd, sz0, sz1, List.length_append, List.append_assoc]
    refine wS_sWh (fun m ρ W => ∃ (FD R : List Tr) (y3 : Option PyData), W = w ++ [.lst (toDs FD), .lst (toDs R.reverse)] ∧ ρ = [some (toD t), some (rf w.length), some (rf (w.length + 1)), y3] ∧
      FD ++ dnF R = dn t ∧ m = (dnF R).length) (nds t) (by omega) ⟨[], [t], none, rfl, rfl, by simp [dnF], by simp [dnF, dn_len']⟩ ?_
    rintro m ρ W ⟨FD, R, y3, rfl, rfl, hF, rfl⟩
    have hlen := congrArg List.length hF
    rw [dn_len', List.length_append] at hlen
    have gS : (w ++ [Ob.lst (toDs FD), Ob.lst (toDs R.reverse)])[w.length + 1]? = some (.lst (toDs R.reverse)) := own_at
    have lS := len_rf gS
    rw [toDs_len, List.length_reverse] at lS
    cases R with
    | nil =>
      have e0 : decide (((0 : Int)) < ((0 : Nat) : Int)) = false := by decide
      have fz : fzD (w ++ [Ob.lst (toDs FD), Ob.lst (toDs ([] : List Tr).reverse)]) (rf w.length) = some (.list (toDs FD), w ++ [.dead, .lst []]) := by
        have g0 : (w ++ [Ob.lst (toDs FD), Ob.lst (toDs ([] : List Tr).reverse)])[w.length]? = some (.lst (toDs FD)) := own_at0
        have st : (w ++ [Ob.lst (toDs FD), Ob.lst (toDs ([] : List Tr).reverse)]).set w.length .dead = w ++ [.dead, .lst []] := own_set0
        simp [fzD, locOf, g0, st, toDs]
      have hF' : FD = dn t := by simpa [dnF] using hF
      simp only [wipeE, sRet, sExp, sIf, sAsg, sFor, gN, gT, gC, gZ, eAn, eOr, eNo, eIf, eIsi, eV, eC, eB, eU, eCb, eCall, eSl, oN, oS, eTup, eLst, aN, aC, eLc, eCh, tAn, tOr', tNo, tB', tTr, tYs, iE, iZ, iR1, iR2, sNil, wO_bind, wO_ok, wO_onE, wO_ofif, wO_some, wS_seq, wS_then, wS_nx, wS_rt, cond_true, cond_false, List.append_nil, List.nil_append, List.cons_append, List.getElem?_cons_zero, List.getElem?_cons_succ, List.set_cons_zero, List.set_cons_succ, lS, gtD, cmpD, List.length_nil, e0, eFz, fz]
      exact ⟨by rw [hF'], _, rfl⟩
    | cons u R =>
      have e1 : decide ((0 : Int) < ((R.length + 1 : Nat) : Int)) = true := decide_eq_true (by omega)
      have hRl := dnF_len R
      have hul := dn_len' u
      have hul2 := len_ps (t := u)
      have hpu : (dnF (u :: R)).length = nds u + (dnF R).length := by simp only [dnF, List.flatMap_cons, List.length_append, hul]
      have eS : toDs (u :: R).reverse = toDs R.reverse ++ [toD u] := by rw [List.reverse_cons, toDs_app]; rfl
      have ppd : ppL (toDs R.reverse ++ [toD u]) [] = some (toD u, toDs R.reverse) := by simp [ppL]
      rw [eS] at gS lS ⊢
      have u1 := upd_at (k := fun xs => ppL xs []) gS ppd
      have st1 : (w ++ [Ob.lst (toDs FD), Ob.lst (toDs R.reverse ++ [toD u])]).set (w.length + 1) (.lst (toDs R.reverse)) = w ++ [.lst (toDs FD), .lst (toDs R.reverse)] := own_set
      rw [st1] at u1
      have g0 : (w ++ [Ob.lst (toDs FD), Ob.lst (toDs R.reverse)])[w.length]? = some (.lst (toDs FD)) := own_at0
      have l0 := lst_at g0
      have u2 := upd_at (k := fun xs => apL xs [toD u]) (d := .none) (ys := toDs FD ++ [toD u]) g0 (by simp only [apL]; rw [if_pos (by rw [sizeLine_eq, toDs_len]; omega)])
      have st2 : (w ++ [Ob.lst (toDs FD), Ob.lst (toDs R.reverse)]).set w.length (.lst (toDs FD ++ [toD u])) = w ++ [.lst (toDs FD ++ [toD u]), .lst (toDs R.reverse)] := own_set0
      rw [st2] at u2
      have g3 : (w ++ [Ob.lst (toDs FD ++ [toD u]), Ob.lst (toDs R.reverse)])[w.length + 1]? = some (.lst (toDs R.reverse)) := own_at
      have l3 := lst_at g3
      have u3 := upd_at (k := fun xs => if xs.length + (toDs u.ps).length ≤ sizeLine then some (.none, xs ++ toDs u.ps) else none) (d := .none) (ys := toDs R.reverse ++ toDs u.ps) g3 (by rw [if_pos (by rw [sizeLine_eq, toDs_len, toDs_len, List.length_reverse]; omega)])
      have st3 : (w ++ [Ob.lst (toDs FD ++ [toD u]), Ob.lst (toDs R.reverse)]).set (w.length + 1) (.lst (toDs R.reverse ++ toDs u.ps)) = w ++ [.lst (toDs FD ++ [toD u]), .lst (toDs R.reverse ++ toDs u.ps)] := own_set
      rw [st3] at u3
      have i2 : ∀ W, ixD W (toD u) (.int 2) = some (.tuple (toDs u.ps)) := fun W => ix2
      have sq : ∀ W, seqOf W (.tuple (toDs u.ps)) = some (toDs u.ps) := fun W => rfl
      simp only [wipeE, sRet, sExp, sIf, sAsg, sFor, gN, gT, gC, gZ, eAn, eOr, eNo, eIf, eIsi, eV, eC, eB, eU, eCb, eCall, eSl, oN, oS, eTup, eLst, aN, aC, eLc, eCh, tAn, tOr', tNo, tB', tTr, tYs, iE, iZ, iR1, iR2, sNil, wO_bind, wO_ok, wO_onE, wO_ofif, wO_some, wS_seq, wS_then, wS_nx, wS_rt, cond_true, cond_false, List.append_nil, List.nil_append, List.cons_append, List.getElem?_cons_zero, List.getElem?_cons_succ, List.set_cons_zero, List.set_cons_succ, lS, gtD, cmpD, List.length_cons, e1, eLm0, u1, eLm, l0, Option.isSome_some, Oc.on, u2, eExt, l3, i2, sq, u3]
      refine ⟨(dnF (u.ps.reverse ++ R)).length, ?_, FD ++ [u], u.ps.reverse ++ R, some (toD u), ?_, rfl, ?_, rfl⟩
      · have e : (dnF (u.ps.reverse ++ R)).length + 1 = nds u + (dnF R).length := by
          rw [← hul]
          cases u with
          | mk ns h ps => simp only [dnF, List.flatMap_append, List.length_append, dn, List.length_cons, Tr.ps, dnA_rev]; omega
        omega
      · rw [toDs_app, List.reverse_append, List.reverse_reverse, toDs_app]; rfl
      · rw [← hF]
        cases u with
        | mk ns h ps => simp [dnF, dn, dnA_rev, Tr.ps]
  obtain ⟨d, w1, e1, rfl, v, rfl⟩ := wS_rtE key
  rw [e1]
  refine leave_trim hc ?_
  simp only [bnd]
  exact bnd_toDs _ _
theorem size_of_ok {t : Tr} {w : Ws} (hc : Cl w) (hn : nds t ≤ 500) : F_size_of [toD t] w = .ok (.int (nds t : Int)) w := by
  have h1 := nodes_down_ok hc hn
  show leave w.length (b_size_of [some (toD t)] w) = _
  have b : b_size_of [some (toD t)] w = .rt (.int (nds t : Int)) w := by
    unfold b_size_of
    simp only [sRet, eCb, eCall, aC, aN, eV, List.getElem?_cons_zero, List.getElem?_cons_succ, List.set_cons_zero, List.set_cons_succ, Oc.bind, List.append_nil, h1, lenD, lstOf_list, Option.map_some, toDs_len, dn_len', Oc.of, Oc.thenS]
  rw [b]
  exact leave_rt rfl
/-! building it up again -/
def stB (B : List Tr) (t : Tr) : List Tr := B.take (B.length - t.ps.length) ++ [.mk [] t.hd (B.drop (B.length - t.ps.length))]
mutual
theorem stB_dn : ∀ (t : Tr) (B : List Tr), (dn t).reverse.foldl stB B = B ++ [bare t]
  | .mk ns h ps, B => by
    rw [dn, List.reverse_cons, List.foldl_append, stB_dnA ps B]
    have hl : (B ++ bareA ps).length - ps.length = B.length := by rw [List.length_append, bareA_map, List.length_map]; omega
    simp only [List.foldl_cons, List.foldl_nil, stB, Tr.ps, Tr.hd, hl, List.take_left, List.drop_left, bare]
theorem stB_dnA : ∀ (ps : List Tr) (B : List Tr), (dnA ps).reverse.foldl stB B = B ++ bareA ps
  | [], B => by simp [dnA, bareA]
  | p :: ps, B => by
    rw [dnA, List.reverse_append, List.foldl_append, stB_dn p B, stB_dnA ps]
    simp [bareA]
end
theorem stB_len (B : List Tr) (t : Tr) : (stB B t).length ≤ B.length + 1 := by
  simp only [stB, List.length_append, List.length_take, List.length_singleton]; omega
theorem foldB_len : ∀ (L B : List Tr), (L.foldl stB B).length ≤ B.length + L.length
  | [], B => Nat.le_refl _
  | t :: L, B => by
    have h1 := foldB_len L (stB B t)
    have h2 := stB_len B t
    simp only [List.foldl_cons, List.length_cons]; omega
end Tk

set_option Elab.async false
set_option linter.all false
set_option maxRecDepth 100000
set_option maxHeartbeats 4000000
namespace Tk
open PySem L2 Td Tg Tt
def okB : List Tr → List Tr → Prop
  | _, [] => True
  | B, t :: L => t.ps.length ≤ B.length ∧ okB (stB B t) L
theorem okB_app : ∀ (L M B : List Tr), okB B L → okB (L.foldl stB B) M → okB B (L ++ M)
  | [], _, _, _, h => h
  | t :: L, M, B, h1, h2 => ⟨h1.1, okB_app L M (stB B t) h1.2 h2⟩
mutual
theorem okB_dn : ∀ (t : Tr) (B : List Tr), okB B (dn t).reverse
  | .mk ns h ps, B => by
    rw [dn, List.reverse_cons]
    refine okB_app _ _ _ (okB_dnA ps B) ?_
    rw [stB_dnA]
    refine ⟨?_, trivial⟩
    simp only [Tr.ps, List.length_append, bareA_map, List.length_map]; omega
theorem okB_dnA : ∀ (ps : List Tr) (B : List Tr), okB B (dnA ps).reverse
  | [], B => trivial
  | p :: ps, B => by
    rw [dnA, List.reverse_append]
    exact okB_app _ _ _ (okB_dn p B) (okB_dnA ps _)
end
theorem okB_get : ∀ (L : List Tr) (B : List Tr) (i : Nat) (u : Tr), okB B L → L[i]? = some u → u.ps.length ≤ ((L.take i).foldl stB B).length
  | [], _, _, _, _, h => by simp at h
  | t :: L, B, 0, u, h, e => by simp at e; subst e; exact h.1
  | t :: L, B, i + 1, u, h, e => by simpa using okB_get L (stB B t) i u h.2 (by simpa using e)
theorem tree_by_ok {L : List Tr} {r : Tr} (h : okB [] L.reverse) (hr : L.reverse.foldl stB [] = [r]) (hL : L.length ≤ 1000) (w : Ws) : F_tree_by [.list (toDs L), .list (List.replicate L.length (.tuple []))] w = .ok (toD r) w := by
  have sz0 : szOk 0 = true := szOk_of (by omega)
  have sz3 : szOk 3 = true := szOk_of (by omega)
  show leave w.length (b_tree_by [some (.list (toDs L)), some (.list (List.replicate L.length (.tuple []))), none, none, none, none, none, none, none] w) = _
  have key : wS (fun _ _ => False) (fun d W => d = toD r ∧ W = w) (b_tree_by [some (.list (toDs L)), some (.list (List.replicate L.length (.tuple []))), none, none, none, none, none, none, none] w) := by
    unfold b_tree_by
    have ln : ∀ W, lenD W [.list (toDs L)] = some (.int (L.length : Int)) := fun W => by simp only [lenD, lstOf_list, Option.map_some, toDs_len]
    have sb : ∀ W, subD W (.int (L.length : Int)) (.int 1) = some (.int ((L.length : Int) - 1)) := fun W => rfl
    have ng : ∀ W, negD W (.int 1) = some (.int (-1)) := fun W => rfl
    have c1 : c62 ((L.length : Int) - 1) = true := by unfold c62; exact decide_eq_true (by omega)
    have c2 : c62 (-1) = true := by decide
    simp only [wipeE, sRet, sExp, sIf, sAsg, sFor, gN, gT, gC, gZ, eAn, eOr, eNo, eIf, eIsi, eV, eC, eB, eU, eCb, eCall, eSl, oN, oS, eTup, eLst, aN, aC, eLc, eCh, tAn, tOr', tNo, tB', tTr, tYs, iE, iZ, iR1, iR2, sNil, wO_bind, wO_ok, wO_onE, wO_ofif, wO_some, wS_seq, wS_then, wS_nx, wS_rt, cond_true, cond_false, List.append_nil, List.nil_append, List.cons_append, List.getElem?_cons_zero, List.getElem?_cons_succ, List.set_cons_zero, List.set_cons_succ, iR3, Oc.on, List.length_nil, sz0, ln, sb, ng, c1, c2, Bool.and_self, decide_true]
    refine wS_forL (fun i ρ W => w = W ∧ ∃ y3 y4 y5 y6 y7 y8, ρ = [some (.list (toDs L)), some (.list (List.replicate L.length (.tuple []))), some (.list (toDs ((L.reverse.take i).foldl stB []))), y3, y4, y5, y6, y7, y8]) _ 0 _ _ ⟨rfl, none, none, none, none, none, none, rfl⟩ ?_ ?_
    · rintro i d ρ W hj ⟨rfl, y3, y4, y5, y6, y7, y8, rfl⟩
      rw [Nat.zero_add]
      have hi : i < L.length := by
        have := (List.getElem?_eq_some_iff.mp hj).1
        rw [dn_len] at this; exact this
      rw [dn_get hi] at hj
      cases hj
      obtain ⟨u, hu⟩ : ∃ u, L[L.length - 1 - i]? = some u := ⟨_, List.getElem?_eq_getElem (by omega)⟩
      have hru : L.reverse[i]? = some u := by rw [List.getElem?_reverse hi, hu]
      have hB := okB_get _ _ i u h hru
      have hBl := foldB_len (L.reverse.take i) []
      have hst : (L.reverse.take (i + 1)).foldl stB [] = stB ((L.reverse.take i).foldl stB []) u := by
        rw [List.take_succ, hru, List.foldl_append]; rfl
      rw [hst]
      rw [List.length_take, List.length_reverse, List.length_nil] at hBl
      generalize (L.reverse.take i).foldl stB [] = B at *
      have ixu : ixD w (.list (toDs L)) (.int ((L.length - 1 - i : Nat) : Int)) = some (.tuple [.tuple (u.ns.map .str), .str u.hd, .tuple (toDs u.ps)]) := by
        rw [ixD_list, ← toD_eq]
        exact Td.atI_nat (by rw [toDs_map, List.getElem?_map, hu]; rfl)
      have ixn : ixD w (.list (List.replicate L.length (.tuple []))) (.int ((L.length - 1 - i : Nat) : Int)) = some (.tuple []) := by
        rw [ixD_list]
        exact Td.atI_nat (by rw [List.getElem?_replicate, if_pos (by omega)])
      have l1 : lenD w [.list (toDs B)] = some (.int (B.length : Int)) := by simp only [lenD, lstOf_list, Option.map_some, toDs_len]
      have l2 : lenD w [.tuple (toDs u.ps)] = some (.int (u.ps.length : Int)) := by simp only [lenD, toDs_len]
      have sb2 : subD w (.int (B.length : Int)) (.int (u.ps.length : Int)) = some (.int ((B.length - u.ps.length : Nat) : Int)) := by
        show some (PyData.int ((B.length : Int) - (u.ps.length : Int))) = _
        congr 2; omega
      have cu1 : cutD w (.list (toDs B)) (some ((B.length - u.ps.length : Nat) : Int)) none = some (.list ((toDs B).drop (B.length - u.ps.length))) := by simp only [cutD, lstOf_list, cut_from]
      have cu2 : cutD w (.list (toDs B)) none (some ((B.length - u.ps.length : Nat) : Int)) = some (.list ((toDs B).take (B.length - u.ps.length))) := by simp only [cutD, lstOf_list, cut_to]
      have tp : ∀ xs, tupleD w [.list xs] = some (.tuple xs) := fun xs => rfl
      have sq : ∀ xs, seqOf w (.list xs) = some xs := fun xs => rfl
      have szB : ∀ x, szOk ((toDs B).take (B.length - u.ps.length) ++ [x]).length = true := fun x => szOk_of (by rw [List.length_append, List.length_take, toDs_len, List.length_singleton]; omega)
      simp only [wipeE, sRet, sExp, sIf, sAsg, sFor, gN, gT, gC, gZ, eAn, eOr, eNo, eIf, eIsi, eV, eC, eB, eU, eCb, eCall, eSl, oN, oS, eTup, eLst, aN, aC, eLc, eCh, tAn, tOr', tNo, tB', tTr, tYs, iE, iZ, iR1, iR2, sNil, wO_bind, wO_ok, wO_onE, wO_ofif, wO_some, wS_seq, wS_then, wS_nx, wS_rt, cond_true, cond_false, List.append_nil, List.nil_append, List.cons_append, List.getElem?_cons_zero, List.getElem?_cons_succ, List.set_cons_zero, List.set_cons_succ, ixu, gT, bindok, List.length_cons, List.length_nil, Nat.zero_add, Nat.reduceAdd, if_true, l1, l2, sb2, ixn, cu1, cu2, tp, sz3, Oc.on, aSt, sq, szB]
      refine ⟨trivial, some (.int ((L.length - 1 - i : Nat) : Int)), some (.int ((B.length - u.ps.length : Nat) : Int)), some (.tuple [.tuple [], .str u.hd, .tuple ((toDs B).drop (B.length - u.ps.length))]), some (.tuple (u.ns.map .str)), some (.str u.hd), some (.tuple (toDs u.ps)), ?_⟩
      have e : toDs (stB B u) = (toDs B).take (B.length - u.ps.length) ++ [.tuple [.tuple [], .str u.hd, .tuple ((toDs B).drop (B.length - u.ps.length))]] := by
        simp only [stB, toDs_map, List.map_append, List.map_take, List.map_cons, List.map_nil, toD_eq, Tr.ns, Tr.hd, Tr.ps, List.map_drop]
      rw [e]
    · rintro ρ W ⟨rfl, y3, y4, y5, y6, y7, y8, rfl⟩
      rw [dn_len, Nat.zero_add, List.take_of_length_le (by simp), hr]
      have i0 : ixD w (.list (toDs [r])) (.int 0) = some (toD r) := rfl
      simp only [wipeE, sRet, sExp, sIf, sAsg, sFor, gN, gT, gC, gZ, eAn, eOr, eNo, eIf, eIsi, eV, eC, eB, eU, eCb, eCall, eSl, oN, oS, eTup, eLst, aN, aC, eLc, eCh, tAn, tOr', tNo, tB', tTr, tYs, iE, iZ, iR1, iR2, sNil, wO_bind, wO_ok, wO_onE, wO_ofif, wO_some, wS_seq, wS_then, wS_nx, wS_rt, cond_true, cond_false, List.append_nil, List.nil_append, List.cons_append, List.getElem?_cons_zero, List.getElem?_cons_succ, List.set_cons_zero, List.set_cons_succ, i0]
      simp
  obtain ⟨d, w1, e1, rfl, rfl⟩ := wS_rtE key
  rw [e1]
  exact leave_rt rfl
theorem bare_ok {t : Tr} {w : Ws} (hc : Cl w) (hn : nds t ≤ 500) : F_bare [toD t] w = .ok (toD (bare t)) w := by
  have h1 := nodes_down_ok hc hn
  have hl := dn_len' t
  have h2 := tree_by_ok (L := dn t) (r := bare t) (okB_dn t []) (by rw [stB_dn]; rfl) (by omega) w
  have sz0 : szOk 0 = true := szOk_of (by omega)
  show leave w.length (b_bare [some (toD t), none, none] w) = _
  have lc : lcL (gN 2) tYs (eTup aN) [some (toD t), some (.list (toDs (dn t))), none] (toDs (dn t)) w [] = .ok (List.replicate (dn t).length (.tuple [])) w := by
    rw [lcL_pure (fun _ => true) (fun _ => .tuple []) (toDs (dn t)) [] (by rw [sizeLine_eq, toDs_len]; simp; omega) fun x _ => ⟨[some (toD t), some (.list (toDs (dn t))), some x], rfl, rfl, fun _ => by simp only [eTup, aN, Oc.bind, List.length_nil, sz0, Oc.on, cond_true]⟩]
    rw [List.filter_eq_self.mpr fun _ _ => rfl]
    simp [List.eq_replicate_iff, toDs_len]
  have b : b_bare [some (toD t), none, none] w = .rt (toD (bare t)) w := by
    unfold b_bare
    generalize toD t = T at *
    rw [seq_nx (ρ1 := [some T, some (.list (toDs (dn t))), none]) (w1 := w) (by
      simp only [sAsg, eCall, aC, aN, eV, List.getElem?_cons_zero, List.getElem?_cons_succ, List.set_cons_zero, List.set_cons_succ, Oc.bind, List.append_nil, h1, Oc.thenS, gN])]
    have i1 : itD (.list (toDs (dn t))) = some (toDs (dn t)) := rfl
    simp only [sRet, eCall, eLc, iE, aC, aN, eV, List.getElem?_cons_zero, List.getElem?_cons_succ, List.set_cons_zero, List.set_cons_succ, Oc.bind, List.append_nil, i1, Oc.of, wipeE, lc, h2, Oc.thenS]
  rw [b]
  exact leave_rt rfl
end Tk

set_option Elab.async false
set_option linter.all false
set_option maxRecDepth 100000
set_option maxHeartbeats 4000000
namespace Tk
open PySem L2 Td Tg Tt
/-! ### names -/
theorem lcL_map {gt : FG} {fe : FE} {ρ : Ev} {w : Ws} (f : PyData → PyData) (ds : List PyData) (hs : ds.length ≤ sizeLine) (h : ∀ d ∈ ds, ∃ ρ1, gt d ρ w = .ok ρ1 w ∧ fe ρ1 w = .ok (f d) w) : lcL gt tYs fe ρ ds w [] = .ok (ds.map f) w := by
  have := lcL_pure (gt := gt) (tt := tYs) (fe := fe) (ρ := ρ) (w := w) (fun _ => true) f ds [] (by simpa using hs) fun d hd => by
    obtain ⟨ρ1, h1, h2⟩ := h d hd
    exact ⟨ρ1, h1, rfl, fun _ => h2⟩
  rw [this, List.filter_eq_self.mpr (fun _ _ => rfl), List.nil_append]
theorem boolsOf_map {α : Type} (f : α → Bool) : ∀ xs : List α, boolsOf (xs.map fun x => PyData.bool (f x)) = some (xs.map f)
  | [] => rfl
  | x :: xs => by simp [boolsOf, boolsOf_map f xs]
theorem all_map_id {α : Type} (f : α → Bool) (xs : List α) : (xs.map f).all id = xs.all f := by simp [List.all_map]
def letters : Str := "abcdefghijklmnopqrstuvwxyz"
def letB (c : Nat) : Bool := decide (c ∈ letters.cps.toList)
def nameS (z : Str) : Bool := decide (1 ≤ z.length) && decide (z.length ≤ 8) && z.cps.toList.all letB
theorem chD_len (z : Str) : (chD z).length = z.length := by simp [chD, Str.length]
def szS (z : Str) : Bool := szOk z.length && PyData.strOk z
theorem is_name_ok (z : Str) (w : Ws) (hs : szS z = true) : F_is_name [.str z] w = .ok (.bool (nameS z)) w := by
  have hz' : szOk z.length = true := ((Bool.and_eq_true _ _).mp hs).1
  have hz : z.length ≤ sizeLine := of_decide_eq_true hz'
  have key : ∀ ρ : Ev, 2 ≤ ρ.length → lcL (gN 1) tYs (eB inD (eV 1) (eC (.str "abcdefghijklmnopqrstuvwxyz"))) ρ (chD z) w [] = .ok ((chD z).map fun d => .bool (match d with | .str y => strIn y letters | _ => false)) w := by
    intro ρ hρ
    refine lcL_map _ _ (by rw [chD_len]; exact hz) fun d hd => ?_
    obtain ⟨c, _, rfl⟩ := List.mem_map.mp hd
    refine ⟨_, rfl, ?_⟩
    simp [eB, eV, eC, Oc.bind, Oc.of, inD, isIn, letters, show 1 < ρ.length by omega]
  have kk := key [some (.str z), none] (by simp)
  by_cases h1 : 1 ≤ z.length
  · have h1' : decide ((1 : Int) ≤ (z.length : Int)) = true := decide_eq_true (by omega)
    by_cases h2 : z.length ≤ 8
    · have h2' : decide ((z.length : Int) ≤ 8) = true := decide_eq_true (by omega)
      simp [F_is_name, b_is_name, defF, startE, sRet, sExp, sIf, sSeq, sAsg, sFor, gN, gT, gC, gZ, eAn, eOr, eNo, eIf, eIsi, eV, eC, eB, eU, eCb, eCall, eSl, oN, oS, eTup, eLst, aN, aC, eLc, eCh, tAn, tOr', tNo, tB', tTr, tYs, iE, iZ, iR1, iR2, sNil, Oc.bind, Oc.thenS, Oc.of, Oc.on, tyD, leave_rt, truD, List.replicate, List.set, List.append_nil, List.nil_append, List.cons_append, wipeE, cond_true, cond_false, k_ii, k_ib, k_is, k_it, k_bi, k_bb, k_bs, k_bt, k_si, k_sb, k_ss, k_st, k_ti, k_tb, k_ts, k_tt, k_li, k_lb, k_ls, k_lt, k_ni, k_nb, k_ns, k_nt, nameS, lenD, leD, cmpD, hz', h1, h2, h1', h2', itD, allD, qD, lstOf, kk, boolsOf_map, all_map_id]
      have eL : letB = fun c => decide (c ∈ letters.cps) := by funext c; simp [letB]
      simp [chD, List.all_map, strIn, eL, Function.comp_def]
    · have h2' : decide ((z.length : Int) ≤ 8) = false := decide_eq_false (by omega)
      simp [F_is_name, b_is_name, defF, startE, sRet, sExp, sIf, sSeq, sAsg, sFor, gN, gT, gC, gZ, eAn, eOr, eNo, eIf, eIsi, eV, eC, eB, eU, eCb, eCall, eSl, oN, oS, eTup, eLst, aN, aC, eLc, eCh, tAn, tOr', tNo, tB', tTr, tYs, iE, iZ, iR1, iR2, sNil, Oc.bind, Oc.thenS, Oc.of, Oc.on, tyD, leave_rt, truD, List.replicate, List.set, List.append_nil, List.nil_append, List.cons_append, wipeE, cond_true, cond_false, k_ii, k_ib, k_is, k_it, k_bi, k_bb, k_bs, k_bt, k_si, k_sb, k_ss, k_st, k_ti, k_tb, k_ts, k_tt, k_li, k_lb, k_ls, k_lt, k_ni, k_nb, k_ns, k_nt, nameS, lenD, leD, cmpD, hz', h1, h2, h1', h2', itD]
  · have h1' : decide ((1 : Int) ≤ (z.length : Int)) = false := decide_eq_false (by omega)
    simp [F_is_name, b_is_name, defF, startE, sRet, sExp, sIf, sSeq, sAsg, sFor, gN, gT, gC, gZ, eAn, eOr, eNo, eIf, eIsi, eV, eC, eB, eU, eCb, eCall, eSl, oN, oS, eTup, eLst, aN, aC, eLc, eCh, tAn, tOr', tNo, tB', tTr, tYs, iE, iZ, iR1, iR2, sNil, Oc.bind, Oc.thenS, Oc.of, Oc.on, tyD, leave_rt, truD, List.replicate, List.set, List.append_nil, List.nil_append, List.cons_append, wipeE, cond_true, cond_false, k_ii, k_ib, k_is, k_it, k_bi, k_bb, k_bs, k_bt, k_si, k_sb, k_ss, k_st, k_ti, k_tb, k_ts, k_tt, k_li, k_lb, k_ls, k_lt, k_ni, k_nb, k_ns, k_nt, nameS, lenD, leD, cmpD, hz', h1, h1', itD]
theorem is_remark_ok (z : Str) (w : Ws) (hs : szS z = true) : F_is_remark [.str z] w = .ok (.bool (nameS z)) w := by
  have h := is_name_ok z w hs
  show leave w.length (b_is_remark [some (.str z)] w) = _
  have b : b_is_remark [some (.str z)] w = .rt (.bool (nameS z)) w := by
    unfold b_is_remark
    simp only [sRet, eCall, aC, aN, eV, List.getElem?_cons_zero, List.getElem?_cons_succ, List.set_cons_zero, List.set_cons_succ, Oc.bind, List.append_nil, h, Oc.thenS]
  rw [b]
  exact leave_rt rfl
/-! ### notes -/
def ntD (x : List Nat × Str) : PyData := .tuple [plD x.1, .str x.2]
def ntF (t : Tr) (L : List (List Nat)) : List (List Nat × Str) := L.flatMap fun q => (ntA t q).map fun n => (q, n)
theorem ntF_len (t : Tr) (h : ∀ q, (ntA t q).length ≤ 20) : ∀ L : List (List Nat), (ntF t L).length ≤ 20 * L.length
  | [] => Nat.le_refl _
  | q :: L => by
    have h1 := ntF_len t h L
    have h2 := h q
    simp only [ntF, List.flatMap_cons, List.length_append, List.length_map, List.length_cons] at *
    omega
theorem ntA_at {t a : Tr} {q : List Nat} (e : sub t q = some a) : ntA t q = a.ns := by simp only [ntA, lab, e, Option.map_some, Option.getD_some]
theorem notes_loop (t : Tr) (w : Ws) (hN : ∀ q, (ntA t q).length ≤ 20) : ∀ (L : List (List Nat)) (acc : List PyData) (x2 : Option PyData), (∀ q ∈ L, (sub t q).isSome = true) → acc.length + 20 * L.length ≤ 100000 →
    ∃ y2, forL (gN 2) (sExp (eExt (eV 1) (eLc (iE (eB ixD (eCall F_below [] (aC (eV 0) (aC (eV 2) aN))) (eC (.int 0)))) (gN 3) tYs (eTup (aC (eV 2) (aC (eV 3) aN))) [3]))) (L.map plD) [some (toD t), some (rf w.length), x2, none] (w ++ [.lst acc]) =
      .nx [some (toD t), some (rf w.length), y2, none] (w ++ [.lst (acc ++ (ntF t L).map ntD)])
  | [], acc, x2, _, _ => ⟨x2, by simp [forL, ntF]⟩
  | q :: L, acc, x2, hL, hl => by
    obtain ⟨a, ha⟩ := Option.isSome_iff_exists.mp (hL q List.mem_cons_self)
    have hq := hN q
    rw [ntA_at ha] at hq
    simp only [List.length_cons] at hl
    obtain ⟨y2, ih⟩ := notes_loop t w hN L (acc ++ a.ns.map fun n => ntD (q, n)) (some (plD q)) (fun q' h => hL q' (List.mem_cons_of_mem _ h)) (by rw [List.length_append, List.length_map]; omega)
    refine ⟨y2, ?_⟩
    have h1 := fun W => below_ok ha W
    have i0 : ∀ W, ixD W (toD a) (.int 0) = some (.tuple (a.ns.map .str)) := fun W => ix0
    have it : itD (.tuple (a.ns.map PyData.str)) = some (a.ns.map .str) := rfl
    have z2 : szOk 2 = true := szOk_of (by omega)
    have lc : lcL (gN 3) tYs (eTup (aC (eV 2) (aC (eV 3) aN))) [some (toD t), some (rf w.length), some (plD q), none] (a.ns.map .str) (w ++ [.lst acc]) [] = .ok ((a.ns.map .str).map fun d => .tuple [plD q, d]) (w ++ [.lst acc]) :=
      lcL_map _ _ (by rw [sizeLine_eq, List.length_map]; omega) fun d _ => ⟨[some (toD t), some (rf w.length), some (plD q), some d], rfl, by simp only [eTup, aC, aN, eV, List.getElem?_cons_zero, List.getElem?_cons_succ, List.set_cons_zero, List.set_cons_succ, Oc.bind, List.length_cons, List.length_nil, Nat.zero_add, Nat.reduceAdd, z2, Oc.on, cond_true]⟩
    have g : (w ++ [Ob.lst acc])[w.length]? = some (.lst acc) := own_at0
    have lo := lst_at g
    have u := upd_at (k := fun xs => if xs.length + ((a.ns.map PyData.str).map fun d => PyData.tuple [plD q, d]).length ≤ sizeLine then some (.none, xs ++ ((a.ns.map PyData.str).map fun d => PyData.tuple [plD q, d])) else none) (d := .none) (ys := acc ++ ((a.ns.map PyData.str).map fun d => PyData.tuple [plD q, d])) g (by rw [if_pos (by rw [sizeLine_eq]; simp only [List.length_map]; omega)])
    have st : (w ++ [Ob.lst acc]).set w.length (.lst (acc ++ ((a.ns.map PyData.str).map fun d => PyData.tuple [plD q, d]))) = w ++ [.lst (acc ++ ((a.ns.map PyData.str).map fun d => PyData.tuple [plD q, d]))] := own_set0
    have sq : ∀ W xs, seqOf W (.list xs) = some xs := fun _ _ => rfl
    have e1 : ((a.ns.map PyData.str).map fun d => PyData.tuple [plD q, d]) = a.ns.map fun n => ntD (q, n) := by simp [ntD, Function.comp_def]
    have e2 : (ntF t (q :: L)).map ntD = (a.ns.map fun n => ntD (q, n)) ++ (ntF t L).map ntD := by
      simp only [ntF, List.flatMap_cons, List.map_append, ntA_at ha, List.map_map, Function.comp_def]
    rw [e2, ← List.append_assoc]
    rw [e1] at lc u st
    rw [List.map_cons (f := plD)]
    generalize toD t = T at *
    generalize plD q = PQ at *
    simp only [forL, gN, List.getElem?_cons_zero, List.getElem?_cons_succ, List.set_cons_zero, List.set_cons_succ, sExp, eExt, eLc, iE, eB, eCall, eV, eC, aC, aN, Oc.bind, Oc.of, List.append_nil, lo, Option.isSome_some, Oc.on, cond_true, h1, i0, it, wipeE]
    rw [lc]
    simp only [sq, u, st, Oc.thenS]
    exact ih
theorem notes_of_ok {t : Tr} {w : Ws} (hc : Cl w) (hn : nds t ≤ 500) (hN : ∀ q, (ntA t q).length ≤ 20) : F_notes_of [toD t] w = .ok (.tuple ((nts t).map ntD)) w := by
  have h1 := fun W (h : Cl W) => places_of_ok (t := t) (w := W) h hn
  have pl := pls_len [] t
  obtain ⟨y2, lp⟩ := notes_loop t w hN (pls [] t) [] none (fun q h => (pls_mem t q).mp h) (by simp only [List.length_nil]; omega)
  have sz0 : szOk 0 = true := szOk_of (by omega)
  have hc1 : Cl (w ++ [Ob.lst []]) := hc.snoc rfl
  have h2 := h1 _ hc1
  have g : (w ++ [Ob.lst ([] ++ (ntF t (pls [] t)).map ntD)])[w.length]? = some (.lst ([] ++ (ntF t (pls [] t)).map ntD)) := own_at0
  have lo := lst_at g
  show leave w.length (b_notes_of [some (toD t), none, none, none] w) = _
  have b : b_notes_of [some (toD t), none, none, none] w = .rt (.tuple ((nts t).map ntD)) (w ++ [.lst ([] ++ (ntF t (pls [] t)).map ntD)]) := by
    unfold b_notes_of
    have it : itD (.tuple ((pls [] t).map plD)) = some ((pls [] t).map plD) := rfl
    have tp : tupleD (w ++ [Ob.lst ([] ++ (ntF t (pls [] t)).map ntD)]) [rf w.length] = some (.tuple ((nts t).map ntD)) := by
      simp only [tupleD, rf, lst_at g, Option.map_some]; rfl
    generalize hT : toD t = T at *
    rw [seq_nx (ρ1 := [some T, some (rf w.length), none, none]) (w1 := w ++ [.lst []]) (by
      simp only [sAsg, eLstS, aN, Oc.bind, List.length_nil, sz0, Oc.on, cond_true, Oc.thenS, gN, List.getElem?_cons_zero, List.getElem?_cons_succ, List.set_cons_zero, List.set_cons_succ])]
    rw [seq_nx (ρ1 := [some T, some (rf w.length), y2, none]) (w1 := w ++ [.lst ([] ++ (ntF t (pls [] t)).map ntD)]) (by
      simp only [sFor, iE, eCall, aC, aN, eV, List.getElem?_cons_zero, List.getElem?_cons_succ, List.set_cons_zero, List.set_cons_succ, Oc.bind, List.append_nil, h2, it, Oc.of, Oc.thenS]
      exact lp)]
    simp only [sRet, eCb, aC, aN, eV, List.getElem?_cons_zero, List.getElem?_cons_succ, List.set_cons_zero, List.set_cons_succ, Oc.bind, tp, Oc.of, Oc.thenS]
  rw [b]
  refine leave_trim hc ?_
  simp only [bnd]
  generalize nts t = L
  induction L with
  | nil => rfl
  | cons x L ih => simp [bndA, ih, ntD, bnd, bnd_plD]
theorem remarks_of_ok {t : Tr} {w : Ws} (hc : Cl w) (hn : nds t ≤ 40) (hN : ∀ q, (ntA t q).length ≤ 20) (hS : ∀ x ∈ nts t, szS x.2 = true) : F_remarks_of [toD t] w = .ok (jn (((nts t).filter fun x => nameS x.2).map Prod.snd)) w := by
  have h1 := notes_of_ok hc (by omega) hN
  have hl : (nts t).length ≤ 800 := by
    have := ntF_len t hN (pls [] t)
    rw [pls_len] at this
    have e : (nts t).length = (ntF t (pls [] t)).length := rfl
    omega
  show leave w.length (b_remarks_of [some (toD t), none, none] w) = _
  have lc : lcL (gT 2 (gC (gN 1) (gC (gN 2) gZ))) (tTr (eCall F_is_remark [] (aC (eV 2) aN))) (eV 2) [some (toD t), none, none] ((nts t).map ntD) w [] = .ok ((((nts t).filter fun x => nameS x.2).map Prod.snd).map .str) w := by
    have := lcL_pure (gt := gT 2 (gC (gN 1) (gC (gN 2) gZ))) (tt := tTr (eCall F_is_remark [] (aC (eV 2) aN))) (fe := eV 2) (ρ := [some (toD t), none, none]) (w := w) (fun d => match d with | .tuple [_, .str z] => nameS z | _ => false) (fun d => match d with | .tuple [_, y] => y | _ => d) ((nts t).map ntD) [] (by rw [sizeLine_eq, List.length_map]; simp; omega) fun d hd => by
      obtain ⟨x, hx, rfl⟩ := List.mem_map.mp hd
      have h2 := is_remark_ok x.2 w (hS x hx)
      refine ⟨[some (toD t), some (plD x.1), some (.str x.2)], rfl, ?_, fun _ => rfl⟩
      simp only [tTr, eCall, aC, aN, eV, List.getElem?_cons_zero, List.getElem?_cons_succ, List.set_cons_zero, List.set_cons_succ, Oc.bind, List.append_nil, h2, truD, Oc.of, ntD]
    rw [this]
    simp only [List.nil_append, List.filter_map, List.map_map]
    rfl
  have hl2 : (((nts t).filter fun x => nameS x.2).map Prod.snd).length ≤ 1000 := by
    have := List.length_filter_le (fun x : List Nat × Str => nameS x.2) (nts t)
    rw [List.length_map]; omega
  generalize ((nts t).filter fun x => nameS x.2).map Prod.snd = NS at *
  have h3 := joined_ok (d := .list (NS.map .str)) (ns := NS) rfl hl2 w
  have b : b_remarks_of [some (toD t), none, none] w = .rt (jn NS) w := by
    unfold b_remarks_of
    have cv : eCallV 5 F_joined_notes (aC (eLc (iE (eCall F_notes_of [] (aC (eV 0) aN))) (gT 2 (gC (gN 1) (gC (gN 2) gZ))) (tTr (eCall F_is_remark [] (aC (eV 2) aN))) (eV 2) [1, 2]) aN) [some (toD t), none, none] w = .ok (jn NS) w := by
      refine callV_ok (as := [.list (NS.map .str)]) ?_ (by simp) h3
      have it : itD (.tuple ((nts t).map ntD)) = some ((nts t).map ntD) := rfl
      simp only [aC, aN, eLc, iE, eCall, eV, List.getElem?_cons_zero, List.getElem?_cons_succ, List.set_cons_zero, List.set_cons_succ, Oc.bind, List.append_nil, h1, it, Oc.of, wipeE]
      rw [lc]
    simp only [sRet, cv, Oc.thenS]
  rw [b]
  exact leave_rt rfl
end Tk

set_option Elab.async false
set_option linter.all false
set_option maxRecDepth 100000
set_option maxHeartbeats 4000000
namespace Tk
open PySem L2 Td Tg Tt
/-! ### depth, the nodes in order -/
def mxl : List Int → Int
  | [] => 0
  | n :: ns => ns.foldl max n
theorem intsOf_map : ∀ L : List Int, intsOf (L.map .int) = some L
  | [] => rfl
  | n :: L => by simp only [List.map_cons, intsOf, intsOf_map L, Option.map_some]
theorem max_ok (w : Ws) {L : List Int} (h : L ≠ []) : max1D w [.list (L.map .int)] = some (.int (mxl L)) := by
  cases L with
  | nil => exact absurd rfl h
  | cons n ns =>
    have := intsOf_map (n :: ns)
    simp only [max1D, lstOf_list, Option.bind_some, this, mxl]
def lns (L : List (List Nat)) : List Int := L.map fun q => (q.length : Int)
theorem pls_ne (t : Tr) : pls [] t ≠ [] := by cases t; simp [pls]
theorem lens_lc {i : Nat} {ρ : Ev} {w : Ws} (L : List (List Nat)) (hL : L.length ≤ 1000) (hi : i < ρ.length) : lcL (gN i) tYs (eCb lenD (aC (eV i) aN)) ρ (L.map plD) w [] = .ok ((lns L).map .int) w := by
  rw [lcL_map (fun d => match d with | .tuple ds => .int ds.length | _ => d) (L.map plD) (by rw [sizeLine_eq, List.length_map]; omega) fun d hd => by
    obtain ⟨q, _, rfl⟩ := List.mem_map.mp hd
    have hs : (ρ.set i (some (plD q)))[i]? = some (some (plD q)) := List.getElem?_set_self hi
    refine ⟨ρ.set i (some (plD q)), rfl, ?_⟩
    simp only [eCb, aC, aN, eV, hs, Oc.bind]
    simp only [plD, lenD, Oc.of]]
  simp [lns, plD, plI, Function.comp_def]
def dpt (t : Tr) : Int := 1 + mxl (lns (pls [] t))
theorem lns_ne (t : Tr) : lns (pls [] t) ≠ [] := by
  have := pls_ne t
  unfold lns
  intro h
  exact this (List.map_eq_nil_iff.mp h)
theorem depth_of_ok {t : Tr} {w : Ws} (hc : Cl w) (hn : nds t ≤ 500) : F_depth_of [toD t] w = .ok (.int (dpt t)) w := by
  have h1 := places_of_ok hc hn
  have pl := pls_len [] t
  have lc := lens_lc (i := 1) (ρ := [some (toD t), none]) (w := w) (pls [] t) (by omega) (by simp)
  have mx := max_ok w (lns_ne t)
  show leave w.length (b_depth_of [some (toD t), none] w) = _
  have b : b_depth_of [some (toD t), none] w = .rt (.int (dpt t)) w := by
    unfold b_depth_of
    have it : itD (.tuple ((pls [] t).map plD)) = some ((pls [] t).map plD) := rfl
    have ad : ∀ k, addD w (.int 1) (.int k) = some (.int (1 + k)) := fun _ => rfl
    generalize toD t = T at *
    simp only [sRet, eB, eCb, eLc, iE, eCall, aC, aN, eV, eC, List.getElem?_cons_zero, List.getElem?_cons_succ, List.set_cons_zero, List.set_cons_succ, Oc.bind, List.append_nil, h1, it, Oc.of, wipeE]
    rw [lc]
    simp only [mx, ad, Oc.thenS, dpt]
  rw [b]
  exact leave_rt rfl
def hdA (t : Tr) (q : List Nat) : Str := ((lab t q).map Prod.snd).getD ""
theorem hdA_at {t a : Tr} {q : List Nat} (e : sub t q = some a) : hdA t q = a.hd := by simp only [hdA, lab, e, Option.map_some, Option.getD_some]
def ndD (t : Tr) (q : List Nat) : PyData := .tuple [plD q, .str (hdA t q)]
theorem nodes_loop (t : Tr) (w : Ws) (hw : w.all plainOb = true) : ∀ (L : List (List Nat)) (ys : List PyData) (x1 : Option PyData), (∀ q ∈ L, (sub t q).isSome = true) →
    ∃ y1, gForL (gN 1) (gSq (gYd (eTup (aC (eV 1) (aC (eB ixD (eCall F_below [] (aC (eV 0) (aC (eV 1) aN))) (eC (.int 1))) aN)))) gNil) (L.map plD) [some (toD t), x1] w ys = .nx [some (toD t), y1] w (ys ++ L.map (ndD t))
  | [], ys, x1, _ => ⟨x1, by simp [gForL]⟩
  | q :: L, ys, x1, hL => by
    obtain ⟨a, ha⟩ := Option.isSome_iff_exists.mp (hL q List.mem_cons_self)
    obtain ⟨y1, ih⟩ := nodes_loop t w hw L (ys ++ [ndD t q]) (some (plD q)) fun q' h => hL q' (List.mem_cons_of_mem _ h)
    refine ⟨y1, ?_⟩
    have h1 := below_ok ha w
    have i1 : ixD w (toD a) (.int 1) = some (.str a.hd) := ix1
    have z2 : szOk 2 = true := szOk_of (by omega)
    have e1 : ndD t q = .tuple [plD q, .str a.hd] := by rw [ndD, hdA_at ha]
    have bn : bnd 0 (.tuple [plD q, .str a.hd]) = true := by simp only [bnd, bndA, bnd_plD, Bool.and_self]
    rw [List.map_cons, List.map_cons, e1]
    rw [e1] at ih
    generalize toD t = T at *
    generalize plD q = PQ at *
    simp only [gForL, gN, gSq, gYd, eTup, eB, eCall, eV, eC, aC, aN, List.getElem?_cons_zero, List.getElem?_cons_succ, List.set_cons_zero, List.set_cons_succ, Oc.bind, List.append_nil, h1, i1, Oc.of, List.length_cons, List.length_nil, Nat.zero_add, Nat.reduceAdd, z2, Oc.on, cond_true, bn, hw, Bool.and_self, Tg.gNil]
    refine ih.trans ?_
    simp only [List.append_assoc, List.singleton_append]
theorem nodes_of_ok {t : Tr} (hn : nds t ≤ 500) : F_nodes_of [toD t] = some ((pls [] t).map (ndD t)) := by
  have h1 := places_of_ok (t := t) (w := []) rfl hn
  obtain ⟨y1, lp⟩ := nodes_loop t [] rfl (pls [] t) [] none fun q h => (pls_mem t q).mp h
  have b : b_nodes_of [some (toD t), none] [] [] = .nx [some (toD t), y1] [] ((pls [] t).map (ndD t)) := by
    have it : itD (.tuple ((pls [] t).map plD)) = some ((pls [] t).map plD) := rfl
    unfold b_nodes_of
    rw [List.nil_append] at lp
    generalize toD t = T at *
    simp only [gSq, gFr, iE, eCall, aC, aN, eV, List.getElem?_cons_zero, List.getElem?_cons_succ, List.set_cons_zero, List.set_cons_succ, Oc.bind, List.append_nil, h1, it, Oc.of]
    rw [lp]; rfl
  unfold F_nodes_of genF
  have hb : bndA 0 [toD t] = true := by simp only [bndA, bnd_toD, Bool.and_self]
  rw [if_pos ⟨rfl, hb⟩]
  show (match b_nodes_of [some (toD t), none] [] [] with
    | .nx _ w ys => cond (w.all plainOb) (some ys) none
    | _ => none) = _
  rw [b]
  rfl
end Tk

set_option Elab.async false
set_option linter.all false
set_option maxRecDepth 100000
set_option maxHeartbeats 4000000
namespace Tk
open PySem L2 Td Tg Tt
/-! ### the trees of the law -/
def NU : List Str := ["-a", "-b", "-idem", "=a", "=b", "=no", "=zzzzzzzz", "a", "b", "c", "odd", "why"]
def HU : List Str := ["x", "no", "and", "or", "not", "f", "g", "h", "top", "zzzzzzzz", "a", "y"]
mutual
def VT : Tr → Prop
  | .mk ns h ps => ns.Sublist NU ∧ h ∈ HU ∧ VTA ps
def VTA : List Tr → Prop
  | [] => True
  | p :: ps => VT p ∧ VTA ps
end
theorem VTA_iff : ∀ {ps : List Tr}, VTA ps ↔ ∀ p ∈ ps, VT p
  | [] => by simp [VTA]
  | p :: ps => by simp [VTA, VTA_iff (ps := ps)]
theorem VT.at_ : ∀ {q : List Nat} {t a : Tr}, VT t → sub t q = some a → VT a
  | [], t, a, h, e => by rw [sub_nil] at e; cases e; exact h
  | k :: q, .mk ns hd ps, a, h, e => by
    obtain ⟨p, hp, e⟩ := sub_inv e
    exact VT.at_ (VTA_iff.mp h.2.2 p (List.mem_of_getElem? hp)) e
theorem VT.pt : ∀ {q : List Nat} {t a o : Tr}, VT t → VT o → sub t q = some a → VT (put t q o)
  | [], t, a, o, h, ho, e => by rw [put_nil]; exact ho
  | k :: q, .mk ns hd ps, a, o, h, ho, e => by
    obtain ⟨p, hp, e⟩ := sub_inv e
    rw [put_cons hp]
    refine ⟨h.1, h.2.1, VTA_iff.mpr fun x hx => ?_⟩
    rcases List.mem_or_eq_of_mem_set hx with hx | rfl
    · exact VTA_iff.mp h.2.2 x hx
    · exact VT.pt (VTA_iff.mp h.2.2 p (List.mem_of_getElem? hp)) ho e
mutual
theorem VT.br : ∀ {t : Tr}, VT t → VT (bare t)
  | .mk ns hd ps, h => ⟨List.nil_sublist _, h.2.1, VTA.br h.2.2⟩
theorem VTA.br : ∀ {ps : List Tr}, VTA ps → VTA (bareA ps)
  | [], _ => trivial
  | p :: ps, h => ⟨VT.br h.1, VTA.br h.2⟩
end
theorem VT.nl {t : Tr} (h : VT t) : t.ns.Sublist NU := by cases t; exact h.1
theorem VT.mk_ {a : Tr} {L : List Str} (h : VT a) (hL : L.Sublist NU) : VT (.mk L a.hd a.ps) := by cases a; exact ⟨hL, h.2.1, h.2.2⟩
theorem NU_ok : ∀ n ∈ NU, (ascS n && szS n) = true := by decide +kernel
theorem HU_ok : ∀ n ∈ HU, ascS n = true := by decide +kernel
theorem VT.na {t : Tr} (h : VT t) (q : List Nat) : (ntA t q).Sublist NU := by
  unfold Tt.ntA lab
  cases e : Tt.sub t q with
  | none => exact List.nil_sublist _
  | some a => exact (h.at_ e).nl
theorem VT.ntl {t : Tr} (h : VT t) (q : List Nat) : (Tt.ntA t q).length ≤ 20 := by
  have := (h.na q).length_le
  have : NU.length = 12 := rfl
  omega
theorem VT.nn {t : Tr} (h : VT t) : ∀ x ∈ nts t, x.2 ∈ NU := fun x hx => by
  unfold Tt.nts at hx
  obtain ⟨q, _, hx⟩ := List.mem_flatMap.mp hx
  obtain ⟨n, hn, rfl⟩ := List.mem_map.mp hx
  exact (h.na q).subset hn
theorem okDA_strs {ns : List Str} (h : ∀ n ∈ ns, n ∈ NU) : okDA (ns.map .str) = true := by
  refine okDA_iff.mpr fun d hd => ?_
  obtain ⟨n, hn, rfl⟩ := List.mem_map.mp hd
  have := NU_ok n (h n hn)
  rw [Bool.and_eq_true] at this
  simpa [okD] using this.1
mutual
theorem okD_toD : ∀ {t : Tr}, VT t → okD (toD t) = true
  | .mk ns hd ps, h => by
    have h1 := okDA_strs fun n hn => h.1.subset hn
    have h2 := HU_ok hd h.2.1
    have h3 := okDA_toDs h.2.2
    simp only [toD, okD, okDA, h1, h2, h3, Bool.and_self]
theorem okDA_toDs : ∀ {ps : List Tr}, VTA ps → okDA (toDs ps) = true
  | [], _ => rfl
  | p :: ps, h => by simp only [toDs, okDA, okD_toD h.1, okDA_toDs h.2, Bool.and_self]
end
theorem dpA_strs : ∀ ns : List Str, PyData.depthAll (ns.map .str) ≤ 1
  | [] => by simp [PyData.depthAll]
  | n :: ns => by have := dpA_strs ns; simp only [List.map_cons, PyData.depthAll, PyData.depth]; omega
mutual
theorem dp_toD : ∀ t : Tr, (toD t).depth ≤ 2 * hgt t + 3
  | .mk ns h ps => by
    have h1 := dpA_strs ns
    have h2 := dpA_toDs ps
    simp only [toD, PyData.depth, PyData.depthAll, hgt]; omega
theorem dpA_toDs : ∀ ps : List Tr, PyData.depthAll (toDs ps) ≤ 2 * hgtA ps + 1
  | [] => by simp [toDs, PyData.depthAll, hgtA]
  | p :: ps => by
    have h1 := dp_toD p
    have h2 := dpA_toDs ps
    simp only [toDs, PyData.depthAll, hgtA]; omega
end
/-! comparing -/
theorem okD_tr {t : Tr} (w : Ws) (h : VT t) (hh : hgt t ≤ 25) : neD w (toD t) (toD t) = some (.bool false) ∧ eqD w (toD t) (toD t) = some (.bool true) := by
  have := dp_toD t
  exact ⟨ne_same w (okD_toD h) (by omega), eq_same w (okD_toD h) (by omega)⟩
def plOk (q : List Nat) : Prop := ∀ k ∈ q, k ≤ 1000
theorem okDA_plI {q : List Nat} (h : plOk q) : okDA (plI q) = true := by
  refine okDA_iff.mpr fun d hd => ?_
  obtain ⟨k, hk, rfl⟩ := List.mem_map.mp hd
  have := h k hk
  simp only [okD]
  refine decide_eq_true ?_
  have : (1000 : Nat) < ten62 := by decide
  omega
theorem okD_plD {q : List Nat} (h : plOk q) : okD (plD q) = true := by
  unfold plD
  simp only [okD]
  exact okDA_plI h
theorem dpA_plI : ∀ q : List Nat, PyData.depthAll (plI q) ≤ 1
  | [] => by simp [plI, PyData.depthAll]
  | n :: ns => by
    have := dpA_plI ns
    unfold plI at *
    simp only [List.map_cons, PyData.depthAll, PyData.depth]; omega
theorem dp_plD (q : List Nat) : (plD q).depth ≤ 2 := by
  have := dpA_plI q
  unfold plD
  simp only [PyData.depth]; omega
theorem eqvA_plI : ∀ a b : List Nat, PyData.eqvAll (plI a) (plI b) = decide (a = b)
  | [], [] => by simp [plI, PyData.eqvAll]
  | [], _ :: _ => by simp [plI, PyData.eqvAll]
  | _ :: _, [] => by simp [plI, PyData.eqvAll]
  | x :: a, y :: b => by
    have := eqvA_plI a b
    unfold plI at *
    simp only [List.map_cons, PyData.eqvAll, PyData.eqv, this, List.cons.injEq]
    by_cases h1 : x = y <;> by_cases h2 : a = b <;> simp [h1, h2] <;> omega
theorem eqv_plD (a b : List Nat) : PyData.eqv (plD a) (plD b) = decide (a = b) := by
  unfold plD
  simp only [PyData.eqv]
  exact eqvA_plI a b
theorem pl_eq (w : Ws) {a b : List Nat} (ha : plOk a) (hb : plOk b) : eqD w (plD a) (plD b) = some (.bool (decide (a = b))) ∧ neD w (plD a) (plD b) = some (.bool (!decide (a = b))) := by
  have sa := shaped_of (okD_plD ha) (by have := dp_plD a; omega)
  have sb := shaped_of (okD_plD hb) (by have := dp_plD b; omega)
  unfold eqD neD
  rw [sa, sb, eqv_plD]
  exact ⟨rfl, rfl⟩
theorem plOk_sub : ∀ {q : List Nat} {t a : Tr}, sub t q = some a → nds t ≤ 1000 → plOk q
  | [], _, _, _, _ => fun k hk => by cases hk
  | k :: q, .mk ns h ps, a, e, hn => by
    obtain ⟨p, hp, e⟩ := sub_inv e
    have h1 := (List.getElem?_eq_some_iff.mp hp).1
    have h2 := ndsA_len ps
    have h3 : sub (.mk ns h ps) [k] = some p := by rw [sub_cons hp, sub_nil]
    have h4 := nds_sub h3
    have h5 := plOk_sub e (by omega)
    intro x hx
    simp only [nds] at hn
    rcases List.mem_cons.mp hx with rfl | hx
    · omega
    · exact h5 x hx
theorem plOk_take {q : List Nat} (h : plOk q) (n : Nat) : plOk (q.take n) := fun k hk => h k (List.mem_of_mem_take hk)
theorem plOk_drop {q : List Nat} (h : plOk q) (n : Nat) : plOk (q.drop n) := fun k hk => h k (List.mem_of_mem_drop hk)
theorem plOk_app {q r : List Nat} (h : plOk q) (h' : plOk r) : plOk (q ++ r) := fun k hk => (List.mem_append.mp hk).elim (h k) (h' k)
theorem pls_plOk {t : Tr} (hn : nds t ≤ 1000) {q : List Nat} (h : q ∈ pls [] t) : plOk q := by
  obtain ⟨a, e⟩ := Option.isSome_iff_exists.mp ((pls_mem t q).mp h)
  exact plOk_sub e hn
theorem depthA_le {n : Nat} : ∀ {ds : List PyData}, (∀ d ∈ ds, d.depth ≤ n) → PyData.depthAll ds ≤ n
  | [], _ => by simp [PyData.depthAll]
  | d :: ds, h => by
    have h1 := h d List.mem_cons_self
    have h2 := depthA_le fun x hx => h x (List.mem_cons_of_mem _ hx)
    simp only [PyData.depthAll]; omega
/-- lists of like data -/
theorem ls_same (w : Ws) {ds : List PyData} (h : ∀ d ∈ ds, okD d = true ∧ d.depth ≤ 60) : neD w (.list ds) (.list ds) = some (.bool false) := by
  refine ne_same w ?_ ?_
  · simp only [okD]; exact okDA_iff.mpr fun d hd => (h d hd).1
  · have := depthA_le fun d hd => (h d hd).2
    simp only [PyData.depth]; omega
theorem tp_same (w : Ws) {ds : List PyData} (h : ∀ d ∈ ds, okD d = true ∧ d.depth ≤ 60) : neD w (.tuple ds) (.tuple ds) = some (.bool false) ∧ eqD w (.tuple ds) (.tuple ds) = some (.bool true) := by
  have h1 : okD (.tuple ds) = true := by simp only [okD]; exact okDA_iff.mpr fun d hd => (h d hd).1
  have h2 : (PyData.tuple ds).depth ≤ 64 := by
    have := depthA_le fun d hd => (h d hd).2
    simp only [PyData.depth]; omega
  exact ⟨ne_same w h1 h2, eq_same w h1 h2⟩
theorem ok_pls {L : List (List Nat)} (h : ∀ q ∈ L, plOk q) : ∀ d ∈ L.map plD, okD d = true ∧ d.depth ≤ 60 := fun d hd => by
  obtain ⟨q, hq, rfl⟩ := List.mem_map.mp hd
  exact ⟨okD_plD (h q hq), by have := dp_plD q; omega⟩
theorem ok_nts {L : List (List Nat × Str)} (h : ∀ x ∈ L, plOk x.1 ∧ x.2 ∈ NU) : ∀ d ∈ L.map ntD, okD d = true ∧ d.depth ≤ 60 := fun d hd => by
  obtain ⟨x, hx, rfl⟩ := List.mem_map.mp hd
  have h1 := okD_plD (h x hx).1
  have h2 := NU_ok x.2 (h x hx).2
  rw [Bool.and_eq_true] at h2
  refine ⟨by simp only [ntD, okD, okDA, h1, h2.1, Bool.and_self], ?_⟩
  have := dp_plD x.1
  simp only [ntD, PyData.depth, PyData.depthAll]; omega
/-! notes, sorted -/
theorem NU_pw : NU.Pairwise (leS · · = true) := by decide +kernel
theorem NU_nd : NU.Nodup := by decide +kernel
theorem srt_sub {ys xs : List Str} (h : ys.Sublist NU) (hp : ys.Perm xs) : srtS xs = ys :=
  (List.Perm.eq_of_pairwise (fun a b _ _ => leS_anti) (NU_pw.sublist h) (srtS_srt xs) (hp.trans (srtS_perm xs).symm)).symm
theorem addS_mem {L : List Str} {x y : Str} : y ∈ addS L x ↔ y ∈ L ∨ y = x := by
  unfold addS
  by_cases h : x ∈ L
  · rw [decide_eq_true h, cond_true]
    exact ⟨.inl, fun q => q.elim id fun e => e ▸ h⟩
  · rw [decide_eq_false h, cond_false, List.mem_append, List.mem_singleton]
theorem ddS_mem {xs : List Str} {y : Str} : y ∈ ddS xs ↔ y ∈ xs := by
  have : ∀ (xs acc : List Str), y ∈ xs.foldl addS acc ↔ y ∈ acc ∨ y ∈ xs := fun xs => by
    induction xs with
    | nil => intro acc; simp
    | cons x xs ih => intro acc; rw [List.foldl_cons, ih, addS_mem, List.mem_cons, or_assoc]
  simpa [ddS] using this xs []
theorem addS_nodup {L : List Str} {x : Str} (h : L.Nodup) : (addS L x).Nodup := by
  unfold addS
  by_cases hx : x ∈ L
  · rw [decide_eq_true hx]; exact h
  · rw [decide_eq_false hx]
    show (L ++ [x]).Nodup
    rw [List.nodup_append]
    exact ⟨h, by simp, fun a ha b hb => by rw [List.mem_singleton] at hb; subst hb; exact fun e => hx (e ▸ ha)⟩
theorem ddS_nodup (xs : List Str) : (ddS xs).Nodup := by
  have : ∀ (xs acc : List Str), acc.Nodup → (xs.foldl addS acc).Nodup := fun xs => by
    induction xs with
    | nil => intro acc h; exact h
    | cons x xs ih => intro acc h; exact ih _ (addS_nodup h)
  exact this xs [] (by simp)
theorem srt_same {ns xs : List Str} (h : ns.Sublist NU) (hm : ∀ x, x ∈ xs ↔ x ∈ ns) : srtS (ddS xs) = ns :=
  srt_sub h ((List.perm_ext_iff_of_nodup (NU_nd.sublist h) (ddS_nodup xs)).mpr fun a => by rw [ddS_mem, hm])
end Tk

set_option Elab.async false
set_option linter.all false
set_option maxRecDepth 100000
set_option maxHeartbeats 4000000
namespace Tk
open PySem L2 Td Tg Tt
/-! ### a place, checked -/
theorem lcL_flt {α : Type} {gt : FG} {tt : FT} {fe : FE} {ρ : Ev} {w : Ws} (g : α → PyData) (p : α → Bool) (f : α → PyData) : ∀ (L : List α) (acc : List PyData), acc.length + L.length ≤ 100000 →
    (∀ x ∈ L, ∃ ρ1, gt (g x) ρ w = .ok ρ1 w ∧ tt ρ1 w = .ok (p x) w ∧ (p x = true → fe ρ1 w = .ok (f x) w)) → lcL gt tt fe ρ (L.map g) w acc = .ok (acc ++ (L.filter p).map f) w
  | [], acc, _, _ => by simp [lcL]
  | x :: L, acc, hs, h => by
    obtain ⟨ρ1, h1, h2, h3⟩ := h x List.mem_cons_self
    simp only [List.length_cons] at hs
    cases hp : p x with
    | false =>
      rw [hp] at h2
      have ih := lcL_flt g p f L acc (by omega) fun y hy => h y (List.mem_cons_of_mem _ hy)
      simp only [List.map_cons, lcL, h1, h2, ih, List.filter_cons, hp]
      rfl
    | true =>
      rw [hp] at h2
      have ih := lcL_flt g p f L (acc ++ [f x]) (by rw [List.length_append, List.length_singleton]; omega) fun y hy => h y (List.mem_cons_of_mem _ hy)
      simp only [List.map_cons, lcL, h1, h2, h3 hp, ih, List.filter_cons, hp, if_pos (show acc.length < sizeLine by rw [sizeLine_eq]; omega)]
      simp
theorem len_pl (w : Ws) (q : List Nat) : lenD w [plD q] = some (.int (q.length : Int)) := by simp only [lenD, plD, plI, List.length_map]
theorem cut_pl (w : Ws) (q : List Nat) (n : Nat) : cutD w (plD q) none (some (n : Int)) = some (plD (q.take n)) := by simp only [plD, plI, cutD, cut_to, List.map_take]
theorem cut_pl2 (w : Ws) (q : List Nat) (n : Nat) : cutD w (plD q) (some (n : Int)) none = some (plD (q.drop n)) := by simp only [plD, plI, cutD, cut_from, List.map_drop]
theorem add_pl (w : Ws) {q r : List Nat} (h : q.length + r.length ≤ 1000) : addD w (plD q) (plD r) = some (plD (q ++ r)) := by
  simp only [plD, plI, addD, List.map_append]
  rw [if_pos (szOk_of (by simp only [List.length_map]; omega))]
theorem lc_in {q : List Nat} {L : List (List Nat)} {x0 x2 x3 x4 x5 x6 x7 x9 : Option PyData} {w : Ws} (hq : plOk q) (hL : ∀ s ∈ L, plOk s) (hl : L.length ≤ 1000) :
    lcL (gN 8) (tB' (eB eqD (eSl (eV 8) oN (oS (eCb lenD (aC (eV 1) aN)))) (eV 1))) (eV 8) [x0, some (plD q), x2, x3, x4, x5, x6, x7, none, x9] (L.map plD) w [] = .ok ((L.filter (isP q)).map plD) w := by
  rw [lcL_flt plD (isP q) plD L [] (by simp only [List.length_nil]; omega) fun s hs => ⟨[x0, some (plD q), x2, x3, x4, x5, x6, x7, some (plD s), x9], rfl, by
    simp only [tB', eB, eSl, oN, oS, eCb, eV, aC, aN, List.getElem?_cons_zero, List.getElem?_cons_succ, List.set_cons_zero, List.set_cons_succ, Oc.bind, len_pl, Oc.of, cut_pl, (pl_eq w (plOk_take (hL s hs) q.length) hq).1, isP], fun _ => rfl⟩]
  rfl
theorem lc_out {q : List Nat} {L : List (List Nat)} {x0 x2 x3 x4 x5 x6 x7 x9 : Option PyData} {w : Ws} (hq : plOk q) (hL : ∀ s ∈ L, plOk s) (hl : L.length ≤ 1000) :
    lcL (gN 8) (tB' (eB neD (eSl (eV 8) oN (oS (eCb lenD (aC (eV 1) aN)))) (eV 1))) (eV 8) [x0, some (plD q), x2, x3, x4, x5, x6, x7, none, x9] (L.map plD) w [] = .ok ((L.filter fun s => !isP q s).map plD) w := by
  rw [lcL_flt plD (fun s => !isP q s) plD L [] (by simp only [List.length_nil]; omega) fun s hs => ⟨[x0, some (plD q), x2, x3, x4, x5, x6, x7, some (plD s), x9], rfl, by
    simp only [tB', eB, eSl, oN, oS, eCb, eV, aC, aN, List.getElem?_cons_zero, List.getElem?_cons_succ, List.set_cons_zero, List.set_cons_succ, Oc.bind, len_pl, Oc.of, cut_pl, (pl_eq w (plOk_take (hL s hs) q.length) hq).2, isP], fun _ => rfl⟩]
  rfl
theorem lc_nt {q : List Nat} {L : List (List Nat × Str)} {x0 x2 x3 x4 x5 x6 x7 x8 : Option PyData} {w : Ws} (hq : plOk q) (hL : ∀ s ∈ L, plOk s.1) (hl : L.length ≤ 1000) :
    lcL (gN 9) (tB' (eB neD (eSl (eB ixD (eV 9) (eC (.int 0))) oN (oS (eCb lenD (aC (eV 1) aN)))) (eV 1))) (eV 9) [x0, some (plD q), x2, x3, x4, x5, x6, x7, x8, none] (L.map ntD) w [] = .ok ((L.filter fun s => !isP q s.1).map ntD) w := by
  rw [lcL_flt ntD (fun s => !isP q s.1) ntD L [] (by simp only [List.length_nil]; omega) fun s hs => ⟨[x0, some (plD q), x2, x3, x4, x5, x6, x7, x8, some (ntD s)], rfl, by
    have i0 : ixD w (ntD s) (.int 0) = some (plD s.1) := rfl
    simp only [tB', eB, eC, eSl, oN, oS, eCb, eV, aC, aN, List.getElem?_cons_zero, List.getElem?_cons_succ, List.set_cons_zero, List.set_cons_succ, Oc.bind, len_pl, Oc.of, i0, cut_pl, (pl_eq w (plOk_take (hL s hs) q.length) hq).2, isP], fun _ => rfl⟩]
  rfl
theorem lc_add {q : List Nat} {L : List (List Nat)} {x0 x2 x3 x4 x5 x6 x7 x9 : Option PyData} {w : Ws} (hL : ∀ s ∈ L, q.length + s.length ≤ 1000) (hl : L.length ≤ 1000) :
    lcL (gN 8) tYs (eB addD (eV 1) (eV 8)) [x0, some (plD q), x2, x3, x4, x5, x6, x7, none, x9] (L.map plD) w [] = .ok ((L.map (q ++ ·)).map plD) w := by
  rw [lcL_flt plD (fun _ => true) (fun s => plD (q ++ s)) L [] (by simp only [List.length_nil]; omega) fun s hs => ⟨[x0, some (plD q), x2, x3, x4, x5, x6, x7, some (plD s), x9], rfl, rfl, fun _ => by
    simp only [eB, eV, List.getElem?_cons_zero, List.getElem?_cons_succ, List.set_cons_zero, List.set_cons_succ, Oc.bind, add_pl w (hL s hs), Oc.of]⟩]
  rw [List.filter_eq_self.mpr fun _ _ => rfl]
  simp [Function.comp_def]
def gs (a : Tr) (s : List Nat) : Tr := (sub a s).getD a
theorem gs_ok {a : Tr} {s : List Nat} (h : s ∈ pls [] a) : sub a s = some (gs a s) := by
  obtain ⟨b, e⟩ := Option.isSome_iff_exists.mp ((pls_mem a s).mp h)
  rw [gs, e]; rfl
theorem lc_n1 {t a : Tr} {q : List Nat} {x2 x3 x4 x5 x6 x7 x9 : Option PyData} {w : Ws} (e : sub t q = some a) (hn : nds t ≤ 500) :
    lcL (gN 8) tYs (eCall F_node_at [] (aC (eV 0) (aC (eV 8) aN))) [some (toD t), some (plD q), x2, x3, x4, x5, x6, x7, none, x9] (((pls [] a).map (q ++ ·)).map plD) w [] = .ok ((pls [] a).map fun s => toD (gs a s)) w := by
  have h1 := nds_sub e
  have h2 := pls_len [] a
  rw [List.map_map, lcL_flt (plD ∘ (q ++ ·)) (fun _ => true) (fun s => toD (gs a s)) (pls [] a) [] (by simp only [List.length_nil]; omega) fun s hs => ⟨[some (toD t), some (plD q), x2, x3, x4, x5, x6, x7, some (plD (q ++ s)), x9], rfl, rfl, fun _ => by
    have e2 : sub t (q ++ s) = some (gs a s) := by rw [sub_app e]; exact gs_ok hs
    have h3 := len_q e2
    have h4 := node_at_ok e2 (by omega) w
    simp only [eCall, aC, aN, eV, List.getElem?_cons_zero, List.getElem?_cons_succ, List.set_cons_zero, List.set_cons_succ, Oc.bind, List.append_nil, h4]⟩]
  rw [List.filter_eq_self.mpr fun _ _ => rfl]
  rfl
theorem lc_n2 {a : Tr} {q : List Nat} {x0 x2 x3 x4 x5 x7 x9 : Option PyData} {w : Ws} (hn : nds a ≤ 500) :
    lcL (gN 8) tYs (eCall F_node_at [] (aC (eV 6) (aC (eSl (eV 8) (oS (eCb lenD (aC (eV 1) aN))) oN) aN))) [x0, some (plD q), x2, x3, x4, x5, some (toD a), x7, none, x9] (((pls [] a).map (q ++ ·)).map plD) w [] = .ok ((pls [] a).map fun s => toD (gs a s)) w := by
  have h2 := pls_len [] a
  rw [List.map_map, lcL_flt (plD ∘ (q ++ ·)) (fun _ => true) (fun s => toD (gs a s)) (pls [] a) [] (by simp only [List.length_nil]; omega) fun s hs => ⟨[x0, some (plD q), x2, x3, x4, x5, some (toD a), x7, some (plD (q ++ s)), x9], rfl, rfl, fun _ => by
    have e2 := gs_ok hs
    have h3 := len_q e2
    have h4 := node_at_ok e2 (by omega) w
    have h5 : (q ++ s).drop q.length = s := List.drop_left
    simp only [eCall, aC, aN, eSl, oN, oS, eCb, eV, List.getElem?_cons_zero, List.getElem?_cons_succ, List.set_cons_zero, List.set_cons_succ, Oc.bind, List.append_nil, len_pl, Oc.of, cut_pl2, h5, h4]⟩]
  rw [List.filter_eq_self.mpr fun _ _ => rfl]
  rfl
end Tk

set_option Elab.async false
set_option linter.all false
set_option maxRecDepth 100000
set_option maxHeartbeats 4000000
namespace Tk
open PySem L2 Td Tg Tt
/-- a tree small enough -/
structure Sml (t : Tr) : Prop where
  vt : VT t
  ht : hgt t ≤ 12
  nd : nds t ≤ 13
theorem int_ne (w : Ws) (i : Int) (h : i.natAbs < ten62) : neD w (.int i) (.int i) = some (.bool false) := ne_same w (by simp only [okD]; exact decide_eq_true h) (by simp [PyData.depth])
theorem ok_gs {a : Tr} (h : VT a) (hh : hgt a ≤ 25) : ∀ d ∈ (pls [] a).map fun s => toD (gs a s), okD d = true ∧ d.depth ≤ 60 := fun d hd => by
  obtain ⟨s, hs, rfl⟩ := List.mem_map.mp hd
  have e := gs_ok hs
  have h1 := dp_toD (gs a s)
  have h2 := hgt_sub e
  exact ⟨okD_toD (h.at_ e), by omega⟩
theorem nts_pl {t : Tr} (hn : nds t ≤ 1000) : ∀ x ∈ nts t, plOk x.1 := fun x hx => by
  unfold Tt.nts at hx
  obtain ⟨q, hq, hx⟩ := List.mem_flatMap.mp hx
  obtain ⟨n, hn', rfl⟩ := List.mem_map.mp hx
  exact pls_plOk hn hq
theorem nts_len {t : Tr} (h : VT t) : (nts t).length ≤ 20 * nds t := by
  have := ntF_len t (fun q => h.ntl q) (pls [] t)
  rw [pls_len] at this
  exact this
theorem check_place_ok {t a o : Tr} {q : List Nat} {w : Ws} (hc : Cl w) (ht : Sml t) (ho : Sml o) (e : sub t q = some a) : F__law_check_place [toD t, plD q, toD o] w = .ok (.bool true) w := by
  have hq := len_q e
  have hsub := nds_sub e
  have hha := hgt_sub e
  have va := ht.vt.at_ e
  have vp := ht.vt.pt ho.vt e
  have h1 := ht.nd
  have h2 := ho.nd
  have h3 := ht.ht
  have h4 := ho.ht
  have np := nds_put (o := o) e
  have hp := hgt_put (o := o) e
  have e7 : sub (put t q o) q = some o := sub_put e
  have qok : plOk q := plOk_sub e (by omega)
  -- what is computed
  have c1 := node_at_ok e (by omega) w
  have c2 := with_tree_ok (o := o) hc e (by omega)
  have c3 := node_at_ok e7 (by omega) w
  have c4 := with_tree_ok (o := a) hc e (by omega)
  have c5 := with_tree_ok (o := a) hc e7 (by omega)
  rw [put_sub e] at c4
  rw [put_put e, put_sub e] at c5
  have c6 := size_of_ok (t := put t q o) hc (by omega)
  have c7 := size_of_ok (t := t) hc (by omega)
  have c8 := size_of_ok (t := a) hc (by omega)
  have c9 := size_of_ok (t := o) hc (by omega)
  have p1 := places_of_ok (t := t) hc (by omega)
  have p2 := places_of_ok (t := a) hc (by omega)
  have p3 := places_of_ok (t := put t q o) hc (by omega)
  have n1 := notes_of_ok (t := put t q o) hc (by omega) (fun q => vp.ntl q)
  have n2 := notes_of_ok (t := t) hc (by omega) (fun q => ht.vt.ntl q)
  have b1 := bare_ok (t := put t q o) hc (by omega)
  have b2 := bare_ok (t := t) hc (by omega)
  have b3 := bare_ok (t := o) hc (by omega)
  have b4 := with_tree_ok (t := bare t) (o := bare o) hc (bare_sub e) (by rw [nds_bare]; omega)
  rw [← bare_put e] at b4
  -- what is compared
  have d1 := (okD_tr w ho.vt (by omega)).1
  have d2 := (okD_tr w ht.vt (by omega)).1
  have d3 := (okD_tr w va (by omega)).1
  have d4 := (okD_tr w vp.br (by rw [hgt_bare]; omega)).2
  have k62 : (1000 : Nat) < ten62 := by decide
  have s1 : ∀ x y, subD w (.int x) (.int y) = some (.int (x - y)) := fun _ _ => rfl
  have s2 : ∀ x y, addD w (.int x) (.int y) = some (.int (x + y)) := fun _ _ => rfl
  have d5 : ((nds t : Int) - (nds a : Int) + (nds o : Int)) = (nds (put t q o) : Int) := by omega
  have d6 := int_ne w (nds (put t q o) : Int) (by omega)
  have l1 := pls_len [] t
  have l2 := pls_len [] a
  have l3 := pls_len [] (put t q o)
  have k1 := fun s (h : s ∈ pls [] t) => pls_plOk (t := t) (by omega) h
  have k2 := fun s (h : s ∈ pls [] a) => pls_plOk (t := a) (by omega) h
  have k3 := fun s (h : s ∈ pls [] (put t q o)) => pls_plOk (t := put t q o) (by omega) h
  have i1 : ∀ L : List (List Nat), itD (.tuple (L.map plD)) = some (L.map plD) := fun _ => rfl
  have i2 : ∀ L : List PyData, itD (.list L) = some L := fun _ => rfl
  have i3 : ∀ L : List (List Nat × Str), itD (.tuple (L.map ntD)) = some (L.map ntD) := fun _ => rfl
  have m1 := ls_same w (ds := ((pls [] a).map (q ++ ·)).map plD) (ok_pls fun s hs => by
    obtain ⟨r, hr, rfl⟩ := List.mem_map.mp hs
    exact plOk_app qok (k2 r hr))
  have m2 := ls_same w (ok_gs va (by omega))
  have m3 := ls_same w (ds := ((pls [] t).filter fun s => !isP q s).map plD) (ok_pls fun s hs => k1 s (List.mem_filter.mp hs).1)
  have m4 := ls_same w (ds := ((nts t).filter fun s => !isP q s.1).map ntD) (ok_nts fun s hs => ⟨nts_pl (t := t) (by omega) s (List.mem_filter.mp hs).1, ht.vt.nn s (List.mem_filter.mp hs).1⟩)
  have sz2 : szOk 2 = true := szOk_of (by omega)
  have lt := nts_len ht.vt
  have lp := nts_len vp
  have g1 := fun x3 x4 x5 x6 x7 x9 => lc_in (x0 := some (toD t)) (x2 := some (toD o)) (x3 := x3) (x4 := x4) (x5 := x5) (x6 := x6) (x7 := x7) (x9 := x9) (w := w) qok k1 (by omega)
  rw [pls_in e] at g1
  have g2 := fun x3 x4 x5 x6 x7 x9 => lc_add (x0 := some (toD t)) (q := q) (L := pls [] a) (x2 := some (toD o)) (x3 := x3) (x4 := x4) (x5 := x5) (x6 := x6) (x7 := x7) (x9 := x9) (w := w) (fun s hs => by have := len_q (gs_ok hs); omega) (by omega)
  have g3 := fun x3 x4 x5 x6 x7 x9 => lc_n1 (x2 := some (toD o)) (x3 := x3) (x4 := x4) (x5 := x5) (x6 := x6) (x7 := x7) (x9 := x9) (w := w) e (by omega)
  have g4 := fun x3 x4 x5 x7 x9 => lc_n2 (a := a) (q := q) (x0 := some (toD t)) (x2 := some (toD o)) (x3 := x3) (x4 := x4) (x5 := x5) (x7 := x7) (x9 := x9) (w := w) (by omega)
  have g5 := fun x3 x4 x5 x6 x7 x9 => lc_out (x0 := some (toD t)) (x2 := some (toD o)) (x3 := x3) (x4 := x4) (x5 := x5) (x6 := x6) (x7 := x7) (x9 := x9) (w := w) qok k1 (by omega)
  have g6 := fun x3 x4 x5 x6 x7 x9 => lc_out (x0 := some (toD t)) (x2 := some (toD o)) (x3 := x3) (x4 := x4) (x5 := x5) (x6 := x6) (x7 := x7) (x9 := x9) (w := w) qok k3 (by omega)
  rw [pls_out e] at g6
  have g7 := fun x3 x4 x5 x6 x7 x8 => lc_nt (x0 := some (toD t)) (x2 := some (toD o)) (x3 := x3) (x4 := x4) (x5 := x5) (x6 := x6) (x7 := x7) (x8 := x8) (w := w) (L := nts (put t q o)) qok (nts_pl (by omega)) (by omega)
  rw [nts_out e] at g7
  have g8 := fun x3 x4 x5 x6 x7 x8 => lc_nt (x0 := some (toD t)) (x2 := some (toD o)) (x3 := x3) (x4 := x4) (x5 := x5) (x6 := x6) (x7 := x7) (x8 := x8) (w := w) (L := nts t) qok (nts_pl (by omega)) (by omega)
  show leave w.length (b__law_check_place [some (toD t), some (plD q), some (toD o), none, none, none, none, none, none, none] w) = _
  have key : wS (fun _ _ => False) (fun d W => d = .bool true ∧ W = w) (b__law_check_place [some (toD t), some (plD q), some (toD o), none, none, none, none, none, none, none] w) := by
    unfold b__law_check_place
    simp only [wipeE, sRet, sExp, sIf, sAsg, sFor, gN, gT, gC, gZ, eAn, eOr, eNo, eIf, eIsi, eV, eC, eB, eU, eCb, eCall, eSl, oN, oS, eTup, eLst, aN, aC, eLc, eCh, tAn, tOr', tNo, tB', tTr, tYs, iE, iZ, iR1, iR2, sNil, wO_bind, wO_ok, wO_onE, wO_ofif, wO_some, wS_seq, wS_then, wS_nx, wS_rt, cond_true, cond_false, List.append_nil, List.nil_append, List.cons_append, List.getElem?_cons_zero, List.getElem?_cons_succ, List.set_cons_zero, List.set_cons_succ, Oc.on, c1, c2, List.length_cons, List.length_nil, Nat.zero_add, Nat.reduceAdd, sz2, gT, bindok, if_true, c3, d1, c4, d2, c5, c6, c7, c8, c9, s1, s2, d5, d6, d3, p1, i1, g1, p2, g2, m1, i2, g3, g4, m2, g5, p3, g6, m3, n1, i3, g7, n2, g8, m4, b1, b2, b3, b4, d4]
    exact ⟨trivial, trivial⟩
  obtain ⟨d, w1, e1, rfl, rfl⟩ := wS_rtE key
  rw [e1]
  exact leave_rt rfl
end Tk

set_option Elab.async false
set_option linter.all false
set_option maxRecDepth 100000
set_option maxHeartbeats 4000000
namespace Tk
open PySem L2 Td Tg Tt
/-! ### notes, checked -/
theorem sign_ok : ∀ n ∈ NU, (match ixD [] (.str n) (.int 0) with
    | some (.str c) => decide ((!strIn c ("-=" : Str)) = nameS n)
    | _ => false) = true := by decide +kernel
theorem sign_at {n : Str} (h : n ∈ NU) (w : Ws) : ∃ c, ixD w (.str n) (.int 0) = some (.str c) ∧ niD w (.str c) (.str "-=") = some (.bool (nameS n)) := by
  have := sign_ok n h
  split at this
  · rename_i c e
    refine ⟨c, e, ?_⟩
    have := of_decide_eq_true this
    simp only [niD, isIn, Option.map_some, this]
  · cases this
theorem lc_h1 {q : List Nat} {L : List (List Nat × Str)} {x0 x2 x3 x4 x5 x7 x8 : Option PyData} {w : Ws} (hq : plOk q) (hL : ∀ s ∈ L, plOk s.1) (hl : L.length ≤ 1000) :
    lcL (gN 6) (tB' (eB eqD (eB ixD (eV 6) (eC (.int 0))) (eV 1))) (eV 6) [x0, some (plD q), x2, x3, x4, x5, none, x7, x8] (L.map ntD) w [] = .ok ((L.filter fun s => decide (s.1 = q)).map ntD) w := by
  rw [lcL_flt ntD (fun s => decide (s.1 = q)) ntD L [] (by simp only [List.length_nil]; omega) fun s hs => ⟨[x0, some (plD q), x2, x3, x4, x5, some (ntD s), x7, x8], rfl, by
    have i0 : ixD w (ntD s) (.int 0) = some (plD s.1) := rfl
    simp only [tB', eB, eC, eV, List.getElem?_cons_zero, List.getElem?_cons_succ, List.set_cons_zero, List.set_cons_succ, Oc.bind, Oc.of, i0, (pl_eq w (hL s hs) hq).1], fun _ => rfl⟩]
  rfl
theorem lc_h2 {q : List Nat} {L : List (List Nat × Str)} {x0 x2 x3 x4 x5 x7 x8 : Option PyData} {w : Ws} (hq : plOk q) (hL : ∀ s ∈ L, plOk s.1) (hl : L.length ≤ 1000) :
    lcL (gN 6) (tB' (eB neD (eB ixD (eV 6) (eC (.int 0))) (eV 1))) (eV 6) [x0, some (plD q), x2, x3, x4, x5, none, x7, x8] (L.map ntD) w [] = .ok ((L.filter fun s => !decide (s.1 = q)).map ntD) w := by
  rw [lcL_flt ntD (fun s => !decide (s.1 = q)) ntD L [] (by simp only [List.length_nil]; omega) fun s hs => ⟨[x0, some (plD q), x2, x3, x4, x5, some (ntD s), x7, x8], rfl, by
    have i0 : ixD w (ntD s) (.int 0) = some (plD s.1) := rfl
    simp only [tB', eB, eC, eV, List.getElem?_cons_zero, List.getElem?_cons_succ, List.set_cons_zero, List.set_cons_succ, Oc.bind, Oc.of, i0, (pl_eq w (hL s hs) hq).2], fun _ => rfl⟩]
  rfl
theorem lc_h3 {q : List Nat} {L : List (List Nat × Str)} {x0 x2 x3 x4 x5 x6 : Option PyData} {w : Ws} (hq : plOk q) (hL : ∀ s ∈ L, plOk s.1) (hl : L.length ≤ 1000) :
    lcL (gT 2 (gC (gN 7) (gC (gN 8) gZ))) (tB' (eB eqD (eV 7) (eV 1))) (eV 8) [x0, some (plD q), x2, x3, x4, x5, x6, none, none] (L.map ntD) w [] = .ok ((L.filter fun s => decide (s.1 = q)).map fun s => .str s.2) w := by
  rw [lcL_flt ntD (fun s => decide (s.1 = q)) (fun s => .str s.2) L [] (by simp only [List.length_nil]; omega) fun s hs => ⟨[x0, some (plD q), x2, x3, x4, x5, x6, some (plD s.1), some (.str s.2)], rfl, by
    simp only [tB', eB, eC, eV, List.getElem?_cons_zero, List.getElem?_cons_succ, List.set_cons_zero, List.set_cons_succ, Oc.bind, Oc.of, (pl_eq w (hL s hs) hq).1], fun _ => rfl⟩]
  rfl
theorem lc_h4 {L : List (List Nat × Str)} {x0 x1 x2 x3 x4 x5 x6 : Option PyData} {w : Ws} (hL : ∀ s ∈ L, s.2 ∈ NU) (hl : L.length ≤ 1000) :
    lcL (gT 2 (gC (gN 7) (gC (gN 8) gZ))) (tB' (eB niD (eB ixD (eV 8) (eC (.int 0))) (eC (.str "-=")))) (eV 8) [x0, x1, x2, x3, x4, x5, x6, none, none] (L.map ntD) w [] = .ok (((L.filter fun s => nameS s.2).map Prod.snd).map .str) w := by
  rw [lcL_flt ntD (fun s => nameS s.2) (fun s => .str s.2) L [] (by simp only [List.length_nil]; omega) fun s hs => ⟨[x0, x1, x2, x3, x4, x5, x6, some (plD s.1), some (.str s.2)], rfl, by
    obtain ⟨c, h1, h2⟩ := sign_at (hL s hs) w
    simp only [tB', eB, eC, eV, List.getElem?_cons_zero, List.getElem?_cons_succ, List.set_cons_zero, List.set_cons_succ, Oc.bind, Oc.of, h1, h2], fun _ => rfl⟩]
  rw [List.map_map]
  rfl
def N4 : List Str := ["why", "=b", "why", "-b"]
def N3 : List Str := ["-b", "=b", "why"]
theorem N3_sub : N3.Sublist NU := by decide +kernel
theorem N4_srt : srtS (ddS N4) = N3 := by decide +kernel
theorem mark_eq {a : Tr} : Tr.mk a.ns a.hd a.ps = a := by cases a; rfl
theorem hgt_mark (a : Tr) (L : List Str) : hgt (.mk L a.hd a.ps) = hgt a := by cases a; rfl
theorem nds_mark (a : Tr) (L : List Str) : nds (.mk L a.hd a.ps) = nds a := by cases a; rfl
theorem check_notes_ok {t a : Tr} {q : List Nat} {w : Ws} (hc : Cl w) (ht : Sml t) (e : sub t q = some a) : F__law_check_notes [toD t, plD q] w = .ok (.bool true) w := by
  have hq := len_q e
  have va := ht.vt.at_ e
  have h1 := ht.nd
  have h3 := ht.ht
  have hha := hgt_sub e
  have qok : plOk q := plOk_sub e (by omega)
  obtain ⟨t2, ht2⟩ : ∃ t2, t2 = put t q (.mk N3 a.hd a.ps) := ⟨_, rfl⟩
  have np := nds_put (o := .mk N3 a.hd a.ps) e
  have hp := hgt_put (o := .mk N3 a.hd a.ps) e
  rw [nds_mark] at np
  rw [hgt_mark] at hp
  rw [← ht2] at np hp
  have v2 : VT t2 := by rw [ht2]; exact ht.vt.pt (va.mk_ N3_sub) e
  have e2 : sub t2 q = some (.mk N3 a.hd a.ps) := by rw [ht2]; exact sub_put e
  have c1 : F_with_notes [toD t, plD q, .tuple [.str "why", .str "=b", .str "why", .str "-b"]] w = .ok (toD t2) w := by
    have := with_notes_ok (ns := N4) hc e (by omega) (by decide)
    rw [mark, N4_srt, ← ht2] at this
    exact this
  have n1 := notes_of_ok (t := t2) hc (by omega) (fun q => v2.ntl q)
  have n2 := notes_of_ok (t := t) hc (by omega) (fun q => ht.vt.ntl q)
  have l1 := nts_len ht.vt
  have l2 := nts_len v2
  have g1 := fun x3 x4 x5 x7 x8 => lc_h1 (x0 := some (toD t)) (x2 := some (toD t2)) (x3 := x3) (x4 := x4) (x5 := x5) (x7 := x7) (x8 := x8) (w := w) (L := nts t2) qok (nts_pl (by omega)) (by omega)
  rw [nts_here e2] at g1
  have g1' : (((Tr.mk N3 a.hd a.ps).ns.map fun n => (q, n)).map ntD) = [.tuple [plD q, .str "-b"], .tuple [plD q, .str "=b"], .tuple [plD q, .str "why"]] := rfl
  rw [g1'] at g1
  have m1 := ls_same w (ds := [.tuple [plD q, .str "-b"], .tuple [plD q, .str "=b"], .tuple [plD q, .str "why"]]) (by
    have := ok_nts (L := N3.map fun n => (q, n)) fun x hx => by
      obtain ⟨n, hn, rfl⟩ := List.mem_map.mp hx
      exact ⟨qok, N3_sub.subset hn⟩
    exact this)
  have b1 := bare_ok (t := t2) hc (by omega)
  have b2 := bare_ok (t := t) hc (by omega)
  rw [ht2, bare_mark e, ← ht2] at b1
  have d1 := (okD_tr w ht.vt.br (by rw [hgt_bare]; omega)).1
  have d2 := (okD_tr w ht.vt (by omega)).1
  have g2 := fun x3 x4 x5 x7 x8 => lc_h2 (x0 := some (toD t)) (x2 := some (toD t2)) (x3 := x3) (x4 := x4) (x5 := x5) (x7 := x7) (x8 := x8) (w := w) (L := nts t) qok (nts_pl (by omega)) (by omega)
  have g3 := fun x3 x4 x5 x7 x8 => lc_h2 (x0 := some (toD t)) (x2 := some (toD t2)) (x3 := x3) (x4 := x4) (x5 := x5) (x7 := x7) (x8 := x8) (w := w) (L := nts t2) qok (nts_pl (by omega)) (by omega)
  rw [ht2, nts_mark e, ← ht2] at g3
  have m2 := ls_same w (ds := ((nts t).filter fun s => !decide (s.1 = q)).map ntD) (ok_nts fun s hs => ⟨nts_pl (t := t) (by omega) s (List.mem_filter.mp hs).1, ht.vt.nn s (List.mem_filter.mp hs).1⟩)
  have g4 := fun x3 x4 x5 x6 => lc_h3 (x0 := some (toD t)) (x2 := some (toD t2)) (x3 := x3) (x4 := x4) (x5 := x5) (x6 := x6) (w := w) (L := nts t) qok (nts_pl (by omega)) (by omega)
  rw [nts_here e, List.map_map, show ((fun s : List Nat × Str => PyData.str s.2) ∘ fun n => (q, n)) = PyData.str from rfl] at g4
  have tp : ∀ L, tupleD w [.list L] = some (.tuple L) := fun _ => rfl
  have rv : ∀ L, revD w (.tuple L) = some (.tuple L.reverse) := fun _ => rfl
  have nl := va.nl.length_le
  have nul : NU.length = 12 := rfl
  have ad : addD w (.tuple (a.ns.map PyData.str).reverse) (.tuple (a.ns.map PyData.str)) = some (.tuple ((a.ns.reverse ++ a.ns).map .str)) := by
    simp only [addD, List.map_append, List.map_reverse]
    rw [if_pos (szOk_of (by simp only [List.length_reverse, List.length_map]; omega))]
  have c2 := with_notes_ok (ns := a.ns.reverse ++ a.ns) hc e2 (by omega) (by rw [List.length_append, List.length_reverse]; omega)
  rw [mark, srt_same va.nl (fun x => by simp), ht2, put_put e, ← ht2] at c2
  change _ = Oc.ok (toD (put t q (Tr.mk a.ns a.hd a.ps))) w at c2
  rw [mark_eq, put_sub e] at c2
  have c3 : F_with_notes [toD t2, plD q, .tuple []] w = .ok (toD (put t q (.mk [] a.hd a.ps))) w := by
    have := with_notes_ok (ns := []) hc e2 (by omega) (by decide)
    rw [mark, ht2, put_put e, ← ht2] at this
    exact this
  have c4 : F_with_notes [toD t, plD q, .tuple []] w = .ok (toD (put t q (.mk [] a.hd a.ps))) w := with_notes_ok (ns := []) hc e (by omega) (by decide)
  have hp3 := hgt_put (o := .mk [] a.hd a.ps) e
  rw [hgt_mark] at hp3
  have d3 := (okD_tr w (ht.vt.pt (va.mk_ (List.nil_sublist _)) e) (by omega)).1
  have r1 := remarks_of_ok (t := t2) hc (by omega) (fun q => v2.ntl q) (fun x hx => by
    have := NU_ok x.2 (v2.nn x hx)
    rw [Bool.and_eq_true] at this
    exact this.2)
  have g5 := fun x3 x4 x5 x6 => lc_h4 (x0 := some (toD t)) (x1 := some (plD q)) (x2 := some (toD t2)) (x3 := x3) (x4 := x4) (x5 := x5) (x6 := x6) (w := w) (L := nts t2) v2.nn (by omega)
  have hNS : ∀ n ∈ ((nts t2).filter fun x => nameS x.2).map Prod.snd, n ∈ NU := fun n hn => by
    obtain ⟨x, hx, rfl⟩ := List.mem_map.mp hn
    exact v2.nn x (List.mem_filter.mp hx).1
  have hlN : (((nts t2).filter fun x => nameS x.2).map Prod.snd).length ≤ 1000 := by
    have := List.length_filter_le (fun x : List Nat × Str => nameS x.2) (nts t2)
    rw [List.length_map]; omega
  generalize ((nts t2).filter fun x => nameS x.2).map Prod.snd = NS at *
  have ss : sosD w [.list (NS.map .str)] = some (.list ((srtS (ddS NS)).map .str)) := by
    simp only [sosD, lstOf_list, strsD_strs]
    rw [if_pos (decide_eq_true (by unfold scanBound; omega))]
  have d4 := (tp_same w (ds := (srtS (ddS NS)).map .str) fun d hd => by
    obtain ⟨n, hn, rfl⟩ := List.mem_map.mp hd
    have hm : n ∈ NS := ddS_mem.mp ((srtS_perm _).mem_iff.mp hn)
    have := NU_ok n (hNS n hm)
    rw [Bool.and_eq_true] at this
    exact ⟨by simp only [okD]; exact this.1, by simp [PyData.depth]⟩).2
  have i3 : ∀ L : List (List Nat × Str), itD (.tuple (L.map ntD)) = some (L.map ntD) := fun _ => rfl
  have z0 : szOk 0 = true := szOk_of (by omega)
  have z2 : szOk 2 = true := szOk_of (by omega)
  have z3 : szOk 3 = true := szOk_of (by omega)
  have z4 : szOk 4 = true := szOk_of (by omega)
  show leave w.length (b__law_check_notes [some (toD t), some (plD q), none, none, none, none, none, none, none] w) = _
  have key : wS (fun _ _ => False) (fun d W => d = .bool true ∧ W = w) (b__law_check_notes [some (toD t), some (plD q), none, none, none, none, none, none, none] w) := by
    unfold b__law_check_notes
    unfold jn at r1
    simp only [wipeE, sRet, sExp, sIf, sAsg, sFor, gN, gT, gC, gZ, eAn, eOr, eNo, eIf, eIsi, eV, eC, eB, eU, eCb, eCall, eSl, oN, oS, eTup, eLst, aN, aC, eLc, eCh, tAn, tOr', tNo, tB', tTr, tYs, iE, iZ, iR1, iR2, sNil, wO_bind, wO_ok, wO_onE, wO_ofif, wO_some, wS_seq, wS_then, wS_nx, wS_rt, cond_true, cond_false, List.append_nil, List.nil_append, List.cons_append, List.getElem?_cons_zero, List.getElem?_cons_succ, List.set_cons_zero, List.set_cons_succ, Oc.on, List.length_cons, List.length_nil, Nat.zero_add, Nat.reduceAdd, z0, z2, z3, z4, c1, n1, i3, g1, m1, b1, b2, d1, n2, g2, g3, m2, g4, tp, rv, ad, c2, d2, c3, c4, d3, r1, g5, ss, d4]
    exact ⟨trivial, trivial⟩
  obtain ⟨d, w1, e1, rfl, rfl⟩ := wS_rtE key
  rw [e1]
  exact leave_rt rfl
theorem sub_put_pre : ∀ {q s : List Nat} {t a b m : Tr}, sub t q = some a → sub t (q ++ s) = some b → sub (put t (q ++ s) m) q = some (put a s m)
  | [], s, t, a, b, m, e, _ => by
    rw [sub_nil] at e
    cases e
    rw [List.nil_append, sub_nil]
  | k :: q, s, .mk ns h ps, a, b, m, e, e' => by
    obtain ⟨p, hp, e⟩ := sub_inv e
    obtain ⟨p', hp', e'⟩ := sub_inv (q := q ++ s) e'
    rw [hp] at hp'
    cases hp'
    rw [List.cons_append, put_cons hp, sub_cons (set_self hp)]
    exact sub_put_pre e e'
theorem check_two_ok {t a b o m : Tr} {q r : List Nat} {w : Ws} (hc : Cl w) (ht : Sml t) (ho : Sml o) (hm : Sml m) (e : sub t q = some a) (e' : sub t r = some b) : F__law_check_two [toD t, plD q, plD r, toD o, toD m] w = .ok (.bool true) w := by
  have h1 := ht.nd
  have h2 := ho.nd
  have h3 := hm.nd
  have h4 := ht.ht
  have h5 := ho.ht
  have h6 := hm.ht
  have qok : plOk q := plOk_sub e (by omega)
  have rok : plOk r := plOk_sub e' (by omega)
  have ga := hgt_sub e
  have gb := hgt_sub e'
  have pq := nds_put (o := o) e
  have pr := nds_put (o := m) e'
  have hq := hgt_put (o := o) e
  have hr := hgt_put (o := m) e'
  have c1 := with_tree_ok (o := m) hc e' (by omega)
  have c2 := with_tree_ok (o := o) hc e (by omega)
  have t1 := (pl_eq w (plOk_take rok q.length) qok).1
  have t2 := (pl_eq w (plOk_take qok r.length) rok).1
  have d0 := (okD_tr w (ht.vt.pt ho.vt e) (by omega)).2
  show leave w.length (b__law_check_two [some (toD t), some (plD q), some (plD r), some (toD o), some (toD m), none] w) = _
  have key : wS (fun _ _ => False) (fun d W => d = .bool true ∧ W = w) (b__law_check_two [some (toD t), some (plD q), some (plD r), some (toD o), some (toD m), none] w) := by
    unfold b__law_check_two
    by_cases hp : q <+: r
    · obtain ⟨s, rfl⟩ := hp
      have tk : decide ((q ++ s).take q.length = q) = true := decide_eq_true List.take_left
      have e3 : sub (put t (q ++ s) m) q = some (put a s m) := by
        exact sub_put_pre e e'
      have c3 := with_tree_ok (o := o) hc e3 (by omega)
      rw [put_above e'] at c3
      simp only [wipeE, sRet, sExp, sIf, sAsg, sFor, gN, gT, gC, gZ, eAn, eOr, eNo, eIf, eIsi, eV, eC, eB, eU, eCb, eCall, eSl, oN, oS, eTup, eLst, aN, aC, eLc, eCh, tAn, tOr', tNo, tB', tTr, tYs, iE, iZ, iR1, iR2, sNil, wO_bind, wO_ok, wO_onE, wO_ofif, wO_some, wS_seq, wS_then, wS_nx, wS_rt, cond_true, cond_false, List.append_nil, List.nil_append, List.cons_append, List.getElem?_cons_zero, List.getElem?_cons_succ, List.set_cons_zero, List.set_cons_succ, len_pl, cut_pl, t1, tk, c1, c2, c3, d0]
      exact ⟨trivial, trivial⟩
    · have tk : decide (r.take q.length = q) = false := decide_eq_false fun h => hp (isP_iff.mp (by simp [isP, h]))
      by_cases hp2 : r <+: q
      · have tk2 : decide (q.take r.length = r) = true := by
          have := isP_iff.mpr hp2
          simpa [isP] using this
        simp only [wipeE, sRet, sExp, sIf, sAsg, sFor, gN, gT, gC, gZ, eAn, eOr, eNo, eIf, eIsi, eV, eC, eB, eU, eCb, eCall, eSl, oN, oS, eTup, eLst, aN, aC, eLc, eCh, tAn, tOr', tNo, tB', tTr, tYs, iE, iZ, iR1, iR2, sNil, wO_bind, wO_ok, wO_onE, wO_ofif, wO_some, wS_seq, wS_then, wS_nx, wS_rt, cond_true, cond_false, List.append_nil, List.nil_append, List.cons_append, List.getElem?_cons_zero, List.getElem?_cons_succ, List.set_cons_zero, List.set_cons_succ, len_pl, cut_pl, t1, t2, tk, tk2]
        exact ⟨trivial, trivial⟩
      · have tk2 : decide (q.take r.length = r) = false := decide_eq_false fun h => hp2 (isP_iff.mp (by simp [isP, h]))
        have e3 : sub (put t q o) r = some b := by
          rcases apart (o := o) e hp with h | ⟨k, h, _⟩
          · rw [h, e']
          · exact absurd h hp2
        have e4 : sub (put t r m) q = some a := by
          rcases apart (o := m) e' hp2 with h | ⟨k, h, _⟩
          · rw [h, e]
          · exact absurd h hp
        have c3 := with_tree_ok (o := m) hc e3 (by omega)
        have c4 := with_tree_ok (o := o) hc e4 (by omega)
        rw [put_comm e e' hp hp2] at c3
        have e5 : sub (put (put t r m) q o) q = some o := sub_put e4
        have l5 := len_q e5
        have p5 := nds_put (o := o) e4
        have h5' := hgt_put (o := o) e4
        have c5 := node_at_ok e5 (by omega) w
        have d1 := (okD_tr w ((ht.vt.pt hm.vt e').pt ho.vt e4) (by omega)).2
        have d2 := (okD_tr w ho.vt (by omega)).2
        simp only [wipeE, sRet, sExp, sIf, sAsg, sFor, gN, gT, gC, gZ, eAn, eOr, eNo, eIf, eIsi, eV, eC, eB, eU, eCb, eCall, eSl, oN, oS, eTup, eLst, aN, aC, eLc, eCh, tAn, tOr', tNo, tB', tTr, tYs, iE, iZ, iR1, iR2, sNil, wO_bind, wO_ok, wO_onE, wO_ofif, wO_some, wS_seq, wS_then, wS_nx, wS_rt, cond_true, cond_false, List.append_nil, List.nil_append, List.cons_append, List.getElem?_cons_zero, List.getElem?_cons_succ, List.set_cons_zero, List.set_cons_succ, len_pl, cut_pl, t1, t2, tk, tk2, c1, c2, c3, c4, c5, d1, d2]
        exact ⟨trivial, trivial⟩
  obtain ⟨d, w1, e1, rfl, rfl⟩ := wS_rtE key
  rw [e1]
  exact leave_rt rfl
end Tk

set_option Elab.async false
set_option linter.all false
set_option maxRecDepth 100000
set_option maxHeartbeats 4000000
namespace Tk
open PySem L2 Td Tg Tt
/-! ### the reader -/
theorem ne_cs : ¬ (("cells" : Str) = "spot") := by decide +kernel
theorem ne_cr : ¬ (("cells" : Str) = "rest") := by decide +kernel
theorem ne_cc : ¬ (("cells" : Str) = "calls") := by decide +kernel
theorem ne_sc : ¬ (("spot" : Str) = "cells") := by decide +kernel
theorem ne_sr : ¬ (("spot" : Str) = "rest") := by decide +kernel
theorem ne_sk : ¬ (("spot" : Str) = "calls") := by decide +kernel
theorem ne_rc : ¬ (("rest" : Str) = "cells") := by decide +kernel
theorem ne_rs : ¬ (("rest" : Str) = "spot") := by decide +kernel
theorem ne_rk : ¬ (("rest" : Str) = "calls") := by decide +kernel
theorem ne_kc : ¬ (("calls" : Str) = "cells") := by decide +kernel
theorem ne_ks : ¬ (("calls" : Str) = "spot") := by decide +kernel
theorem ne_kr : ¬ (("calls" : Str) = "rest") := by decide +kernel
def rdL (a b c d : PyData) : List (Key × PyData) := [(.inr "cells", a), (.inr "spot", b), (.inr "rest", c), (.inr "calls", d)]
def rd (cells : List Int) (spot rest calls : Int) : Ob := .dK (rdL (.list (cells.map .int)) (.int spot) (.int rest) (.int calls))
section
variable {a b c d v : PyData}
theorem v_cells : valD (rdL a b c d) (.inr "cells") = some a := by simp [valD, rdL]
theorem v_spot : valD (rdL a b c d) (.inr "spot") = some b := by simp [valD, rdL, ne_cs]
theorem v_rest : valD (rdL a b c d) (.inr "rest") = some c := by simp [valD, rdL, ne_cr, ne_sr]
theorem v_calls : valD (rdL a b c d) (.inr "calls") = some d := by simp [valD, rdL, ne_cc, ne_sk, ne_rk]
theorem p_spot : putD (rdL a b c d) (.inr "spot") v = rdL a v c d := by simp [putD, rdL, ne_cs, ne_rs, ne_ks]
theorem p_rest : putD (rdL a b c d) (.inr "rest") v = rdL a b v d := by simp [putD, rdL, ne_cr, ne_sr, ne_kr]
theorem p_calls : putD (rdL a b c d) (.inr "calls") v = rdL a b c v := by simp [putD, rdL, ne_cc, ne_sk, ne_rk]
theorem rdL_len : (rdL a b c d).length = 4 := rfl
end
/-- a reader that has been asked at most n times -/
structure RdOk (ob : Ob) (n : Nat) : Prop where
  ex : ∃ cells spot rest calls, ob = rd cells spot rest calls ∧ cells.length ≤ 63 ∧ 0 ≤ spot ∧ 0 ≤ rest ∧ 0 ≤ calls ∧ calls ≤ n
theorem RdOk.mono {ob : Ob} {m n : Nat} (h : RdOk ob m) (hn : m ≤ n) : RdOk ob n := by
  obtain ⟨cells, spot, rest, calls, h1, h2, h3, h4, h5, h6⟩ := h.ex
  exact ⟨⟨cells, spot, rest, calls, h1, h2, h3, h4, h5, by omega⟩⟩
theorem dk_at {w : Ws} {l : Nat} {kvs : List (Key × PyData)} (h : w[l]? = some (.dK kvs)) : dkOf w (rf l) = some kvs := by
  simp [dkOf, rf, h]
theorem four_lt : 4 < sizeLine := by rw [sizeLine_eq]; decide
theorem loc_rf (l : Nat) : locOf (rf l) = some l := by simp [locOf, rf]
theorem key_str (x : Str) : keyD (.str x) = some (.inr x) := rfl
theorem set_set {w : Ws} {l : Nat} {a b : Ob} : (w.set l a).set l b = w.set l b := List.set_set ..
theorem fmod_rng {a m : Int} (h : 0 < m) : 0 ≤ a.fmod m ∧ a.fmod m < m := ⟨Int.fmod_nonneg_of_pos a h, Int.fmod_lt_of_pos a h⟩
theorem fdiv_nn {a m : Int} (ha : 0 ≤ a) (h : 0 < m) : 0 ≤ a.fdiv m := Int.fdiv_nonneg ha (Int.le_of_lt h)
theorem draw_ok {w : Ws} {l : Nat} {ob : Ob} {n : Nat} {m : Int} (hw : w[l]? = some ob) (hr : RdOk ob n) (hn : n < 1000000) (hm : 1 ≤ m) (hm2 : m < 1000000) :
    ∃ v ob', F__law_draw [rf l, .int m] w = .ok (.int v) (w.set l ob') ∧ 0 ≤ v ∧ v < m ∧ RdOk ob' (n + 1) := by
  obtain ⟨cells, spot, rest, calls, rfl, hc, hs, hre, hca, hcn⟩ := hr.ex
  have hl : l < w.length := (List.getElem?_eq_some_iff.mp hw).1
  have d0 : dkOf w (rf l) = some (rdL (.list (cells.map .int)) (.int spot) (.int rest) (.int calls)) := dk_at hw
  have ds : ∀ kvs, dkOf (w.set l (.dK kvs)) (rf l) = some kvs := fun kvs => dk_at (by rw [List.getElem?_set_self hl])
  have nz : cNz 0 m = true := decide_eq_true (by omega)
  have nz' : ∀ x, cNz x m = true := fun x => decide_eq_true (by omega)
  have dv' : ∀ x, cDv x m = true := fun x => by
    unfold cDv
    rw [decide_eq_true (show m ≠ 0 by omega), decide_eq_true (show m.natAbs < 1073741824 by omega)]; rfl
  rw [F__law_draw, defF, if_pos (by rfl), b__law_draw]
  rw [show startE 8 [rf l, PyData.int m] = [some (rf l), some (.int m), none, none, none, none, none, none] from rfl]
  rw [seq_nx (ρ1 := [some (rf l), some (.int m), some (.int (calls + 1)), none, none, none, none, none]) (w1 := w) (by
    simp [sAsg, gN, eB, eDg, eV, eC, Oc.bind, Oc.thenS, Oc.of, d0, key_str, v_calls, addD])]
  rw [seq_nx (ρ1 := [some (rf l), some (.int m), some (.int (calls + 1)), none, none, none, none, none]) (w1 := w.set l (rd cells spot rest (calls + 1))) (by
    simp [sDp, eV, eC, Oc.thenS, d0, key_str, loc_rf, rdL_len, four_lt, p_calls, rd])]
  by_cases hrest : 0 < rest
  · -- the digits of a large cell
    refine ⟨rest.fmod m, rd cells spot (rest.fdiv m) (calls + 1), ?_, (fmod_rng (by omega)).1, (fmod_rng (by omega)).2, ⟨⟨cells, spot, _, _, rfl, hc, hs, fdiv_nn hre (by omega), by omega, by omega⟩⟩⟩
    rw [seq_rt (d := .int (rest.fmod m)) (w1 := w.set l (rd cells spot (rest.fdiv m) (calls + 1))) ?_]
    · exact leave_rt (by rw [List.length_set])
    · simp [sIf, tB', eB, eDg, eV, eC, Oc.bind, Oc.thenS, Oc.of, rd, ds, key_str, v_rest, gtD, cmpD, hrest, sSeq, sAsg, gN, modD, intD, nz', eCb, aC, aN, toInt, sDp, fdvD, dv', loc_rf, rdL_len, four_lt, p_rest, sRet]
  · rw [seq_nx (ρ1 := [some (rf l), some (.int m), some (.int (calls + 1)), none, none, none, none, none]) (w1 := w.set l (rd cells spot rest (calls + 1))) (by
      simp [sIf, tB', eB, eDg, eV, eC, Oc.bind, Oc.thenS, Oc.of, rd, ds, key_str, v_rest, gtD, cmpD, hrest, sNil])]
    rw [seq_nx (ρ1 := [some (rf l), some (.int m), some (.int (calls + 1)), some (.int spot), none, none, none, none]) (w1 := w.set l (rd cells spot rest (calls + 1))) (by
      simp [sAsg, gN, eDg, eV, eC, Oc.bind, Oc.thenS, Oc.of, rd, ds, key_str, v_spot])]
    rw [seq_nx (ρ1 := [some (rf l), some (.int m), some (.int (calls + 1)), some (.int spot), none, none, none, none]) (w1 := w.set l (rd cells (spot + 1) rest (calls + 1))) (by
      simp [sDp, eB, eV, eC, Oc.bind, Oc.thenS, Oc.of, addD, rd, ds, key_str, loc_rf, rdL_len, four_lt, p_spot])]
    rw [seq_nx (ρ1 := [some (rf l), some (.int m), some (.int (calls + 1)), some (.int spot), some (.list (cells.map .int)), none, none, none]) (w1 := w.set l (rd cells (spot + 1) rest (calls + 1))) (by
      simp [sAsg, gN, eDg, eV, eC, Oc.bind, Oc.thenS, Oc.of, rd, ds, key_str, v_cells])]
    obtain ⟨cell, hcell⟩ : ∃ cell : Int, eIf (tB' (eB gtD (eCb lenD (aC (eV 4) aN)) (eC (.int 0)))) (eB ixD (eV 4) (eB modD (eCb toInt (aC (eV 3) aN)) (eCb lenD (aC (eV 4) aN)))) (eC (.int 17))
        [some (rf l), some (.int m), some (.int (calls + 1)), some (.int spot), some (.list (cells.map .int)), none, none, none] (w.set l (rd cells (spot + 1) rest (calls + 1))) = .ok (.int cell) (w.set l (rd cells (spot + 1) rest (calls + 1))) := by
      cases hcs : cells with
      | nil => exact ⟨17, by simp [eIf, tB', eB, eCb, lenD, aC, aN, eV, eC, Oc.bind, Oc.of, lstOf, gtD, cmpD]⟩
      | cons c0 cr =>
        have hlen : 0 < ((c0 :: cr).length : Int) := by simp
        obtain ⟨r1, r2⟩ := fmod_rng (a := spot) hlen
        obtain ⟨k, hk⟩ : ∃ k : Nat, (k : Int) = spot.fmod ((c0 :: cr).length : Int) := ⟨(spot.fmod ((c0 :: cr).length : Int)).toNat, by omega⟩
        have hk2 : k < (c0 :: cr).length := by omega
        refine ⟨(c0 :: cr)[k], ?_⟩
        have ha : atI ((c0 :: cr).map PyData.int) (spot.fmod ((c0 :: cr).length : Int)) = some (.int ((c0 :: cr)[k])) := by
          rw [← hk]
          exact Td.atI_nat (by rw [List.getElem?_map, List.getElem?_eq_getElem hk2]; rfl)
        have nzl : ∀ x, cNz x ((c0 :: cr).length : Int) = true := fun x => decide_eq_true (by omega)
        have g0 : decide (0 < ((c0 :: cr).length : Int)) = true := decide_eq_true hlen
        simp only [eIf, tB', eB, eCb, lenD, aC, aN, eV, eC, Oc.bind, Oc.of, lstOf, gtD, cmpD, List.length_map, g0, cond_true, modD, intD, nzl, toInt, ixD, ha, List.getElem?_cons_zero, List.getElem?_cons_succ, if_true, Option.map_some]
    rw [seq_nx (ρ1 := [some (rf l), some (.int m), some (.int (calls + 1)), some (.int spot), some (.list (cells.map .int)), some (.int cell), none, none]) (w1 := w.set l (rd cells (spot + 1) rest (calls + 1))) (by
      simp [sAsg, hcell, Oc.thenS, gN])]
    have pw : cPw 10 18 = true := by decide +kernel
    have p18 : (10 : Int) ^ (18 : Int).toNat = 1000000000000000000 := by decide +kernel
    have tst : (tAn (tB' (eB ltD (eV 3) (eCb lenD (aC (eV 4) aN)))) (tB' (eB geD (eV 5) (eB powD (eC (.int 10)) (eC (.int 18)))))) [some (rf l), some (.int m), some (.int (calls + 1)), some (.int spot), some (.list (cells.map .int)), some (.int cell), none, none] (w.set l (rd cells (spot + 1) rest (calls + 1)))
        = .ok (decide (spot < (cells.length : Int)) && decide (1000000000000000000 ≤ cell)) (w.set l (rd cells (spot + 1) rest (calls + 1))) := by
      simp only [tAn, tB', eB, eV, eC, eCb, aC, aN, lenD, lstOf, Option.map_some, List.length_map, Oc.bind, Oc.of, ltD, cmpD, List.getElem?_cons_zero, List.getElem?_cons_succ, powD, intD, pw, if_true, p18, geD]
      cases decide (spot < (cells.length : Int)) <;> rfl
    cases hb : decide (spot < (cells.length : Int)) && decide (1000000000000000000 ≤ cell) with
    | true =>
      rw [hb] at tst
      rw [Bool.and_eq_true] at hb
      have hbig := of_decide_eq_true hb.2
      refine ⟨cell.fmod m, rd cells (spot + 1) (cell.fdiv m) (calls + 1), ?_, (fmod_rng (by omega)).1, (fmod_rng (by omega)).2, ⟨⟨cells, _, _, _, rfl, hc, by omega, fdiv_nn (by omega) (by omega), by omega, by omega⟩⟩⟩
      rw [seq_rt (d := .int (cell.fmod m)) (w1 := w.set l (rd cells (spot + 1) (cell.fdiv m) (calls + 1))) ?_]
      · exact leave_rt (by rw [List.length_set])
      · rw [sIf, tst]
        simp [Oc.thenS, sSeq, sDp, eB, eV, eC, Oc.bind, Oc.of, fdvD, intD, dv', rd, ds, key_str, loc_rf, rdL_len, four_lt, p_rest, sRet, modD, nz', eCb, aC, aN, toInt]
    | false =>
      rw [hb] at tst
      rw [seq_nx (ρ1 := [some (rf l), some (.int m), some (.int (calls + 1)), some (.int spot), some (.list (cells.map .int)), some (.int cell), none, none]) (w1 := w.set l (rd cells (spot + 1) rest (calls + 1))) (by
        rw [sIf, tst]; simp [Oc.thenS, sNil])]
      obtain ⟨q1, q2⟩ := fmod_rng (a := cell) (m := 2147483629) (by decide)
      have m1 : cNz cell 2147483629 = true := by unfold cNz; decide
      have m2 : ∀ x, cMl 6101 x = true := fun x => by unfold cMl; rw [decide_eq_true (show (6101 : Int).natAbs < 2 ^ 64 by decide)]; rfl
      have m3 : cPw (cell.fmod 2147483629 + 6101 * (calls + 1) + 37) 5 = true := by
        unfold cPw
        rw [decide_eq_true (show (cell.fmod 2147483629 + 6101 * (calls + 1) + 37).natAbs < 2 ^ 64 by omega)]
        decide
      have m4 : ∀ x, cNz x 2147483647 = true := fun x => by unfold cNz; decide
      obtain ⟨once, honce⟩ : ∃ once, once = ((cell.fmod 2147483629 + 6101 * (calls + 1) + 37) ^ (5 : Int).toNat).fmod 2147483647 := ⟨_, rfl⟩
      obtain ⟨o1, o2⟩ := fmod_rng (a := (cell.fmod 2147483629 + 6101 * (calls + 1) + 37) ^ (5 : Int).toNat) (m := 2147483647) (by decide)
      rw [← honce] at o1 o2
      rw [seq_nx (ρ1 := [some (rf l), some (.int m), some (.int (calls + 1)), some (.int spot), some (.list (cells.map .int)), some (.int cell), some (.int once), none]) (w1 := w.set l (rd cells (spot + 1) rest (calls + 1))) (by
        simp only [sAsg, gN, eB, eV, eC, eCb, aC, aN, toInt, Oc.bind, Oc.thenS, Oc.of, modD, intD, m1, m2, m3, m4, mulD, addD, powD, List.getElem?_cons_zero, List.getElem?_cons_succ, if_true, ← honce, List.set_cons_zero, List.set_cons_succ])]
      have m5 : ∀ x, cMl 4159 x = true := fun x => by unfold cMl; rw [decide_eq_true (show (4159 : Int).natAbs < 2 ^ 64 by decide)]; rfl
      have m6 : cMl (4159 * (calls + 1)) (calls + 1) = true := by unfold cMl; rw [decide_eq_true (show (4159 * (calls + 1)).natAbs < 2 ^ 64 by omega)]; rfl
      have sq : (calls + 1) * (calls + 1) ≤ 1000001 * 1000001 := Int.mul_le_mul (by omega) (by omega) (by omega) (by omega)
      have sq0 : 0 ≤ (calls + 1) * (calls + 1) := Int.mul_nonneg (by omega) (by omega)
      have e0 : 4159 * (calls + 1) * (calls + 1) = 4159 * ((calls + 1) * (calls + 1)) := Int.mul_assoc _ _ _
      have m7 : cPw (once + 4159 * (calls + 1) * (calls + 1)) 5 = true := by
        unfold cPw
        rw [decide_eq_true (show (once + 4159 * (calls + 1) * (calls + 1)).natAbs < 2 ^ 64 by rw [e0]; omega)]
        decide
      have m8 : ∀ x, cNz x 2147483587 = true := fun x => by unfold cNz; decide
      have m9 : ∀ x, cDv x 32 = true := fun x => by unfold cDv; decide
      refine ⟨((((once + 4159 * (calls + 1) * (calls + 1)) ^ (5 : Int).toNat).fmod 2147483587).fdiv 32).fmod m, rd cells (spot + 1) rest (calls + 1), ?_, (fmod_rng (by omega)).1, (fmod_rng (by omega)).2, ⟨⟨cells, _, _, _, rfl, hc, by omega, hre, by omega, by omega⟩⟩⟩
      rw [sRet]
      have fin : eB modD (eCb toInt (aC (eB fdvD (eB modD (eCb toInt (aC (eB powD (eB addD (eV 6) (eB mulD (eB mulD (eC (.int 4159)) (eV 2)) (eV 2))) (eC (.int 5))) aN)) (eC (.int 2147483587))) (eC (.int 32))) aN)) (eV 1)
          [some (rf l), some (.int m), some (.int (calls + 1)), some (.int spot), some (.list (cells.map .int)), some (.int cell), some (.int once), none] (w.set l (rd cells (spot + 1) rest (calls + 1)))
          = .ok (.int (((((once + 4159 * (calls + 1) * (calls + 1)) ^ (5 : Int).toNat).fmod 2147483587).fdiv 32).fmod m)) (w.set l (rd cells (spot + 1) rest (calls + 1))) := by
        simp only [eB, eV, eC, eCb, aC, aN, toInt, Oc.bind, Oc.of, modD, fdvD, intD, m5, m6, m7, m8, m9, nz', mulD, addD, powD, List.getElem?_cons_zero, List.getElem?_cons_succ, if_true]
      rw [fin]
      exact leave_rt (by rw [List.length_set])
end Tk

set_option Elab.async false
set_option linter.all false
set_option maxRecDepth 100000
set_option maxHeartbeats 4000000
namespace Tk
open PySem L2 Td Tg Tt
/-! ### drawing, with what lies behind the reader -/
theorem reader_ok (ns : List Int) (h : ns.length ≤ 63) : F__law_reader [intsD ns] [] = .ok (rf 0) [rd ns 0 0 0] := by
  have c : cutL (ns.map PyData.int) none (some 63) = ns.map PyData.int := by
    have := cut_to (ns.map PyData.int) 63
    rw [List.take_of_length_le (by rw [List.length_map]; exact h)] at this
    exact this
  have m : mergeD [] (rdL (.list (ns.map .int)) (.int 0) (.int 0) (.int 0)) = rdL (.list (ns.map .int)) (.int 0) (.int 0) (.int 0) := by
    simp [mergeD, rdL, putD, ne_cs, ne_cr, ne_cc, ne_sr, ne_sk, ne_rk]
  have l : eDisp (((eC (.str "cells")), (eCb listD (aC (eSl (eV 0) oN (oS (eC (.int 63)))) aN))) :: (((eC (.str "spot")), (eC (.int 0))) :: (((eC (.str "rest")), (eC (.int 0))) :: (((eC (.str "calls")), (eC (.int 0))) :: [])))) [some (intsD ns)] [] = .ok (rf 0) [rd ns 0 0 0] := by
    simp only [eDisp, pairsF, eC, eCb, aC, aN, eSl, eV, oN, oS, Oc.bind, Oc.of, List.getElem?_cons_zero, intsD, cutD, lstOf, c, listD, Option.map_some, keysOf, keyD]
    rw [if_pos (by simp only [List.length_cons, List.length_nil]; decide)]
    have m' := m
    unfold rdL at m'
    rw [m']
    rfl
  rw [F__law_reader, defF, if_pos (show [intsD ns].length = 1 from rfl), b__law_reader, show startE 1 [intsD ns] = [some (intsD ns)] from rfl, sRet, l]
  rfl
/-- objects that hold data alone -/
def Pl (v : Ws) : Prop := ∀ x ∈ v, ∀ n, bndO n x = true
theorem bndA_ints (k : Nat) : ∀ L : List Int, bndA k (L.map PyData.int) = true
  | [] => rfl
  | x :: L => by simp [bndA, bnd, bndA_ints k L]
theorem bndA_strs (k : Nat) : ∀ L : List Str, bndA k (L.map PyData.str) = true
  | [] => rfl
  | x :: L => by simp [bndA, bnd, bndA_strs k L]
theorem rd_bnd {ob : Ob} {n : Nat} (h : RdOk ob n) (k : Nat) : bndO k ob = true := by
  obtain ⟨cells, spot, rest, calls, rfl, _⟩ := h.ex
  have : bndA k (cells.map PyData.int) = true := bndA_ints _ _
  simp [rd, rdL, bndO, bndA, bnd, this]
theorem cl_rd {ob : Ob} {n : Nat} {v : Ws} (h : RdOk ob n) (hv : Pl v) : Cl (ob :: v) := by
  unfold Cl
  rw [List.all_eq_true]
  intro x hx
  rcases List.mem_cons.mp hx with rfl | hx
  · exact rd_bnd h _
  · exact hv x hx _
theorem draw_c {ob : Ob} {v : Ws} {n : Nat} {m : Int} (h : RdOk ob n) (hn : n < 1000000) (hm : 1 ≤ m) (hm2 : m < 1000000) :
    wO (fun d W => ∃ (k : Nat) (ob' : Ob), d = .int (k : Int) ∧ (k : Int) < m ∧ W = ob' :: v ∧ RdOk ob' (n + 1)) (F__law_draw [rf 0, .int m] (ob :: v)) := by
  obtain ⟨x, ob', e, h0, h1, h2⟩ := draw_ok (w := ob :: v) (l := 0) rfl h hn hm hm2
  rw [e]
  exact .mk ⟨x.toNat, ob', by rw [Int.toNat_of_nonneg h0], by rw [Int.toNat_of_nonneg h0]; exact h1, rfl, h2⟩
theorem lst_c {ob x : Ob} {v u : Ws} : (ob :: (v ++ x :: u))[v.length + 1]? = some x := by simp
theorem set_c {ob x y : Ob} {v u : Ws} : (ob :: (v ++ x :: u)).set (v.length + 1) y = ob :: (v ++ y :: u) := by simp
theorem leave_c {ob ob' : Ob} {v u : Ws} {d : PyData} {n : Nat} (h : RdOk ob' n) (hv : Pl v) (hd : ∀ k, bnd k d = true) : leave (ob :: v).length (.rt d (ob' :: (v ++ u))) = .ok d (ob' :: v) :=
  leave_trim (w := ob' :: v) (cl_rd h hv) (hd _)
theorem wO_leave {ob : Ob} {v : Ws} {o : Os} {P : PyData → Ob → Prop} {n : Nat} (hv : Pl v) (h : wS (fun _ _ => False) (fun d W => ∃ ob' u m, W = ob' :: (v ++ u) ∧ RdOk ob' m ∧ (∀ k, bnd k d = true) ∧ P d ob') o) :
    wO (fun d W => ∃ ob', W = ob' :: v ∧ P d ob') (leave (ob :: v).length o) := by
  obtain ⟨d, W, rfl, ob', u, m, rfl, h1, h2, h3⟩ := wS_rtE h
  rw [leave_c h1 hv h2]
  exact .mk ⟨ob', rfl, h3⟩
theorem erase_map {α β : Type} (f : α → β) : ∀ (l : List α) (k : Nat), (l.map f).eraseIdx k = (l.eraseIdx k).map f
  | [], _ => rfl
  | _ :: _, 0 => rfl
  | a :: l, k + 1 => by simp only [List.map_cons, List.eraseIdx_cons_succ, erase_map f l k]
theorem pa_at {xs : List PyData} {k : Nat} {d : PyData} (h : xs[k]? = some d) (hl : xs.length ≤ 1000000) : paL xs [.int (k : Int)] = some (d, xs.eraseIdx k) := by
  have hk := (List.getElem?_eq_some_iff.mp h).1
  have e : seqIndex? (k : Int) xs.length = some k := by
    simp [seqIndex?]; omega
  simp only [paL]
  rw [if_pos ⟨by omega, by omega⟩, e]
  simp only [h]
theorem some_ok {ob : Ob} {v : Ws} {n : Nat} {P : List Str} {lo hi : Nat} (h : RdOk ob n) (hv : Pl v) (hn : n + 100 < 1000000) (hlo : lo ≤ hi) (hhi : hi ≤ 50) (hP : P.length ≤ 50) :
    wO (fun d W => ∃ ob', W = ob' :: v ∧ ∃ ks : List Str, d = .list ((srtS ks).map .str) ∧ ks.Sublist P ∧ RdOk ob' (n + 1 + P.length)) (F__law_some [rf 0, .list (P.map .str), .int (lo : Int), .int (hi : Int)] (ob :: v)) := by
  show wO _ (leave (ob :: v).length (b__law_some [some (rf 0), some (.list (P.map .str)), some (.int (lo : Int)), some (.int (hi : Int)), none, none] (ob :: v)))
  refine wO_leave (P := fun d ob' => ∃ ks : List Str, d = .list ((srtS ks).map .str) ∧ ks.Sublist P ∧ RdOk ob' (n + 1 + P.length)) (n := n) hv ?_
  unfold b__law_some
  have l1 : ∀ W L, listD W [.list L] = some (.list L) := fun _ _ => rfl
  have s1 : ∀ W (x y : Int), subD W (.int x) (.int y) = some (.int (x - y)) := fun _ _ _ => rfl
  have s2 : ∀ W (x y : Int), addD W (.int x) (.int y) = some (.int (x + y)) := fun _ _ _ => rfl
  simp only [wipeE, sRet, sExp, sIf, sAsg, sFor, gN, gT, gC, gZ, eAn, eOr, eNo, eIf, eIsi, eV, eC, eB, eU, eCb, eCall, eSl, oN, oS, eTup, eLst, aN, aC, eLc, eCh, tAn, tOr', tNo, tB', tTr, tYs, iE, iZ, iR1, iR2, sNil, wO_bind, wO_ok, wO_onE, wO_ofif, wO_some, wS_seq, wS_then, wS_nx, wS_rt, cond_true, cond_false, List.append_nil, List.nil_append, List.cons_append, List.getElem?_cons_zero, List.getElem?_cons_succ, List.set_cons_zero, List.set_cons_succ, eLsS, l1, s1, s2, List.length_cons]
  refine wO_mono (draw_c (v := v ++ [.lst (P.map .str)]) h (by omega) (by omega) (by omega)) ?_
  rintro d W ⟨k, ob1, rfl, hk, rfl, h1⟩
  simp only [wipeE, sRet, sExp, sIf, sAsg, sFor, gN, gT, gC, gZ, eAn, eOr, eNo, eIf, eIsi, eV, eC, eB, eU, eCb, eCall, eSl, oN, oS, eTup, eLst, aN, aC, eLc, eCh, tAn, tOr', tNo, tB', tTr, tYs, iE, iZ, iR1, iR2, sNil, wO_bind, wO_ok, wO_onE, wO_ofif, wO_some, wS_seq, wS_then, wS_nx, wS_rt, cond_true, cond_false, List.append_nil, List.nil_append, List.cons_append, List.getElem?_cons_zero, List.getElem?_cons_succ, List.set_cons_zero, List.set_cons_succ, s2]
  refine wS_sWh (fun m ρ W => ∃ (ks : List Str) (ob' : Ob), W = ob' :: (v ++ [.lst (ks.map .str)]) ∧ ρ = [some (rf 0), some (.list (P.map .str)), some (.int (lo : Int)), some (.int (hi : Int)), some (rf (v.length + 1)), some (.int ((lo : Int) + (k : Int)))] ∧ ks.Sublist P ∧ m = ks.length ∧ RdOk ob' (n + 1 + (P.length - ks.length))) P.length (by omega) ⟨P, ob1, rfl, rfl, List.Sublist.refl _, rfl, by rw [Nat.sub_self]; exact h1⟩ ?_
  rintro m ρ W ⟨ks, ob2, rfl, rfl, hs, rfl, h2⟩
  have hle := hs.length_le
  have g : (ob2 :: (v ++ [Ob.lst (ks.map PyData.str)]))[v.length + 1]? = some (.lst (ks.map .str)) := lst_c
  have lo1 := lst_at g
  have ln := len_rf g
  rw [List.length_map] at ln
  simp only [wipeE, sRet, sExp, sIf, sAsg, sFor, gN, gT, gC, gZ, eAn, eOr, eNo, eIf, eIsi, eV, eC, eB, eU, eCb, eCall, eSl, oN, oS, eTup, eLst, aN, aC, eLc, eCh, tAn, tOr', tNo, tB', tTr, tYs, iE, iZ, iR1, iR2, sNil, wO_bind, wO_ok, wO_onE, wO_ofif, wO_some, wS_seq, wS_then, wS_nx, wS_rt, cond_true, cond_false, List.append_nil, List.nil_append, List.cons_append, List.getElem?_cons_zero, List.getElem?_cons_succ, List.set_cons_zero, List.set_cons_succ, ln, gtD, cmpD]
  by_cases hc : (lo : Int) + (k : Int) < (ks.length : Int)
  · rw [decide_eq_true hc]
    simp only [wipeE, sRet, sExp, sIf, sAsg, sFor, gN, gT, gC, gZ, eAn, eOr, eNo, eIf, eIsi, eV, eC, eB, eU, eCb, eCall, eSl, oN, oS, eTup, eLst, aN, aC, eLc, eCh, tAn, tOr', tNo, tB', tTr, tYs, iE, iZ, iR1, iR2, sNil, wO_bind, wO_ok, wO_onE, wO_ofif, wO_some, wS_seq, wS_then, wS_nx, wS_rt, cond_true, cond_false, List.append_nil, List.nil_append, List.cons_append, List.getElem?_cons_zero, List.getElem?_cons_succ, List.set_cons_zero, List.set_cons_succ, eLm, lo1, Option.isSome_some, Oc.on, ln]
    refine wO_mono (draw_c (v := v ++ [.lst (ks.map .str)]) h2 (by omega) (by omega) (by omega)) ?_
    rintro d W ⟨j, ob3, rfl, hj, rfl, h3⟩
    have hj' : j < ks.length := by omega
    have g3 : (ob3 :: (v ++ [Ob.lst (ks.map PyData.str)]))[v.length + 1]? = some (.lst (ks.map .str)) := lst_c
    have u := upd_at (k := fun xs => paL xs [.int (j : Int)]) g3 (pa_at (d := .str ks[j]) (by rw [List.getElem?_map, List.getElem?_eq_getElem hj']; rfl) (by rw [List.length_map]; omega))
    have st : (ob3 :: (v ++ [Ob.lst (ks.map PyData.str)])).set (v.length + 1) (.lst ((ks.map PyData.str).eraseIdx j)) = ob3 :: (v ++ [.lst ((ks.eraseIdx j).map .str)]) := by rw [set_c, erase_map]
    rw [st] at u
    simp only [wipeE, sRet, sExp, sIf, sAsg, sFor, gN, gT, gC, gZ, eAn, eOr, eNo, eIf, eIsi, eV, eC, eB, eU, eCb, eCall, eSl, oN, oS, eTup, eLst, aN, aC, eLc, eCh, tAn, tOr', tNo, tB', tTr, tYs, iE, iZ, iR1, iR2, sNil, wO_bind, wO_ok, wO_onE, wO_ofif, wO_some, wS_seq, wS_then, wS_nx, wS_rt, cond_true, cond_false, List.append_nil, List.nil_append, List.cons_append, List.getElem?_cons_zero, List.getElem?_cons_succ, List.set_cons_zero, List.set_cons_succ, u]
    have hl2 := List.length_eraseIdx_of_lt hj'
    exact ⟨(ks.eraseIdx j).length, by omega, ks.eraseIdx j, ob3, rfl, by simp, (List.eraseIdx_sublist ..).trans hs, rfl, h3.mono (by omega)⟩
  · rw [decide_eq_false hc]
    have so : sortLD (ob2 :: (v ++ [Ob.lst (ks.map PyData.str)])) [rf (v.length + 1)] = some (.list ((srtS ks).map .str)) := by
      simp only [sortLD, lo1, strsD_strs]
      rw [if_pos (decide_eq_true (by omega))]
    simp only [wipeE, sRet, sExp, sIf, sAsg, sFor, gN, gT, gC, gZ, eAn, eOr, eNo, eIf, eIsi, eV, eC, eB, eU, eCb, eCall, eSl, oN, oS, eTup, eLst, aN, aC, eLc, eCh, tAn, tOr', tNo, tB', tTr, tYs, iE, iZ, iR1, iR2, sNil, wO_bind, wO_ok, wO_onE, wO_ofif, wO_some, wS_seq, wS_then, wS_nx, wS_rt, cond_true, cond_false, List.append_nil, List.nil_append, List.cons_append, List.getElem?_cons_zero, List.getElem?_cons_succ, List.set_cons_zero, List.set_cons_succ, so]
    refine ⟨ob2, _, _, rfl, h2, fun k => ?_, ks, rfl, hs, h2.mono (by omega)⟩
    simp only [bnd]
    exact bndA_strs _ _
end Tk

set_option Elab.async false
set_option linter.all false
set_option maxRecDepth 100000
set_option maxHeartbeats 4000000
namespace Tk
open PySem L2 Td Tg Tt
/-! ### notes and tongues, drawn -/
theorem eq_int (w : Ws) (i j : Int) (hi : i.natAbs < ten62) (hj : j.natAbs < ten62) : eqD w (.int i) (.int j) = some (.bool (decide (i = j))) := by
  have s1 := shaped_of (d := .int i) (by simp only [okD]; exact decide_eq_true hi) (by simp [PyData.depth])
  have s2 := shaped_of (d := .int j) (by simp only [okD]; exact decide_eq_true hj) (by simp [PyData.depth])
  unfold eqD
  rw [s1, s2]
  by_cases h : i = j <;> simp [PyData.eqv, h]
theorem small62 {k : Nat} (h : k ≤ 1000000) : ((k : Int)).natAbs < ten62 := by
  have : (1000000 : Nat) < ten62 := by decide
  omega
def NP : List Str := ["-a", "-idem", "=a", "=zzzzzzzz", "a", "odd", "why"]
theorem NP_sub : NP.Sublist NU := by decide +kernel
theorem notes_w {ob : Ob} {v : Ws} {n : Nat} (h : RdOk ob n) (hv : Pl v) (hn : n + 200 < 1000000) :
    wO (fun d W => ∃ ob', W = ob' :: v ∧ ∃ ns : List Str, d = .tuple (ns.map .str) ∧ ns.Sublist NU ∧ RdOk ob' (n + 9)) (F__law_random_notes [rf 0] (ob :: v)) := by
  show wO _ (leave (ob :: v).length (b__law_random_notes [some (rf 0), none] (ob :: v)))
  refine wO_leave (P := fun d ob' => ∃ ns : List Str, d = .tuple (ns.map .str) ∧ ns.Sublist NU ∧ RdOk ob' (n + 9)) (n := n) hv ?_
  unfold b__law_random_notes
  have z7 : szOk 7 = true := szOk_of (by omega)
  have z0 : szOk 0 = true := szOk_of (by omega)
  simp only [wipeE, sRet, sExp, sIf, sAsg, sFor, gN, gT, gC, gZ, eAn, eOr, eNo, eIf, eIsi, eV, eC, eB, eU, eCb, eCall, eSl, oN, oS, eTup, eLst, aN, aC, eLc, eCh, tAn, tOr', tNo, tB', tTr, tYs, iE, iZ, iR1, iR2, sNil, wO_bind, wO_ok, wO_onE, wO_ofif, wO_some, wS_seq, wS_then, wS_nx, wS_rt, cond_true, cond_false, List.append_nil, List.nil_append, List.cons_append, List.getElem?_cons_zero, List.getElem?_cons_succ, List.set_cons_zero, List.set_cons_succ, Oc.on, List.length_cons, List.length_nil, Nat.zero_add, Nat.reduceAdd, z7, z0]
  refine wO_mono (draw_c (v := v) h (by omega) (by omega) (by omega)) ?_
  rintro d W ⟨k, ob1, rfl, hk, rfl, h1⟩
  rw [wO_oksome (eq_int _ _ _ (small62 (by omega)) (by decide))]
  dsimp only
  rw [wO_ok]
  by_cases hz : (k : Int) = 0
  · rw [decide_eq_true hz]
    simp only [wipeE, sRet, sExp, sIf, sAsg, sFor, gN, gT, gC, gZ, eAn, eOr, eNo, eIf, eIsi, eV, eC, eB, eU, eCb, eCall, eSl, oN, oS, eTup, eLst, aN, aC, eLc, eCh, tAn, tOr', tNo, tB', tTr, tYs, iE, iZ, iR1, iR2, sNil, wO_bind, wO_ok, wO_onE, wO_ofif, wO_some, wS_seq, wS_then, wS_nx, wS_rt, cond_true, cond_false, List.append_nil, List.nil_append, List.cons_append, List.getElem?_cons_zero, List.getElem?_cons_succ, List.set_cons_zero, List.set_cons_succ]
    exact ⟨ob1, [], n + 1, by simp, h1, fun k => rfl, [], rfl, List.nil_sublist _, h1.mono (by omega)⟩
  · rw [decide_eq_false hz]
    simp only [wipeE, sRet, sExp, sIf, sAsg, sFor, gN, gT, gC, gZ, eAn, eOr, eNo, eIf, eIsi, eV, eC, eB, eU, eCb, eCall, eSl, oN, oS, eTup, eLst, aN, aC, eLc, eCh, tAn, tOr', tNo, tB', tTr, tYs, iE, iZ, iR1, iR2, sNil, wO_bind, wO_ok, wO_onE, wO_ofif, wO_some, wS_seq, wS_then, wS_nx, wS_rt, cond_true, cond_false, List.append_nil, List.nil_append, List.cons_append, List.getElem?_cons_zero, List.getElem?_cons_succ, List.set_cons_zero, List.set_cons_succ]
    refine wO_mono (some_ok (P := NP) (lo := 0) (hi := 3) h1 hv (by omega) (by omega) (by omega) (by decide)) ?_
    rintro d W ⟨ob2, rfl, ks, rfl, hs, h2⟩
    have hs' := hs.trans NP_sub
    rw [srt_sub hs' (List.Perm.refl _)]
    have tp : ∀ W L, tupleD W [.list L] = some (.tuple L) := fun _ _ => rfl
    simp only [wipeE, sRet, sExp, sIf, sAsg, sFor, gN, gT, gC, gZ, eAn, eOr, eNo, eIf, eIsi, eV, eC, eB, eU, eCb, eCall, eSl, oN, oS, eTup, eLst, aN, aC, eLc, eCh, tAn, tOr', tNo, tB', tTr, tYs, iE, iZ, iR1, iR2, sNil, wO_bind, wO_ok, wO_onE, wO_ofif, wO_some, wS_seq, wS_then, wS_nx, wS_rt, cond_true, cond_false, List.append_nil, List.nil_append, List.cons_append, List.getElem?_cons_zero, List.getElem?_cons_succ, List.set_cons_zero, List.set_cons_succ, tp]
    have h2' : RdOk ob2 (n + 1 + 1 + 7) := h2
    exact ⟨ob2, [], n + 9, by simp, h2'.mono (by omega), fun k => by simp only [bnd]; exact bndA_strs _ _, ks, rfl, hs', h2'.mono (by omega)⟩
theorem power_ok (w : Ws) : ∀ b ∈ [1, 2, 3], ∀ e ∈ [0, 1, 2], ∃ p : Nat, p ≤ 9 ∧ F__law_power [.int ((b : Nat) : Int), .int ((e : Nat) : Int)] w = .ok (.int (p : Int)) w := by
  have key : ∀ (b e p : Nat), b__law_power [some (.int (b : Int)), some (.int (e : Int)), none, none] w = .rt (.int (p : Int)) w → F__law_power [.int (b : Int), .int (e : Int)] w = .ok (.int (p : Int)) w := fun b e p h => by
    show leave w.length (b__law_power [some (.int (b : Int)), some (.int (e : Int)), none, none] w) = _
    rw [h]; exact leave_rt rfl
  intro b hb e he
  simp only [List.mem_cons, List.not_mem_nil, or_false] at hb he
  rcases hb with rfl | rfl | rfl <;> rcases he with rfl | rfl | rfl <;> first
    | exact ⟨1, by omega, key _ _ 1 rfl⟩
    | exact ⟨2, by omega, key _ _ 2 rfl⟩
    | exact ⟨3, by omega, key _ _ 3 rfl⟩
    | exact ⟨4, by omega, key _ _ 4 rfl⟩
    | exact ⟨9, by omega, key _ _ 9 rfl⟩
end Tk

set_option Elab.async false
set_option linter.all false
set_option maxRecDepth 100000
set_option maxHeartbeats 4000000
namespace Tk
open PySem L2 Td Tg Tt
abbrev Wd := Str × Nat × List Nat
def natsD (L : List Nat) : List PyData := L.map fun (k : Nat) => PyData.int (k : Int)
def wD (x : Wd) : PyData := .tuple [.str x.1, .int (x.2.1 : Int), .tuple (natsD x.2.2)]
def tgD (b : Nat) (vs : List Str) (ws : List Wd) : PyData := .tuple [.int (b : Int), .tuple (vs.map .str), .tuple (ws.map wD)]
structure Tong (vs : List Str) (ws : List Wd) : Prop where
  v1 : ∀ x ∈ vs, x ∈ HU
  v2 : vs.length ≤ 3
  w1 : ∀ x ∈ ws, x.1 ∈ HU ∧ x.2.1 ≤ 2
  w2 : ws.length ≤ 6
  ne : vs ≠ [] ∨ ∃ x ∈ ws, x.2.1 = 0
theorem bndA_nats (k : Nat) : ∀ L : List Nat, bndA k (natsD L) = true
  | [] => rfl
  | x :: L => by
    have := bndA_nats k L
    unfold natsD at *
    simp [bndA, bnd, this]
theorem bnd_wD (k : Nat) (x : Wd) : bnd k (wD x) = true := by simp [wD, bnd, bndA, bndA_nats]
theorem bndA_wD (k : Nat) : ∀ L : List Wd, bndA k (L.map wD) = true
  | [] => rfl
  | x :: L => by simp [bndA, bnd_wD, bndA_wD k L]
theorem draws_w {ob : Ob} {v : Ws} {n b p : Nat} {ρ : Ev} {i : Nat} (h : RdOk ob n) (hn : n + 20 < 1000000) (hb : 1 ≤ b) (hb2 : b ≤ 3) (hp : p ≤ 9) (h0 : ∀ d : PyData, (ρ.set i (some d))[0]? = some (some (rf 0)))
    (h1 : ∀ d : PyData, (ρ.set i (some d))[1]? = some (some (.int (b : Int)))) :
    wO (fun acc W => ∃ ob' tb, W = ob' :: v ∧ acc = natsD tb ∧ RdOk ob' (n + 9)) (lcL (gN i) tYs (eCall F__law_draw [] (aC (eV 0) (aC (eV 1) aN))) ρ (rgD 0 (p : Int)) (ob :: v) []) := by
  have hl : (rgD 0 (p : Int)).length = p := by unfold rgD; rw [List.length_map, List.length_range]; omega
  refine wA_lcL (fun j acc W => ∃ ob' tb, W = ob' :: v ∧ acc = natsD tb ∧ RdOk ob' (n + j)) _ 0 _ [] (by rw [sizeLine_eq, hl]; simp; omega) ⟨ob, [], rfl, rfl, h⟩ ?_ ?_
  · rintro j d acc W hj ⟨ob1, tb, rfl, rfl, h2⟩
    have hj' := (List.getElem?_eq_some_iff.mp hj).1
    rw [hl] at hj'
    simp only [tYs, wipeE, sRet, sExp, sIf, sAsg, sFor, gN, gT, gC, gZ, eAn, eOr, eNo, eIf, eIsi, eV, eC, eB, eU, eCb, eCall, eSl, oN, oS, eTup, eLst, aN, aC, eLc, eCh, tAn, tOr', tNo, tB', tTr, tYs, iE, iZ, iR1, iR2, sNil, wO_bind, wO_ok, wO_onE, wO_ofif, wO_some, wS_seq, wS_then, wS_nx, wS_rt, cond_true, cond_false, List.append_nil, List.nil_append, List.cons_append, List.getElem?_cons_zero, List.getElem?_cons_succ, List.set_cons_zero, List.set_cons_succ, h0, h1]
    refine wO_mono (draw_c (v := v) h2 (by omega) (by omega) (by omega)) ?_
    rintro d W ⟨k, ob2, rfl, hk, rfl, h3⟩
    exact ⟨ob2, tb ++ [k], rfl, by simp [natsD], h3.mono (by omega)⟩
  · rintro acc W ⟨ob1, tb, rfl, rfl, h2⟩
    exact ⟨ob1, tb, rfl, rfl, h2.mono (by omega)⟩
def WP6 : List Str := ["and", "f", "no", "or", "top", "zzzzzzzz"]
def VP3 : List Str := ["a", "x", "y"]
theorem WP6_HU : ∀ x ∈ WP6, x ∈ HU := by decide +kernel
theorem VP3_HU : ∀ x ∈ VP3, x ∈ HU := by decide +kernel
theorem x_HU : ("x" : Str) ∈ HU := by decide +kernel
theorem srt_mem {ks P : List Str} (hs : ks.Sublist P) {x : Str} (hx : x ∈ srtS ks) : x ∈ P := hs.subset ((srtS_perm _).mem_iff.mp hx)
end Tk

set_option Elab.async false
set_option linter.all false
set_option maxRecDepth 100000
set_option maxHeartbeats 4000000
namespace Tk
open PySem L2 Td Tg Tt
theorem eqL_w {α : Type} (w : Ws) (g : α → PyData) (L : List α) : eqL w (.list (L.map g)) (.list []) = some (.bool L.isEmpty) := by cases L <;> rfl
theorem lc_zero {x0 x1 x2 x3 x4 x5 x6 x8 : Option PyData} {w : Ws} {ws : List Wd} (h : ∀ x ∈ ws, x.1 ∈ HU ∧ x.2.1 ≤ 2) (hl : ws.length ≤ 6) :
    lcL (gN 7) (tB' (eB eqD (eB ixD (eV 7) (eC (.int 1))) (eC (.int 0)))) (eV 7) [x0, x1, x2, x3, x4, x5, x6, none, x8] (ws.map wD) w [] = .ok ((ws.filter fun x => decide ((x.2.1 : Int) = 0)).map wD) w := by
  rw [lcL_flt wD (fun x => decide ((x.2.1 : Int) = 0)) wD ws [] (by simp only [List.length_nil]; omega) fun s hs => ⟨[x0, x1, x2, x3, x4, x5, x6, some (wD s), x8], rfl, by
    have i1 : ixD w (wD s) (.int 1) = some (.int (s.2.1 : Int)) := rfl
    have := (h s hs).2
    simp only [tB', eB, eC, eV, List.getElem?_cons_zero, List.getElem?_cons_succ, List.set_cons_zero, List.set_cons_succ, Oc.bind, Oc.of, i1, eq_int w (s.2.1 : Int) 0 (small62 (by omega)) (by decide)], fun _ => rfl⟩]
  rfl
theorem bnd_tgD (k b : Nat) (vs : List Str) (ws : List Wd) : bnd k (tgD b vs ws) = true := by
  simp [tgD, bnd, bndA, bndA_strs, bndA_wD]
theorem tongue_w {ob : Ob} {v : Ws} {n : Nat} (h : RdOk ob n) (hv : Pl v) (hn : n + 200 < 1000000) :
    wO (fun d W => ∃ ob', W = ob' :: v ∧ ∃ b vs ws, d = tgD b vs ws ∧ Tong vs ws ∧ RdOk ob' (n + 100)) (F__law_random_tongue [rf 0] (ob :: v)) := by
  show wO _ (leave (ob :: v).length (b__law_random_tongue [some (rf 0), none, none, none, none, none, none, none, none] (ob :: v)))
  refine wO_leave (P := fun d ob' => ∃ b vs ws, d = tgD b vs ws ∧ Tong vs ws ∧ RdOk ob' (n + 100)) (n := n) hv ?_
  unfold b__law_random_tongue
  have z4 : szOk 4 = true := szOk_of (by omega)
  have z6 : szOk 6 = true := szOk_of (by omega)
  have z3 : szOk 3 = true := szOk_of (by omega)
  have z1 : szOk 1 = true := szOk_of (by omega)
  have z0 : szOk 0 = true := szOk_of (by omega)
  simp only [wipeE, sRet, sExp, sIf, sAsg, sFor, gN, gT, gC, gZ, eAn, eOr, eNo, eIf, eIsi, eV, eC, eB, eU, eCb, eCall, eSl, oN, oS, eTup, eLst, aN, aC, eLc, eCh, tAn, tOr', tNo, tB', tTr, tYs, iE, iZ, iR1, iR2, sNil, wO_bind, wO_ok, wO_onE, wO_ofif, wO_some, wS_seq, wS_then, wS_nx, wS_rt, cond_true, cond_false, List.append_nil, List.nil_append, List.cons_append, List.getElem?_cons_zero, List.getElem?_cons_succ, List.set_cons_zero, List.set_cons_succ, Oc.on, List.length_cons, List.length_nil, Nat.zero_add, Nat.reduceAdd, z4]
  refine wO_mono (draw_c (v := v) h (by omega) (by omega) (by omega)) ?_
  rintro d W ⟨k, ob1, rfl, hk, rfl, h1⟩
  obtain ⟨x, hx, e1⟩ := atL (w := ob1 :: v) (xs := [.int 2, .int 2, .int 3, .int 1]) (v := (k : Int)) (by omega) (by simpa using hk)
  obtain ⟨b, rfl, hb⟩ : ∃ b : Nat, x = .int (b : Int) ∧ b ∈ [1, 2, 3] := by
    simp only [List.mem_cons, List.not_mem_nil, or_false] at hx
    rcases hx with rfl | rfl | rfl | rfl
    · exact ⟨2, rfl, by decide⟩
    · exact ⟨2, rfl, by decide⟩
    · exact ⟨3, rfl, by decide⟩
    · exact ⟨1, rfl, by decide⟩
  have hb1 : 1 ≤ b ∧ b ≤ 3 := by
    simp only [List.mem_cons, List.not_mem_nil, or_false] at hb
    omega
  simp only [wipeE, sRet, sExp, sIf, sAsg, sFor, gN, gT, gC, gZ, eAn, eOr, eNo, eIf, eIsi, eV, eC, eB, eU, eCb, eCall, eSl, oN, oS, eTup, eLst, aN, aC, eLc, eCh, tAn, tOr', tNo, tB', tTr, tYs, iE, iZ, iR1, iR2, sNil, wO_bind, wO_ok, wO_onE, wO_ofif, wO_some, wS_seq, wS_then, wS_nx, wS_rt, cond_true, cond_false, List.append_nil, List.nil_append, List.cons_append, List.getElem?_cons_zero, List.getElem?_cons_succ, List.set_cons_zero, List.set_cons_succ, e1, eLstS, Oc.on, List.length_cons, List.length_nil, Nat.zero_add, Nat.reduceAdd, z0, z6]
  have hv1 : Pl (v ++ [Ob.lst []]) := by
    intro x hx
    rcases List.mem_append.mp hx with hx | hx
    · exact hv x hx
    · rw [List.mem_singleton] at hx; subst hx; exact fun _ => rfl
  have q1 := some_ok (P := WP6) (lo := 1) (hi := 6) h1 hv1 (by omega) (by omega) (by omega) (by decide)
  have q2 : F__law_some [rf 0, .list (WP6.map .str), .int ((1 : Nat) : Int), .int ((6 : Nat) : Int)] (ob1 :: (v ++ [Ob.lst []])) = F__law_some [rf 0, .list [.str "and", .str "f", .str "no", .str "or", .str "top", .str "zzzzzzzz"], .int 1, .int 6] (ob1 :: (v ++ [Ob.lst []])) := by
    rw [show WP6.map PyData.str = [.str "and", .str "f", .str "no", .str "or", .str "top", .str "zzzzzzzz"] from rfl]
    rfl
  rw [q2] at q1
  refine wO_mono q1 ?_
  rintro d W ⟨ob2, rfl, ks, rfl, hs, h2⟩
  have hkl : (srtS ks).length ≤ 6 := by
    rw [(srtS_perm ks).length_eq]
    have := hs.length_le
    have : WP6.length = 6 := rfl
    omega
  have it : itD (.list ((srtS ks).map PyData.str)) = some ((srtS ks).map .str) := rfl
  have h2' : RdOk ob2 (n + 9) := h2.mono (by have : WP6.length = 6 := rfl; omega)
  simp only [wipeE, sRet, sExp, sIf, sAsg, sFor, gN, gT, gC, gZ, eAn, eOr, eNo, eIf, eIsi, eV, eC, eB, eU, eCb, eCall, eSl, oN, oS, eTup, eLst, aN, aC, eLc, eCh, tAn, tOr', tNo, tB', tTr, tYs, iE, iZ, iR1, iR2, sNil, wO_bind, wO_ok, wO_onE, wO_ofif, wO_some, wS_seq, wS_then, wS_nx, wS_rt, cond_true, cond_false, List.append_nil, List.nil_append, List.cons_append, List.getElem?_cons_zero, List.getElem?_cons_succ, List.set_cons_zero, List.set_cons_succ, it]
  refine wS_forL (fun i ρ W => ∃ (ws : List Wd) (ob' : Ob) (y3 y5 y6 : Option PyData), W = ob' :: (v ++ [.lst (ws.map wD)]) ∧ ρ = [some (rf 0), some (.int (b : Int)), some (rf (v.length + 1)), y3, none, y5, y6, none, none] ∧ ws.length = i ∧ (∀ x ∈ ws, x.1 ∈ HU ∧ x.2.1 ≤ 2) ∧ RdOk ob' (n + 9 + 10 * i)) _ 0 _ _ ⟨[], ob2, none, none, none, rfl, rfl, rfl, (fun x hx => by cases hx), h2'⟩ ?_ ?_
  · rintro i d ρ W hj ⟨ws, ob3, y3, y5, y6, rfl, rfl, hl, hw, h3⟩
    rw [Nat.zero_add] at *
    have hi := (List.getElem?_eq_some_iff.mp hj).1
    rw [List.length_map] at hi
    obtain ⟨nm, hnm, rfl⟩ := List.mem_map.mp (List.mem_of_getElem? hj)
    have hnU := WP6_HU nm (srt_mem hs hnm)
    simp only [wipeE, sRet, sExp, sIf, sAsg, sFor, gN, gT, gC, gZ, eAn, eOr, eNo, eIf, eIsi, eV, eC, eB, eU, eCb, eCall, eSl, oN, oS, eTup, eLst, aN, aC, eLc, eCh, tAn, tOr', tNo, tB', tTr, tYs, iE, iZ, iR1, iR2, sNil, wO_bind, wO_ok, wO_onE, wO_ofif, wO_some, wS_seq, wS_then, wS_nx, wS_rt, cond_true, cond_false, List.append_nil, List.nil_append, List.cons_append, List.getElem?_cons_zero, List.getElem?_cons_succ, List.set_cons_zero, List.set_cons_succ, Oc.on, List.length_cons, List.length_nil, Nat.zero_add, Nat.reduceAdd, z4]
    refine wO_mono (draw_c (v := v ++ [.lst (ws.map wD)]) h3 (by omega) (by omega) (by omega)) ?_
    rintro d W ⟨k5, ob4, rfl, hk5, rfl, h4⟩
    obtain ⟨x, hx, e5⟩ := atL (w := ob4 :: (v ++ [.lst (ws.map wD)])) (xs := [.int 2, .int 1, .int 0, .int 2]) (v := (k5 : Int)) (by omega) (by simpa using hk5)
    obtain ⟨ar, rfl, har⟩ : ∃ b : Nat, x = .int (b : Int) ∧ b ∈ [0, 1, 2] := by
      simp only [List.mem_cons, List.not_mem_nil, or_false] at hx
      rcases hx with rfl | rfl | rfl | rfl
      · exact ⟨2, rfl, by decide⟩
      · exact ⟨1, rfl, by decide⟩
      · exact ⟨0, rfl, by decide⟩
      · exact ⟨2, rfl, by decide⟩
    have har2 : ar ≤ 2 := by
      simp only [List.mem_cons, List.not_mem_nil, or_false] at har
      omega
    obtain ⟨p, hp, ep⟩ := power_ok (ob4 :: (v ++ [.lst (ws.map wD)])) b hb ar har
    have cp : c62 (p : Int) = true := by unfold c62; exact decide_eq_true (by omega)
    have g : (ob4 :: (v ++ [Ob.lst (ws.map wD)]))[v.length + 1]? = some (.lst (ws.map wD)) := lst_c
    have lo := lst_at g
    simp only [wipeE, sRet, sExp, sIf, sAsg, sFor, gN, gT, gC, gZ, eAn, eOr, eNo, eIf, eIsi, eV, eC, eB, eU, eCb, eCall, eSl, oN, oS, eTup, eLst, aN, aC, eLc, eCh, tAn, tOr', tNo, tB', tTr, tYs, iE, iZ, iR1, iR2, sNil, wO_bind, wO_ok, wO_onE, wO_ofif, wO_some, wS_seq, wS_then, wS_nx, wS_rt, cond_true, cond_false, List.append_nil, List.nil_append, List.cons_append, List.getElem?_cons_zero, List.getElem?_cons_succ, List.set_cons_zero, List.set_cons_succ, e5, ep, eLm, lo, Option.isSome_some, Oc.on, cp]
    refine wO_mono (draws_w (v := v ++ [.lst (ws.map wD)]) (b := b) (p := p) h4 (by omega) hb1.1 hb1.2 hp (fun _ => rfl) (fun _ => rfl)) ?_
    rintro acc W ⟨ob5, tb, rfl, rfl, h5⟩
    have tp : ∀ W L, tupleD W [.list L] = some (.tuple L) := fun _ _ => rfl
    have g5 : (ob5 :: (v ++ [Ob.lst (ws.map wD)]))[v.length + 1]? = some (.lst (ws.map wD)) := lst_c
    have u := upd_at (k := fun xs => apL xs [wD (nm, ar, tb)]) (d := .none) (ys := ws.map wD ++ [wD (nm, ar, tb)]) g5 (by simp only [apL]; rw [if_pos (by rw [sizeLine_eq, List.length_map]; omega)])
    have st : (ob5 :: (v ++ [Ob.lst (ws.map wD)])).set (v.length + 1) (.lst (ws.map wD ++ [wD (nm, ar, tb)])) = ob5 :: (v ++ [.lst ((ws ++ [(nm, ar, tb)]).map wD)]) := by rw [set_c, List.map_append]; rfl
    rw [st] at u
    simp only [wD] at u
    simp only [wipeE, sRet, sExp, sIf, sAsg, sFor, gN, gT, gC, gZ, eAn, eOr, eNo, eIf, eIsi, eV, eC, eB, eU, eCb, eCall, eSl, oN, oS, eTup, eLst, aN, aC, eLc, eCh, tAn, tOr', tNo, tB', tTr, tYs, iE, iZ, iR1, iR2, sNil, wO_bind, wO_ok, wO_onE, wO_ofif, wO_some, wS_seq, wS_then, wS_nx, wS_rt, cond_true, cond_false, List.append_nil, List.nil_append, List.cons_append, List.getElem?_cons_zero, List.getElem?_cons_succ, List.set_cons_zero, List.set_cons_succ, tp, List.length_cons, List.length_nil, Nat.zero_add, Nat.reduceAdd, z3]
    simp only [u, wO_ok]
    refine ⟨ws ++ [(nm, ar, tb)], ob5, some (.str nm), some (.int (ar : Int)), some (.int (p : Int)), rfl, rfl, by simp [hl], ?_, h5.mono (by omega)⟩
    intro x hx
    rcases List.mem_append.mp hx with hx | hx
    · exact hw x hx
    · rw [List.mem_singleton] at hx; subst hx; exact ⟨hnU, har2⟩
  · rintro ρ W ⟨ws, ob3, y3, y5, y6, rfl, rfl, hl, hw, h3⟩
    rw [Nat.zero_add, List.length_map] at hl
    have hwl : ws.length ≤ 6 := by omega
    have g : (ob3 :: (v ++ [Ob.lst (ws.map wD)]))[v.length + 1]? = some (.lst (ws.map wD)) := lst_c
    have fz : fzD (ob3 :: (v ++ [Ob.lst (ws.map wD)])) (rf (v.length + 1)) = some (.list (ws.map wD), ob3 :: (v ++ [.dead])) := by
      have lo : locOf (rf (v.length + 1)) = some (v.length + 1) := rfl
      simp only [fzD, lo, g, set_c]
    have hv2 : Pl (v ++ [Ob.dead]) := by
      intro x hx
      rcases List.mem_append.mp hx with hx | hx
      · exact hv x hx
      · rw [List.mem_singleton] at hx; subst hx; exact fun _ => rfl
    have h3' : RdOk ob3 (n + 80) := h3.mono (by rw [List.length_map]; omega)
    have q1 := some_ok (P := VP3) (lo := 0) (hi := 3) h3' hv2 (by omega) (by omega) (by omega) (by decide)
    have q2 : F__law_some [rf 0, .list (VP3.map .str), .int ((0 : Nat) : Int), .int ((3 : Nat) : Int)] (ob3 :: (v ++ [Ob.dead])) = F__law_some [rf 0, .list [.str "a", .str "x", .str "y"], .int 0, .int 3] (ob3 :: (v ++ [Ob.dead])) := by
      rw [show VP3.map PyData.str = [.str "a", .str "x", .str "y"] from rfl]
      rfl
    rw [q2] at q1
    simp only [wipeE, sRet, sExp, sIf, sAsg, sFor, gN, gT, gC, gZ, eAn, eOr, eNo, eIf, eIsi, eV, eC, eB, eU, eCb, eCall, eSl, oN, oS, eTup, eLst, aN, aC, eLc, eCh, tAn, tOr', tNo, tB', tTr, tYs, iE, iZ, iR1, iR2, sNil, wO_bind, wO_ok, wO_onE, wO_ofif, wO_some, wS_seq, wS_then, wS_nx, wS_rt, cond_true, cond_false, List.append_nil, List.nil_append, List.cons_append, List.getElem?_cons_zero, List.getElem?_cons_succ, List.set_cons_zero, List.set_cons_succ, sFz, fz, Oc.on, List.length_cons, List.length_nil, Nat.zero_add, Nat.reduceAdd, z3]
    refine wO_mono q1 ?_
    rintro d W ⟨ob4, rfl, kv, rfl, hs3, h4⟩
    have h4' : RdOk ob4 (n + 100) := h4.mono (by have : VP3.length = 3 := rfl; omega)
    have hk3 : (srtS kv).length ≤ 3 := by
      rw [(srtS_perm kv).length_eq]
      have := hs3.length_le
      have : VP3.length = 3 := rfl
      omega
    have tp : ∀ W L, tupleD W [.list L] = some (.tuple L) := fun _ _ => rfl
    have it2 : itD (.list (ws.map wD)) = some (ws.map wD) := rfl
    have fin : ∀ vs : List Str, (∀ x ∈ vs, x ∈ HU) → vs.length ≤ 3 → (vs ≠ [] ∨ ∃ x ∈ ws, x.2.1 = 0) → ∃ ob' u m, ob4 :: (v ++ [Ob.dead]) = ob' :: (v ++ u) ∧ RdOk ob' m ∧ (∀ k, bnd k (tgD b vs ws) = true) ∧ ∃ b' vs' ws', tgD b vs ws = tgD b' vs' ws' ∧ Tong vs' ws' ∧ RdOk ob' (n + 100) := fun vs h1 h2 h3 =>
      ⟨ob4, _, _, rfl, h4', fun k => bnd_tgD k b vs ws, b, vs, ws, rfl, ⟨h1, h2, hw, hwl, h3⟩, h4'⟩
    simp only [wipeE, sRet, sExp, sIf, sAsg, sFor, gN, gT, gC, gZ, eAn, eOr, eNo, eIf, eIsi, eV, eC, eB, eU, eCb, eCall, eSl, oN, oS, eTup, eLst, aN, aC, eLc, eCh, tAn, tOr', tNo, tB', tTr, tYs, iE, iZ, iR1, iR2, sNil, wO_bind, wO_ok, wO_onE, wO_ofif, wO_some, wS_seq, wS_then, wS_nx, wS_rt, cond_true, cond_false, List.append_nil, List.nil_append, List.cons_append, List.getElem?_cons_zero, List.getElem?_cons_succ, List.set_cons_zero, List.set_cons_succ, eqL_w, Oc.on, List.length_cons, List.length_nil, Nat.zero_add, Nat.reduceAdd, z0, szOk_of (show 0 ≤ 10000000 by omega)]
    cases hk : srtS kv with
    | cons k0 kr =>
      rw [hk] at hk3
      have := fin (k0 :: kr) (fun x hx => VP3_HU x (srt_mem hs3 (hk ▸ hx))) hk3 (.inl (by simp))
      simp only [wipeE, sRet, sExp, sIf, sAsg, sFor, gN, gT, gC, gZ, eAn, eOr, eNo, eIf, eIsi, eV, eC, eB, eU, eCb, eCall, eSl, oN, oS, eTup, eLst, aN, aC, eLc, eCh, tAn, tOr', tNo, tB', tTr, tYs, iE, iZ, iR1, iR2, sNil, wO_bind, wO_ok, wO_onE, wO_ofif, wO_some, wS_seq, wS_then, wS_nx, wS_rt, cond_true, cond_false, List.append_nil, List.nil_append, List.cons_append, List.getElem?_cons_zero, List.getElem?_cons_succ, List.set_cons_zero, List.set_cons_succ, List.isEmpty, tp, Oc.on, List.length_cons, List.length_nil, Nat.zero_add, Nat.reduceAdd, z3]
      exact this
    | nil =>
      simp only [wipeE, sRet, sExp, sIf, sAsg, sFor, gN, gT, gC, gZ, eAn, eOr, eNo, eIf, eIsi, eV, eC, eB, eU, eCb, eCall, eSl, oN, oS, eTup, eLst, aN, aC, eLc, eCh, tAn, tOr', tNo, tB', tTr, tYs, iE, iZ, iR1, iR2, sNil, wO_bind, wO_ok, wO_onE, wO_ofif, wO_some, wS_seq, wS_then, wS_nx, wS_rt, cond_true, cond_false, List.append_nil, List.nil_append, List.cons_append, List.getElem?_cons_zero, List.getElem?_cons_succ, List.set_cons_zero, List.set_cons_succ, List.isEmpty, it2, tp, Oc.on, List.length_cons, List.length_nil, Nat.zero_add, Nat.reduceAdd, z3, z0, z1, lc_zero hw hwl, eqL_w]
      cases hf : ws.filter fun x => decide ((x.2.1 : Int) = 0) with
      | nil =>
        have := fin ["x"] (fun x hx => by rw [List.mem_singleton] at hx; subst hx; exact x_HU) (by simp) (.inl (by simp))
        simp only [wipeE, sRet, sExp, sIf, sAsg, sFor, gN, gT, gC, gZ, eAn, eOr, eNo, eIf, eIsi, eV, eC, eB, eU, eCb, eCall, eSl, oN, oS, eTup, eLst, aN, aC, eLc, eCh, tAn, tOr', tNo, tB', tTr, tYs, iE, iZ, iR1, iR2, sNil, wO_bind, wO_ok, wO_onE, wO_ofif, wO_some, wS_seq, wS_then, wS_nx, wS_rt, cond_true, cond_false, List.append_nil, List.nil_append, List.cons_append, List.getElem?_cons_zero, List.getElem?_cons_succ, List.set_cons_zero, List.set_cons_succ, List.isEmpty, it2, tp, Oc.on, List.length_cons, List.length_nil, Nat.zero_add, Nat.reduceAdd, z3, z0, z1]
        exact this
      | cons f0 fr =>
        have hf0 : f0 ∈ ws.filter fun x => decide ((x.2.1 : Int) = 0) := hf ▸ List.mem_cons_self
        rw [List.mem_filter] at hf0
        have := fin [] (fun x hx => by cases hx) (by simp) (.inr ⟨f0, hf0.1, by have := of_decide_eq_true hf0.2; omega⟩)
        simp only [wipeE, sRet, sExp, sIf, sAsg, sFor, gN, gT, gC, gZ, eAn, eOr, eNo, eIf, eIsi, eV, eC, eB, eU, eCb, eCall, eSl, oN, oS, eTup, eLst, aN, aC, eLc, eCh, tAn, tOr', tNo, tB', tTr, tYs, iE, iZ, iR1, iR2, sNil, wO_bind, wO_ok, wO_onE, wO_ofif, wO_some, wS_seq, wS_then, wS_nx, wS_rt, cond_true, cond_false, List.append_nil, List.nil_append, List.cons_append, List.getElem?_cons_zero, List.getElem?_cons_succ, List.set_cons_zero, List.set_cons_succ, List.isEmpty, it2, tp, Oc.on, List.length_cons, List.length_nil, Nat.zero_add, Nat.reduceAdd, z3, z0, z1]
        exact this
end Tk

set_option Elab.async false
set_option linter.all false
set_option maxRecDepth 100000
set_option maxHeartbeats 4000000
namespace Tk
open PySem L2 Td Tg Tt
/-! ### a tree over a tongue, drawn -/
mutual
theorem hgt_nds : ∀ t : Tr, hgt t + 1 ≤ nds t
  | .mk _ _ ps => by have := hgtA_nds ps; simp only [hgt, nds]; omega
theorem hgtA_nds : ∀ ps : List Tr, hgtA ps ≤ ndsA ps
  | [] => Nat.le_refl _
  | p :: ps => by have := hgt_nds p; have := hgtA_nds ps; simp only [hgtA, ndsA]; omega
end
theorem ndsA_app : ∀ a b : List Tr, ndsA (a ++ b) = ndsA a + ndsA b
  | [], b => by simp [ndsA]
  | p :: a, b => by simp only [List.cons_append, ndsA, ndsA_app a b]; omega
theorem sml_of {t : Tr} (h : VT t) (hn : nds t ≤ 13) : Sml t := ⟨h, by have := hgt_nds t; omega, hn⟩
def room (b : Nat) : Ob := .lst [.int (b : Int)]
theorem room_bnd (b k : Nat) : bndO k (room b) = true := rfl
theorem pl_app {a b : Ws} (ha : Pl a) (hb : Pl b) : Pl (a ++ b) := fun x hx => (List.mem_append.mp hx).elim (ha x) (hb x)
theorem pl_one {x : Ob} (h : ∀ k, bndO k x = true) : Pl [x] := fun y hy => by rw [List.mem_singleton] at hy; subst hy; exact h
theorem pl_set {v : Ws} {r : Nat} {x : Ob} (hv : Pl v) (h : ∀ k, bndO k x = true) : Pl (v.set r x) := fun y hy => by
  rcases List.mem_or_eq_of_mem_set hy with hy | rfl
  · exact hv y hy
  · exact h
theorem lst_bnd (L : List Tr) (k : Nat) : bndO k (.lst (toDs L)) = true := by simp only [bndO, bndA_toDs]
theorem ix_room {w : Ws} {q b : Nat} (h : w[q]? = some (room b)) : ixD w (rf q) (.int 0) = some (.int (b : Int)) := by
  have lo := lst_at (ds := [.int (b : Int)]) h
  show (match lstOf w (rf q) with | some ds => atI ds 0 | none => none) = _
  rw [lo]
  rfl
theorem up_room {w : Ws} {q b : Nat} (h : w[q]? = some (room b)) {x : Int} {c : Nat} (hx : x = (c : Int)) : updL w (rf q) (fun xs => (ixN xs.length 0).map fun j => (PyData.none, xs.set j (.int x))) = some (.none, w.set q (room c)) := by
  subst hx
  exact upd_at (ds := [.int (b : Int)]) h rfl
theorem tup_rf {w : Ws} {q : Nat} {ds : List PyData} (h : w[q]? = some (.lst ds)) : tupleD w [rf q] = some (.tuple ds) := by
  have lo := lst_at h
  show (lstOf w (rf q)).map (fun ds => PyData.tuple ds) = _
  rw [lo]
  rfl
theorem get_in {ob : Ob} {v u : Ws} {r : Nat} {x : Ob} (h : v[r]? = some x) : (ob :: (v ++ u))[r + 1]? = some x := by
  have hr := (List.getElem?_eq_some_iff.mp h).1
  rw [List.getElem?_cons_succ, List.getElem?_append_left hr, h]
theorem set_in {ob : Ob} {v u : Ws} {r : Nat} {y : Ob} (hr : r < v.length) : (ob :: (v ++ u)).set (r + 1) y = ob :: (v.set r y ++ u) := by
  rw [List.set_cons_succ, List.set_append_left _ _ hr]
theorem wO_leave2 {ob : Ob} {v : Ws} {o : Os} {P : PyData → Ob → Ws → Prop} (h : wS (fun _ _ => False) (fun d W => ∃ ob' v' u m, W = ob' :: (v' ++ u) ∧ v'.length = v.length ∧ Pl v' ∧ RdOk ob' m ∧ (∀ k, bnd k d = true) ∧ P d ob' v') o) :
    wO (fun d W => ∃ ob' v', W = ob' :: v' ∧ P d ob' v') (leave (ob :: v).length o) := by
  obtain ⟨d, W, rfl, ob', v', u, m, rfl, hl, h1, h2, h3, h4⟩ := wS_rtE h
  have e : (ob :: v).length = (ob' :: v').length := by simp [hl]
  rw [e, leave_c h2 h1 h3]
  exact .mk ⟨ob', v', rfl, h4⟩
theorem wS_AsgG {f : FE} {gt : FG} {ρ : Ev} {w : Ws} {N : Ev → Ws → Prop} {R : PyData → Ws → Prop} : wS N R (sAsg f gt ρ w) = wO (fun d w1 => wO N (gt d ρ w1)) (f ρ w) := by
  unfold sAsg
  rw [wS_then]
  congr 1
  funext d w1
  cases gt d ρ w1 <;> simp only [wS_nx, wS_no, wO_ok, wO_xc, wO_no]
theorem a_room {fe : FE} {i q b c : Nat} {x : Int} {ρ : Ev} {w : Ws} (hρ : ρ[i]? = some (some (rf q))) (hw : w[q]? = some (room b)) (he : fe ρ w = .ok (.int x) w) (hx : x = (c : Int)) : sAsg fe (gIx (eV i) (eC (.int 0))) ρ w = .nx ρ (w.set q (room c)) := by
  have u := up_room hw hx
  simp only [sAsg, gIx, he, Oc.thenS, eV, eC, hρ, Oc.bind, u]
theorem ix_rm {i q b : Nat} {ρ : Ev} {w : Ws} (hρ : ρ[i]? = some (some (rf q))) (hw : w[q]? = some (room b)) : eB ixD (eV i) (eC (.int 0)) ρ w = .ok (.int (b : Int)) w := by
  simp only [eB, eV, eC, hρ, Oc.bind, ix_room hw, Oc.of]
def zeroW (x : Wd) : Bool := decide ((x.2.1 : Int) = 0)
def wideW (b : Nat) (x : Wd) : Bool := decide (0 < x.2.1) && decide (x.2.1 ≤ b)
theorem lc_leaf {x0 x1 x2 x3 x4 x5 x6 x7 x8 x9 x10 : Option PyData} {w : Ws} {vs : List Str} {ws : List Wd} (h : Tong vs ws) :
    lcL (gN 11) (tB' (eB eqD (eB ixD (eV 11) (eC (.int 1))) (eC (.int 0)))) (eB ixD (eV 11) (eC (.int 0))) [x0, x1, x2, x3, x4, x5, x6, x7, x8, x9, x10, none] (ws.map wD) w [] = .ok ((ws.filter zeroW).map fun x => .str x.1) w := by
  have hl := h.w2
  rw [lcL_flt wD zeroW (fun x => .str x.1) ws [] (by simp only [List.length_nil]; omega) fun s hs => ⟨[x0, x1, x2, x3, x4, x5, x6, x7, x8, x9, x10, some (wD s)], rfl, by
    have i1 : ixD w (wD s) (.int 1) = some (.int (s.2.1 : Int)) := rfl
    have := (h.w1 s hs).2
    simp only [tB', eB, eC, eV, List.getElem?_cons_zero, List.getElem?_cons_succ, List.set_cons_zero, List.set_cons_succ, Oc.bind, Oc.of, i1, eq_int w (s.2.1 : Int) 0 (small62 (by omega)) (by decide), zeroW], fun _ => rfl⟩]
  rfl
theorem lc_wide {x0 x1 x3 x4 x5 x6 x7 x8 x9 x10 : Option PyData} {w : Ws} {vs : List Str} {ws : List Wd} {q b : Nat} (h : Tong vs ws) (hq : w[q]? = some (room b)) :
    lcL (gN 11) (tB' (eCh ltD leD (eC (.int 0)) (eB ixD (eV 11) (eC (.int 1))) (eB ixD (eV 2) (eC (.int 0))))) (eV 11) [x0, x1, some (rf q), x3, x4, x5, x6, x7, x8, x9, x10, none] (ws.map wD) w [] = .ok ((ws.filter (wideW b)).map wD) w := by
  have hl := h.w2
  have i2 := ix_room hq
  rw [lcL_flt wD (wideW b) wD ws [] (by simp only [List.length_nil]; omega) fun s hs => ⟨[x0, x1, some (rf q), x3, x4, x5, x6, x7, x8, x9, x10, some (wD s)], rfl, by
    have i1 : ixD w (wD s) (.int 1) = some (.int (s.2.1 : Int)) := rfl
    simp only [tB', eCh, eB, eC, eV, List.getElem?_cons_zero, List.getElem?_cons_succ, List.set_cons_zero, List.set_cons_succ, Oc.bind, Oc.of, i1, i2, ltD, leD, cmpD, wideW]
    by_cases h0 : 0 < s.2.1
    · have h0' : (0 : Int) < (s.2.1 : Int) := by omega
      have e2 : decide ((s.2.1 : Int) ≤ (b : Int)) = decide (s.2.1 ≤ b) := decide_eq_decide.mpr (by omega)
      simp only [decide_eq_true h0, decide_eq_true h0', e2, Bool.true_and]
    · have h0' : ¬ (0 : Int) < (s.2.1 : Int) := by omega
      simp only [decide_eq_false h0, decide_eq_false h0', Bool.false_and], fun _ => rfl⟩]
  rfl
theorem add_ls (w : Ws) {a b : List PyData} (h : a.length + b.length ≤ 1000) : addD w (.list a) (.list b) = some (.list (a ++ b)) := by
  simp only [addD, lstOf, szOk_of (show a.length + b.length ≤ 10000000 by omega), if_true]
end Tk

set_option Elab.async false
set_option linter.all false
set_option maxRecDepth 100000
set_option maxHeartbeats 4000000
namespace Tk
open PySem L2 Td Tg Tt
theorem rtree_w {b0 : Nat} {vs : List Str} {ws : List Wd} (hT : Tong vs ws) : ∀ (f : Nat) {ob : Ob} {v : Ws} {n r b : Nat}, RdOk ob n → Pl v → v[r]? = some (room b) → 1 ≤ b → b ≤ f → b ≤ 13 → n + 20 * b + 300 < 1000000 →
    wO (fun d W => ∃ ob' v', W = ob' :: v' ∧ ∃ t b' k, v' = v.set r (room b') ∧ d = toD t ∧ VT t ∧ k + b' = b ∧ nds t ≤ k ∧ RdOk ob' (n + 20 * k)) (F__law_random_tree f [rf 0, tgD b0 vs ws, rf (r + 1)] (ob :: v)) := by
  intro f
  induction f with
  | zero => intro ob v n r b _ _ _ h1 h2; omega
  | succ f ih =>
    intro ob v n r b h hv hr hb1 hbf hb13 hn
    have hrl := (List.getElem?_eq_some_iff.mp hr).1
    show wO _ (leave (ob :: v).length (b__law_random_tree (F__law_random_tree f) [some (rf 0), some (tgD b0 vs ws), some (rf (r + 1)), none, none, none, none, none, none, none, none, none] (ob :: v)))
    refine wO_leave2 (P := fun d ob' v' => ∃ t b' k, v' = v.set r (room b') ∧ d = toD t ∧ VT t ∧ k + b' = b ∧ nds t ≤ k ∧ RdOk ob' (n + 20 * k)) ?_
    obtain ⟨g, hg⟩ : ∃ g, g = F__law_random_tree f := ⟨_, rfl⟩
    rw [← hg] at ih ⊢
    unfold b__law_random_tree
    have g0 : (ob :: v)[r + 1]? = some (room b) := hr
    have s1 : ∀ W (x y : Int), subD W (.int x) (.int y) = some (.int (x - y)) := fun _ _ _ => rfl
    have s2 : ∀ W (x y : Int), addD W (.int x) (.int y) = some (.int (x + y)) := fun _ _ _ => rfl
    obtain ⟨v1, hv1⟩ : ∃ v1, v1 = v.set r (room (b - 1)) := ⟨_, rfl⟩
    have st0 : (ob :: v).set (r + 1) (room (b - 1)) = ob :: v1 := by rw [hv1]; rfl
    have a0 : sAsg (eB subD (eB ixD (eV 2) (eC (.int 0))) (eC (.int 1))) (gIx (eV 2) (eC (.int 0))) [some (rf 0), some (tgD b0 vs ws), some (rf (r + 1)), none, none, none, none, none, none, none, none, none] (ob :: v) = .nx [some (rf 0), some (tgD b0 vs ws), some (rf (r + 1)), none, none, none, none, none, none, none, none, none] (ob :: v1) := by
      rw [← st0]
      exact a_room (q := r + 1) (b := b) (x := (b : Int) - 1) rfl g0 (by rw [eB, ix_rm (q := r + 1) rfl g0]; rfl) (by omega)
    have pv1 : Pl v1 := hv1 ▸ pl_set hv (room_bnd _)
    have lv1 : v1.length = v.length := by rw [hv1, List.length_set]
    have r1 : v1[r]? = some (room (b - 1)) := by rw [hv1, List.getElem?_set_self hrl]
    have g1 : ∀ ob, (ob :: v1)[r + 1]? = some (room (b - 1)) := fun _ => r1
    have t1 : ∀ W, ixD W (tgD b0 vs ws) (.int 1) = some (.tuple (vs.map .str)) := fun _ => rfl
    have t2 : ∀ W, ixD W (tgD b0 vs ws) (.int 2) = some (.tuple (ws.map wD)) := fun _ => rfl
    have l1 : ∀ W L, listD W [.tuple L] = some (.list L) := fun _ _ => rfl
    have it1 : ∀ L, itD (.tuple L) = some L := fun _ => rfl
    have ln1 : ∀ W L, lenD W [.list L] = some (.int (L.length : Int)) := fun _ _ => rfl
    have z0 : szOk 0 = true := szOk_of (by omega)
    have z3 : szOk 3 = true := szOk_of (by omega)
    have hv2 := hT.v2
    have hw2 := hT.w2
    have hfz : (ws.filter zeroW).length ≤ 6 := Nat.le_trans (List.length_filter_le ..) hw2
    obtain ⟨lv, hlv⟩ : ∃ lv, lv = vs ++ (ws.filter zeroW).map (·.1) := ⟨_, rfl⟩
    have lvm : vs.map PyData.str ++ (ws.filter zeroW).map (fun x => PyData.str x.1) = lv.map .str := by rw [hlv]; simp [List.map_map, Function.comp_def]
    have lvl : lv.length ≤ 9 := by rw [hlv]; simp only [List.length_append, List.length_map]; omega
    have lvp : 1 ≤ lv.length := by
      rw [hlv]; simp only [List.length_append, List.length_map]
      rcases hT.ne with h | ⟨x, hx, h0⟩
      · have := List.length_pos_iff.mpr h; omega
      · have : x ∈ ws.filter zeroW := List.mem_filter.mpr ⟨hx, by unfold zeroW; exact decide_eq_true (by omega)⟩
        have := List.length_pos_of_mem this; omega
    have lvu : ∀ x ∈ lv, x ∈ HU := by
      intro x hx
      rw [hlv] at hx
      rcases List.mem_append.mp hx with hx | hx
      · exact hT.v1 x hx
      · obtain ⟨y, hy, rfl⟩ := List.mem_map.mp hx
        exact (hT.w1 y (List.mem_filter.mp hy).1).1
    have ad : ∀ W, addD W (.list (vs.map .str)) (.list ((ws.filter zeroW).map fun x => .str x.1)) = some (.list (lv.map .str)) := fun W => by
      rw [add_ls W (by simp only [List.length_map]; omega), lvm]
    simp only [wS_seq, a0, wS_nx]
    simp only [wipeE, sRet, sExp, sIf, wS_AsgG, gIx, sFor, gN, gT, gC, gZ, eAn, eOr, eNo, eIf, eIsi, eV, eC, eB, eU, eCb, eCall, eSl, oN, oS, eTup, eLst, aN, aC, eLc, eCh, tAn, tOr', tNo, tB', tTr, tYs, iE, iZ, iR1, iR2, sNil, wO_bind, wO_ok, wO_onE, wO_ofif, wO_some, wS_seq, wS_then, wS_nx, wS_rt, cond_true, cond_false, List.append_nil, List.nil_append, List.cons_append, List.getElem?_cons_zero, List.getElem?_cons_succ, List.set_cons_zero, List.set_cons_succ, s1, t1, t2, l1, it1, lc_leaf hT, lc_wide hT (g1 _), ad, Oc.on, List.length_cons, List.length_nil, Nat.zero_add, Nat.reduceAdd, z0, z3]
    refine wO_mono (notes_w h pv1 (by omega)) ?_
    rintro d W ⟨ob1, rfl, ns, rfl, hns, h1⟩
    simp only [wipeE, sRet, sExp, sIf, sAsg, sFor, gN, gT, gC, gZ, eAn, eOr, eNo, eIf, eIsi, eV, eC, eB, eU, eCb, eCall, eSl, oN, oS, eTup, eLst, aN, aC, eLc, eCh, tAn, tOr', tNo, tB', tTr, tYs, iE, iZ, iR1, iR2, sNil, wO_bind, wO_ok, wO_onE, wO_ofif, wO_some, wS_seq, wS_then, wS_nx, wS_rt, cond_true, cond_false, List.append_nil, List.nil_append, List.cons_append, List.getElem?_cons_zero, List.getElem?_cons_succ, List.set_cons_zero, List.set_cons_succ, eqL_w, Oc.on]
    obtain ⟨W4, hW4⟩ : ∃ W4, W4 = ws.filter (wideW (b - 1)) := ⟨_, rfl⟩
    rw [← hW4]
    have leaf : ∀ (ob2 : Ob) (K : PyData → Ws → Prop), RdOk ob2 (n + 10) → (∀ x ob3, x ∈ HU → RdOk ob3 (n + 11) → K (.str x) (ob3 :: v1)) → wO (fun a w => wO K (Oc.of (ixD w (.list (lv.map .str)) a) w)) (F__law_draw [rf 0, PyData.int ((lv.map PyData.str).length : Int)] (ob2 :: v1)) := by
      intro ob2 K h2 hK
      refine wO_mono (draw_c (v := v1) h2 (by omega) (by rw [List.length_map]; omega) (by rw [List.length_map]; omega)) ?_
      rintro d W ⟨k, ob3, rfl, hk, rfl, h3⟩
      obtain ⟨x, hx, e⟩ := atL (w := ob3 :: v1) (xs := lv.map .str) (v := (k : Int)) (by omega) hk
      obtain ⟨y, hy, rfl⟩ := List.mem_map.mp hx
      rw [e, wO_some]
      exact hK y ob3 (lvu y hy) h3
    have lfin : ∀ x ob3, x ∈ HU → RdOk ob3 (n + 11) → ∃ ob' v' u m, ob3 :: v1 = ob' :: (v' ++ u) ∧ v'.length = v.length ∧ Pl v' ∧ RdOk ob' m ∧ (∀ k, bnd k (toD (.mk ns x [])) = true) ∧ ∃ t b' k, v' = v.set r (room b') ∧ toD (.mk ns x []) = toD t ∧ VT t ∧ k + b' = b ∧ nds t ≤ k ∧ RdOk ob' (n + 20 * k) := fun x ob3 hx h3 =>
      ⟨ob3, v1, [], _, by simp, lv1, pv1, h3, fun k => bnd_toD k _, .mk ns x [], b - 1, 1, hv1, rfl, ⟨hns, hx, trivial⟩, by omega, by simp [nds, ndsA], h3.mono (by omega)⟩
    cases hw4 : W4 with
    | nil =>
      simp only [wipeE, sRet, sExp, sIf, sAsg, sFor, gN, gT, gC, gZ, eAn, eOr, eNo, eIf, eIsi, eV, eC, eB, eU, eCb, eCall, eSl, oN, oS, eTup, eLst, aN, aC, eLc, eCh, tAn, tOr', tNo, tB', tTr, tYs, iE, iZ, iR1, iR2, sNil, wO_bind, wO_ok, wO_onE, wO_ofif, wO_some, wS_seq, wS_then, wS_nx, wS_rt, cond_true, cond_false, List.append_nil, List.nil_append, List.cons_append, List.getElem?_cons_zero, List.getElem?_cons_succ, List.set_cons_zero, List.set_cons_succ, List.map_nil, List.isEmpty, ln1]
      refine leaf ob1 _ (h1.mono (by omega)) fun x ob3 hx h3 => ?_
      simp only [wipeE, sRet, sExp, sIf, sAsg, sFor, gN, gT, gC, gZ, eAn, eOr, eNo, eIf, eIsi, eV, eC, eB, eU, eCb, eCall, eSl, oN, oS, eTup, eLst, aN, aC, eLc, eCh, tAn, tOr', tNo, tB', tTr, tYs, iE, iZ, iR1, iR2, sNil, wO_bind, wO_ok, wO_onE, wO_ofif, wO_some, wS_seq, wS_then, wS_nx, wS_rt, cond_true, cond_false, List.append_nil, List.nil_append, List.cons_append, List.getElem?_cons_zero, List.getElem?_cons_succ, List.set_cons_zero, List.set_cons_succ, Oc.on, List.length_cons, List.length_nil, Nat.zero_add, Nat.reduceAdd, z0, z3]
      exact lfin x ob3 hx h3
    | cons y0 yr =>
      have hW4l : (y0 :: yr).length ≤ 6 := by rw [← hw4, hW4]; exact Nat.le_trans (List.length_filter_le ..) hw2
      simp only [wipeE, sRet, sExp, sIf, sAsg, sFor, gN, gT, gC, gZ, eAn, eOr, eNo, eIf, eIsi, eV, eC, eB, eU, eCb, eCall, eSl, oN, oS, eTup, eLst, aN, aC, eLc, eCh, tAn, tOr', tNo, tB', tTr, tYs, iE, iZ, iR1, iR2, sNil, wO_bind, wO_ok, wO_onE, wO_ofif, wO_some, wS_seq, wS_then, wS_nx, wS_rt, cond_true, cond_false, List.append_nil, List.nil_append, List.cons_append, List.getElem?_cons_zero, List.getElem?_cons_succ, List.set_cons_zero, List.set_cons_succ, List.isEmpty, List.map_cons, ln1]
      rw [← List.map_cons (f := wD)]
      refine wO_mono (draw_c (v := v1) h1 (by omega) (by omega) (by omega)) ?_
      rintro d W ⟨k, ob2, rfl, hk, rfl, h2⟩
      rw [wO_oksome (eq_int _ _ _ (small62 (by omega)) (by decide))]
      dsimp only
      rw [wO_ok]
      by_cases hz : (k : Int) = 0
      · rw [decide_eq_true hz]
        simp only [wipeE, sRet, sExp, sIf, sAsg, sFor, gN, gT, gC, gZ, eAn, eOr, eNo, eIf, eIsi, eV, eC, eB, eU, eCb, eCall, eSl, oN, oS, eTup, eLst, aN, aC, eLc, eCh, tAn, tOr', tNo, tB', tTr, tYs, iE, iZ, iR1, iR2, sNil, wO_bind, wO_ok, wO_onE, wO_ofif, wO_some, wS_seq, wS_then, wS_nx, wS_rt, cond_true, cond_false, List.append_nil, List.nil_append, List.cons_append, List.getElem?_cons_zero, List.getElem?_cons_succ, List.set_cons_zero, List.set_cons_succ, ln1]
        refine leaf ob2 _ (h2.mono (by omega)) fun x ob3 hx h3 => ?_
        simp only [wipeE, sRet, sExp, sIf, sAsg, sFor, gN, gT, gC, gZ, eAn, eOr, eNo, eIf, eIsi, eV, eC, eB, eU, eCb, eCall, eSl, oN, oS, eTup, eLst, aN, aC, eLc, eCh, tAn, tOr', tNo, tB', tTr, tYs, iE, iZ, iR1, iR2, sNil, wO_bind, wO_ok, wO_onE, wO_ofif, wO_some, wS_seq, wS_then, wS_nx, wS_rt, cond_true, cond_false, List.append_nil, List.nil_append, List.cons_append, List.getElem?_cons_zero, List.getElem?_cons_succ, List.set_cons_zero, List.set_cons_succ, Oc.on, List.length_cons, List.length_nil, Nat.zero_add, Nat.reduceAdd, z0, z3]
        exact lfin x ob3 hx h3
      · rw [decide_eq_false hz]
        simp only [wipeE, sRet, sExp, sIf, sAsg, sFor, gN, gT, gC, gZ, eAn, eOr, eNo, eIf, eIsi, eV, eC, eB, eU, eCb, eCall, eSl, oN, oS, eTup, eLst, aN, aC, eLc, eCh, tAn, tOr', tNo, tB', tTr, tYs, iE, iZ, iR1, iR2, sNil, wO_bind, wO_ok, wO_onE, wO_ofif, wO_some, wS_seq, wS_then, wS_nx, wS_rt, cond_true, cond_false, List.append_nil, List.nil_append, List.cons_append, List.getElem?_cons_zero, List.getElem?_cons_succ, List.set_cons_zero, List.set_cons_succ, ln1]
        have hlen : (((y0 :: yr).map wD).length : Int) = ((y0 :: yr).length : Int) := by rw [List.length_map]
        have hpos : 1 ≤ (y0 :: yr).length := by simp
        refine wO_mono (draw_c (v := v1) (m := (((y0 :: yr).map wD).length : Int)) h2 (by omega) (by rw [hlen]; omega) (by rw [hlen]; omega)) ?_
        rintro d W ⟨k2, ob3, rfl, hk2, rfl, h3⟩
        obtain ⟨x, hx, e⟩ := atL (w := ob3 :: v1) (xs := (y0 :: yr).map wD) (v := (k2 : Int)) (by omega) hk2
        obtain ⟨y, hy, rfl⟩ := List.mem_map.mp hx
        rw [← hw4, hW4] at hy
        obtain ⟨hyw, hyb⟩ := List.mem_filter.mp hy
        unfold wideW at hyb
        obtain ⟨hb2, hb3⟩ := Bool.and_eq_true_iff.mp hyb
        have hb2 := of_decide_eq_true hb2
        have hb3 := of_decide_eq_true hb3
        have hyU := (hT.w1 y hyw).1
        have hy2 := (hT.w1 y hyw).2
        rw [e, wO_some]
        have i2 := ix_room (g1 ob3)
        obtain ⟨c, hc⟩ : ∃ c, c = b - 1 - y.2.1 := ⟨_, rfl⟩
        have u2 := up_room (g1 ob3) (x := ((b - 1 : Nat) : Int) - (y.2.1 : Int)) (c := c) (by omega)
        obtain ⟨v2, hv2⟩ : ∃ v2, v2 = v.set r (room c) := ⟨_, rfl⟩
        have st2 : (ob3 :: v1).set (r + 1) (room c) = ob3 :: v2 := by rw [hv2, hv1, List.set_cons_succ, List.set_set]
        rw [st2] at u2
        have lv2 : v2.length = v.length := by rw [hv2, List.length_set]
        have cp : c62 (y.2.1 : Int) = true := by unfold c62; exact decide_eq_true (by omega)
        have wd : wD y = .tuple [.str y.1, .int (y.2.1 : Int), .tuple (natsD y.2.2)] := rfl
        rw [wd]
        simp only [wipeE, sRet, sExp, sIf, wS_AsgG, gIx, sFor, gN, gT, gC, gZ, eAn, eOr, eNo, eIf, eIsi, eV, eC, eB, eU, eCb, eCall, eSl, oN, oS, eTup, eLst, aN, aC, eLc, eCh, tAn, tOr', tNo, tB', tTr, tYs, iE, iZ, iR1, iR2, sNil, wO_bind, wO_ok, wO_onE, wO_ofif, wO_some, wS_seq, wS_then, wS_nx, wS_rt, cond_true, cond_false, List.append_nil, List.nil_append, List.cons_append, List.getElem?_cons_zero, List.getElem?_cons_succ, List.set_cons_zero, List.set_cons_succ, i2, s1, u2, eLstS, cp, lv2, Oc.on, Oc.bind, List.length_cons, List.length_nil, Nat.zero_add, Nat.reduceAdd, if_true, z0]
        refine wS_forL (fun i ρ W => ∃ (ps : List Tr) (ob' : Ob) (y7 : Option PyData) (R k : Nat), W = ob' :: (v.set r (room R) ++ [.lst (toDs ps)]) ∧
          ρ = [some (rf 0), some (tgD b0 vs ws), some (rf (r + 1)), some (.list (lv.map .str)), some (.list ((y0 :: yr).map wD)), some (.tuple (ns.map .str)), some (rf (v.length + 1)), y7, some (.str y.1), some (.int (y.2.1 : Int)), some (.tuple (natsD y.2.2)), none] ∧
          ps.length = i ∧ VTA ps ∧ ndsA ps ≤ k ∧ k + R = c + i ∧ RdOk ob' (n + 12 + 20 * k)) _ 0 _ _ ⟨[], ob3, none, c, 0, by rw [← hv2]; rfl, rfl, rfl, trivial, by simp [ndsA], by omega, h3.mono (by omega)⟩ ?_ ?_
        · rintro i d ρ W hj ⟨ps, ob4, y7, R, k, rfl, rfl, hl, hps, hk, hR, h4⟩
          rw [Nat.zero_add] at *
          have hi := (List.getElem?_eq_some_iff.mp hj).1
          have hrl2 : (rgD 0 (y.2.1 : Int)).length = y.2.1 := by unfold rgD; rw [List.length_map, List.length_range]; omega
          rw [hrl2] at hi
          have lR : ∀ R, (v.set r (room R)).length = v.length := fun R => List.length_set ..
          have gR : ∀ R, (v.set r (room R))[r]? = some (room R) := fun R => List.getElem?_set_self hrl
          have gq : ∀ (o : Ob) R L, (o :: (v.set r (room R) ++ [Ob.lst L]))[r + 1]? = some (room R) := fun o R L => get_in (gR R)
          have sq : ∀ (o : Ob) R R' L, (o :: (v.set r (room R) ++ [Ob.lst L])).set (r + 1) (room R') = o :: (v.set r (room R') ++ [Ob.lst L]) := fun o R R' L => by
            rw [set_in (by rw [lR]; exact hrl), List.set_set]
          have gp : ∀ (o : Ob) R L, (o :: (v.set r (room R) ++ [Ob.lst L]))[v.length + 1]? = some (.lst L) := fun o R L => by
            have := lst_c (ob := o) (x := .lst L) (v := v.set r (room R)) (u := [])
            rw [lR] at this; exact this
          have sp : ∀ (o : Ob) R L L', (o :: (v.set r (room R) ++ [Ob.lst L])).set (v.length + 1) (.lst L') = o :: (v.set r (room R) ++ [Ob.lst L']) := fun o R L L' => by
            have := set_c (ob := o) (x := .lst L) (y := .lst L') (v := v.set r (room R)) (u := [])
            rw [lR] at this; exact this
          have i3 := ix_room (gq ob4 R (toDs ps))
          have u3 := up_room (gq ob4 R (toDs ps)) (x := (R : Int) + 1) (c := R + 1) (by omega)
          rw [sq] at u3
          have lo := lst_at (gp ob4 (R + 1) (toDs ps))
          have pv : Pl (v.set r (room (R + 1)) ++ [.lst (toDs ps)]) := pl_app (pl_set hv (room_bnd _)) (pl_one (lst_bnd ps))
          have ih1 := ih (ob := ob4) (v := v.set r (room (R + 1)) ++ [.lst (toDs ps)]) (n := n + 12 + 20 * k) (r := r) (b := R + 1) h4 pv (by rw [List.getElem?_append_left (by rw [lR]; exact hrl)]; exact gR _) (by omega) (by omega) (by omega) (by omega)
          simp only [wipeE, sRet, sExp, sIf, wS_AsgG, gIx, sFor, gN, gT, gC, gZ, eAn, eOr, eNo, eIf, eIsi, eV, eC, eB, eU, eCb, eCall, eSl, oN, oS, eTup, eLst, aN, aC, eLc, eCh, tAn, tOr', tNo, tB', tTr, tYs, iE, iZ, iR1, iR2, sNil, wO_bind, wO_ok, wO_onE, wO_ofif, wO_some, wS_seq, wS_then, wS_nx, wS_rt, cond_true, cond_false, List.append_nil, List.nil_append, List.cons_append, List.getElem?_cons_zero, List.getElem?_cons_succ, List.set_cons_zero, List.set_cons_succ, i3, s2, u3, eLm, lo, Option.isSome_some, Oc.on]
          refine wO_mono ih1 ?_
          rintro d W ⟨ob5, v5, rfl, t, b', k', rfl, rfl, ht, hk2, hn2, h5⟩
          rw [List.set_append_left _ _ (by rw [lR]; exact hrl), List.set_set]
          have u := upd_at (k := fun xs => apL xs [toD t]) (d := .none) (ys := toDs ps ++ [toD t]) (gp ob5 b' (toDs ps)) (by simp only [apL]; rw [if_pos (by rw [sizeLine_eq, toDs_len]; omega)])
          rw [sp] at u
          simp only [u, wO_ok]
          refine ⟨ps ++ [t], ob5, some d, b', k + k', by rw [toDs_app]; rfl, rfl, by simp [hl], ?_, ?_, by omega, h5.mono (by omega)⟩
          · exact VTA_iff.mpr fun p hp => (List.mem_append.mp hp).elim (VTA_iff.mp hps p) fun h => by rw [List.mem_singleton] at h; subst h; exact ht
          · rw [ndsA_app]; simp only [ndsA]; omega
        · rintro ρ W ⟨ps, ob4, y7, R, k, rfl, rfl, hl, hps, hk, hR, h4⟩
          have hrl2 : (rgD 0 (y.2.1 : Int)).length = y.2.1 := by unfold rgD; rw [List.length_map, List.length_range]; omega
          rw [Nat.zero_add, hrl2] at hl hR
          have lR : (v.set r (room R)).length = v.length := List.length_set ..
          have gp : (ob4 :: (v.set r (room R) ++ [Ob.lst (toDs ps)]))[v.length + 1]? = some (.lst (toDs ps)) := by
            have := lst_c (ob := ob4) (x := .lst (toDs ps)) (v := v.set r (room R)) (u := [])
            rw [lR] at this; exact this
          simp only [wipeE, sRet, sExp, sIf, wS_AsgG, gIx, sFor, gN, gT, gC, gZ, eAn, eOr, eNo, eIf, eIsi, eV, eC, eB, eU, eCb, eCall, eSl, oN, oS, eTup, eLst, aN, aC, eLc, eCh, tAn, tOr', tNo, tB', tTr, tYs, iE, iZ, iR1, iR2, sNil, wO_bind, wO_ok, wO_onE, wO_ofif, wO_some, wS_seq, wS_then, wS_nx, wS_rt, cond_true, cond_false, List.append_nil, List.nil_append, List.cons_append, List.getElem?_cons_zero, List.getElem?_cons_succ, List.set_cons_zero, List.set_cons_succ, tup_rf gp, Oc.on, List.length_cons, List.length_nil, Nat.zero_add, Nat.reduceAdd, z3]
          exact ⟨ob4, v.set r (room R), [.lst (toDs ps)], _, rfl, lR, pl_set hv (room_bnd _), h4, fun k => bnd_toD k (.mk ns y.1 ps), .mk ns y.1 ps, R, k + 1, rfl, rfl, ⟨hns, hyU, hps⟩, by omega, by simp only [nds]; omega, h4.mono (by omega)⟩
end Tk

set_option Elab.async false
set_option linter.all false
set_option maxRecDepth 100000
set_option maxHeartbeats 4000000
namespace Tk
open PySem L2 Td Tg Tt
def LP : List Str := ["f", "x", "not", "zzzzzzzz", "a"]
theorem LP_HU : ∀ x ∈ LP, x ∈ HU := by decide +kernel
theorem loose_w : ∀ (f : Nat) {ob : Ob} {v : Ws} {n r b : Nat}, RdOk ob n → Pl v → v[r]? = some (room b) → 1 ≤ b → b ≤ f → b ≤ 13 → n + 20 * b + 300 < 1000000 →
    wO (fun d W => ∃ ob' v', W = ob' :: v' ∧ ∃ t b' k, v' = v.set r (room b') ∧ d = toD t ∧ VT t ∧ k + b' = b ∧ nds t ≤ k ∧ RdOk ob' (n + 20 * k)) (F__law_loose_tree f [rf 0, rf (r + 1)] (ob :: v)) := by
  intro f
  induction f with
  | zero => intro ob v n r b _ _ _ h1 h2; omega
  | succ f ih =>
    intro ob v n r b h hv hr hb1 hbf hb13 hn
    have hrl := (List.getElem?_eq_some_iff.mp hr).1
    show wO _ (leave (ob :: v).length (b__law_loose_tree (F__law_loose_tree f) [some (rf 0), some (rf (r + 1)), none, none, none, none, none] (ob :: v)))
    refine wO_leave2 (P := fun d ob' v' => ∃ t b' k, v' = v.set r (room b') ∧ d = toD t ∧ VT t ∧ k + b' = b ∧ nds t ≤ k ∧ RdOk ob' (n + 20 * k)) ?_
    obtain ⟨g, hg⟩ : ∃ g, g = F__law_loose_tree f := ⟨_, rfl⟩
    rw [← hg] at ih ⊢
    unfold b__law_loose_tree
    have g0 : (ob :: v)[r + 1]? = some (room b) := hr
    have s1 : ∀ W (x y : Int), subD W (.int x) (.int y) = some (.int (x - y)) := fun _ _ _ => rfl
    have s2 : ∀ W (x y : Int), addD W (.int x) (.int y) = some (.int (x + y)) := fun _ _ _ => rfl
    have m2 : ∀ W (x y : Int), min2D W [.int x, .int y] = some (.int (if y < x then y else x)) := fun _ _ _ => rfl
    obtain ⟨v1, hv1⟩ : ∃ v1, v1 = v.set r (room (b - 1)) := ⟨_, rfl⟩
    have st0 : (ob :: v).set (r + 1) (room (b - 1)) = ob :: v1 := by rw [hv1]; rfl
    have a0 : sAsg (eB subD (eB ixD (eV 1) (eC (.int 0))) (eC (.int 1))) (gIx (eV 1) (eC (.int 0))) [some (rf 0), some (rf (r + 1)), none, none, none, none, none] (ob :: v) = .nx [some (rf 0), some (rf (r + 1)), none, none, none, none, none] (ob :: v1) := by
      rw [← st0]
      exact a_room (q := r + 1) (b := b) (x := (b : Int) - 1) rfl g0 (by rw [eB, ix_rm (q := r + 1) rfl g0]; rfl) (by omega)
    have pv1 : Pl v1 := hv1 ▸ pl_set hv (room_bnd _)
    have lv1 : v1.length = v.length := by rw [hv1, List.length_set]
    have r1 : v1[r]? = some (room (b - 1)) := by rw [hv1, List.getElem?_set_self hrl]
    have g1 : ∀ ob, (ob :: v1)[r + 1]? = some (room (b - 1)) := fun _ => r1
    have z0 : szOk 0 = true := szOk_of (by omega)
    have z3 : szOk 3 = true := szOk_of (by omega)
    have z5 : szOk 5 = true := szOk_of (by omega)
    have i1 := ix_room (g1 ob)
    simp only [wS_seq, a0, wS_nx]
    simp only [wipeE, sRet, sExp, sIf, wS_AsgG, gIx, sFor, gN, gT, gC, gZ, eAn, eOr, eNo, eIf, eIsi, eV, eC, eB, eU, eCb, eCall, eSl, oN, oS, eTup, eLst, aN, aC, eLc, eCh, tAn, tOr', tNo, tB', tTr, tYs, iE, iZ, iR1, iR2, sNil, wO_bind, wO_ok, wO_onE, wO_ofif, wO_some, wS_seq, wS_then, wS_nx, wS_rt, cond_true, cond_false, List.append_nil, List.nil_append, List.cons_append, List.getElem?_cons_zero, List.getElem?_cons_succ, List.set_cons_zero, List.set_cons_succ, s1, i1, Oc.on, List.length_cons, List.length_nil, Nat.zero_add, Nat.reduceAdd, z0, z3]
    refine wO_mono (draw_c (v := v1) h (by omega) (by omega) (by omega)) ?_
    rintro d W ⟨k4, ob1, rfl, hk4, rfl, h1⟩
    obtain ⟨m, hm⟩ : ∃ m : Nat, (if (k4 : Int) < ((b - 1 : Nat) : Int) then (k4 : Int) else ((b - 1 : Nat) : Int)) = (m : Int) := by
      by_cases hc : (k4 : Int) < ((b - 1 : Nat) : Int)
      · exact ⟨k4, if_pos hc⟩
      · exact ⟨b - 1, if_neg hc⟩
    have hm1 : m ≤ b - 1 ∧ m ≤ 3 := by
      by_cases hc : (k4 : Int) < ((b - 1 : Nat) : Int)
      · rw [if_pos hc] at hm; omega
      · rw [if_neg hc] at hm; omega
    simp only [wipeE, sRet, sExp, sIf, wS_AsgG, gIx, sFor, gN, gT, gC, gZ, eAn, eOr, eNo, eIf, eIsi, eV, eC, eB, eU, eCb, eCall, eSl, oN, oS, eTup, eLst, aN, aC, eLc, eCh, tAn, tOr', tNo, tB', tTr, tYs, iE, iZ, iR1, iR2, sNil, wO_bind, wO_ok, wO_onE, wO_ofif, wO_some, wS_seq, wS_then, wS_nx, wS_rt, cond_true, cond_false, List.append_nil, List.nil_append, List.cons_append, List.getElem?_cons_zero, List.getElem?_cons_succ, List.set_cons_zero, List.set_cons_succ, m2, hm, Oc.on, List.length_cons, List.length_nil, Nat.zero_add, Nat.reduceAdd, z0, z3, z5]
    refine wO_mono (draw_c (v := v1) h1 (by omega) (by omega) (by omega)) ?_
    rintro d W ⟨k5, ob2, rfl, hk5, rfl, h2⟩
    obtain ⟨x, hx, e⟩ := atL (w := ob2 :: v1) (xs := [.str "f", .str "x", .str "not", .str "zzzzzzzz", .str "a"]) (v := (k5 : Int)) (by omega) (by simpa using hk5)
    obtain ⟨nm, rfl, hnm⟩ : ∃ nm, x = .str nm ∧ nm ∈ HU := by
      have hx : x ∈ LP.map PyData.str := hx
      obtain ⟨y, hy, rfl⟩ := List.mem_map.mp hx
      exact ⟨y, rfl, LP_HU y hy⟩
    simp only [wipeE, sRet, sExp, sIf, wS_AsgG, gIx, sFor, gN, gT, gC, gZ, eAn, eOr, eNo, eIf, eIsi, eV, eC, eB, eU, eCb, eCall, eSl, oN, oS, eTup, eLst, aN, aC, eLc, eCh, tAn, tOr', tNo, tB', tTr, tYs, iE, iZ, iR1, iR2, sNil, wO_bind, wO_ok, wO_onE, wO_ofif, wO_some, wS_seq, wS_then, wS_nx, wS_rt, cond_true, cond_false, List.append_nil, List.nil_append, List.cons_append, List.getElem?_cons_zero, List.getElem?_cons_succ, List.set_cons_zero, List.set_cons_succ, e]
    refine wO_mono (notes_w h2 pv1 (by omega)) ?_
    rintro d W ⟨ob3, rfl, ns, rfl, hns, h3⟩
    have i2 := ix_room (g1 ob3)
    obtain ⟨c, hc⟩ : ∃ c, c = b - 1 - m := ⟨_, rfl⟩
    have u2 := up_room (g1 ob3) (x := ((b - 1 : Nat) : Int) - (m : Int)) (c := c) (by omega)
    obtain ⟨v2, hv2⟩ : ∃ v2, v2 = v.set r (room c) := ⟨_, rfl⟩
    have st2 : (ob3 :: v1).set (r + 1) (room c) = ob3 :: v2 := by rw [hv2, hv1, List.set_cons_succ, List.set_set]
    rw [st2] at u2
    have lv2 : v2.length = v.length := by rw [hv2, List.length_set]
    have cp : c62 (m : Int) = true := by unfold c62; exact decide_eq_true (by omega)
    simp only [wipeE, sRet, sExp, sIf, wS_AsgG, gIx, sFor, gN, gT, gC, gZ, eAn, eOr, eNo, eIf, eIsi, eV, eC, eB, eU, eCb, eCall, eSl, oN, oS, eTup, eLst, aN, aC, eLc, eCh, tAn, tOr', tNo, tB', tTr, tYs, iE, iZ, iR1, iR2, sNil, wO_bind, wO_ok, wO_onE, wO_ofif, wO_some, wS_seq, wS_then, wS_nx, wS_rt, cond_true, cond_false, List.append_nil, List.nil_append, List.cons_append, List.getElem?_cons_zero, List.getElem?_cons_succ, List.set_cons_zero, List.set_cons_succ, i2, s1, u2, eLstS, cp, lv2, Oc.on, List.length_cons, List.length_nil, Nat.zero_add, Nat.reduceAdd, if_true, z0]
    have hrl2 : (rgD 0 (m : Int)).length = m := by unfold rgD; rw [List.length_map, List.length_range]; omega
    refine wS_forL (fun i ρ W => ∃ (ps : List Tr) (ob' : Ob) (y7 : Option PyData) (R k : Nat), W = ob' :: (v.set r (room R) ++ [.lst (toDs ps)]) ∧
      ρ = [some (rf 0), some (rf (r + 1)), some (.int (m : Int)), some (.str nm), some (.tuple (ns.map .str)), some (rf (v.length + 1)), y7] ∧
      ps.length = i ∧ VTA ps ∧ ndsA ps ≤ k ∧ k + R = c + i ∧ RdOk ob' (n + 12 + 20 * k)) _ 0 _ _ ⟨[], ob3, none, c, 0, by rw [← hv2]; rfl, rfl, rfl, trivial, by simp [ndsA], by omega, h3.mono (by omega)⟩ ?_ ?_
    · rintro i d ρ W hj ⟨ps, ob4, y7, R, k, rfl, rfl, hl, hps, hk, hR, h4⟩
      rw [Nat.zero_add] at *
      have hi := (List.getElem?_eq_some_iff.mp hj).1
      rw [hrl2] at hi
      have lR : ∀ R, (v.set r (room R)).length = v.length := fun R => List.length_set ..
      have gR : ∀ R, (v.set r (room R))[r]? = some (room R) := fun R => List.getElem?_set_self hrl
      have gq : ∀ (o : Ob) R L, (o :: (v.set r (room R) ++ [Ob.lst L]))[r + 1]? = some (room R) := fun o R L => get_in (gR R)
      have sq : ∀ (o : Ob) R R' L, (o :: (v.set r (room R) ++ [Ob.lst L])).set (r + 1) (room R') = o :: (v.set r (room R') ++ [Ob.lst L]) := fun o R R' L => by
        rw [set_in (by rw [lR]; exact hrl), List.set_set]
      have gp : ∀ (o : Ob) R L, (o :: (v.set r (room R) ++ [Ob.lst L]))[v.length + 1]? = some (.lst L) := fun o R L => by
        have := lst_c (ob := o) (x := .lst L) (v := v.set r (room R)) (u := [])
        rw [lR] at this; exact this
      have sp : ∀ (o : Ob) R L L', (o :: (v.set r (room R) ++ [Ob.lst L])).set (v.length + 1) (.lst L') = o :: (v.set r (room R) ++ [Ob.lst L']) := fun o R L L' => by
        have := set_c (ob := o) (x := .lst L) (y := .lst L') (v := v.set r (room R)) (u := [])
        rw [lR] at this; exact this
      have i3 := ix_room (gq ob4 R (toDs ps))
      have u3 := up_room (gq ob4 R (toDs ps)) (x := (R : Int) + 1) (c := R + 1) (by omega)
      rw [sq] at u3
      have lo := lst_at (gp ob4 (R + 1) (toDs ps))
      have pv : Pl (v.set r (room (R + 1)) ++ [.lst (toDs ps)]) := pl_app (pl_set hv (room_bnd _)) (pl_one (lst_bnd ps))
      have ih1 := ih (ob := ob4) (v := v.set r (room (R + 1)) ++ [.lst (toDs ps)]) (n := n + 12 + 20 * k) (r := r) (b := R + 1) h4 pv (by rw [List.getElem?_append_left (by rw [lR]; exact hrl)]; exact gR _) (by omega) (by omega) (by omega) (by omega)
      simp only [wipeE, sRet, sExp, sIf, wS_AsgG, gIx, sFor, gN, gT, gC, gZ, eAn, eOr, eNo, eIf, eIsi, eV, eC, eB, eU, eCb, eCall, eSl, oN, oS, eTup, eLst, aN, aC, eLc, eCh, tAn, tOr', tNo, tB', tTr, tYs, iE, iZ, iR1, iR2, sNil, wO_bind, wO_ok, wO_onE, wO_ofif, wO_some, wS_seq, wS_then, wS_nx, wS_rt, cond_true, cond_false, List.append_nil, List.nil_append, List.cons_append, List.getElem?_cons_zero, List.getElem?_cons_succ, List.set_cons_zero, List.set_cons_succ, i3, s2, u3, eLm, lo, Option.isSome_some, Oc.on]
      refine wO_mono ih1 ?_
      rintro d W ⟨ob5, v5, rfl, t, b', k', rfl, rfl, ht, hk2, hn2, h5⟩
      rw [List.set_append_left _ _ (by rw [lR]; exact hrl), List.set_set]
      have u := upd_at (k := fun xs => apL xs [toD t]) (d := .none) (ys := toDs ps ++ [toD t]) (gp ob5 b' (toDs ps)) (by simp only [apL]; rw [if_pos (by rw [sizeLine_eq, toDs_len]; omega)])
      rw [sp] at u
      simp only [u, wO_ok]
      refine ⟨ps ++ [t], ob5, some d, b', k + k', by rw [toDs_app]; rfl, rfl, by simp [hl], ?_, ?_, by omega, h5.mono (by omega)⟩
      · exact VTA_iff.mpr fun p hp => (List.mem_append.mp hp).elim (VTA_iff.mp hps p) fun h => by rw [List.mem_singleton] at h; subst h; exact ht
      · rw [ndsA_app]; simp only [ndsA]; omega
    · rintro ρ W ⟨ps, ob4, y7, R, k, rfl, rfl, hl, hps, hk, hR, h4⟩
      rw [Nat.zero_add, hrl2] at hl hR
      have lR : (v.set r (room R)).length = v.length := List.length_set ..
      have gp : (ob4 :: (v.set r (room R) ++ [Ob.lst (toDs ps)]))[v.length + 1]? = some (.lst (toDs ps)) := by
        have := lst_c (ob := ob4) (x := .lst (toDs ps)) (v := v.set r (room R)) (u := [])
        rw [lR] at this; exact this
      simp only [wipeE, sRet, sExp, sIf, wS_AsgG, gIx, sFor, gN, gT, gC, gZ, eAn, eOr, eNo, eIf, eIsi, eV, eC, eB, eU, eCb, eCall, eSl, oN, oS, eTup, eLst, aN, aC, eLc, eCh, tAn, tOr', tNo, tB', tTr, tYs, iE, iZ, iR1, iR2, sNil, wO_bind, wO_ok, wO_onE, wO_ofif, wO_some, wS_seq, wS_then, wS_nx, wS_rt, cond_true, cond_false, List.append_nil, List.nil_append, List.cons_append, List.getElem?_cons_zero, List.getElem?_cons_succ, List.set_cons_zero, List.set_cons_succ, tup_rf gp, Oc.on, List.length_cons, List.length_nil, Nat.zero_add, Nat.reduceAdd, z3]
      exact ⟨ob4, v.set r (room R), [.lst (toDs ps)], _, rfl, lR, pl_set hv (room_bnd _), h4, fun k => bnd_toD k (.mk ns nm ps), .mk ns nm ps, R, k + 1, rfl, rfl, ⟨hns, hnm, hps⟩, by omega, by simp only [nds]; omega, h4.mono (by omega)⟩
end Tk

set_option Elab.async false
set_option linter.all false
set_option maxRecDepth 100000
set_option maxHeartbeats 4000000
namespace Tk
open PySem L2 Td Tg Tt
/-! ### the fixed trees -/
def tX : Tr := .mk [] "x" []
def tN : Tr := .mk [] "no" []
def tO : Tr := .mk ["odd"] "x" []
def tF : Tr := .mk ["why"] "and" [.mk [] "or" [tX, tN], .mk [] "or" [tO, tN]]
def tW : Tr := .mk [] "f" [tX, tO, .mk [] "g" [], .mk ["a", "b", "c"] "h" [tX], tX, tN]
def tI : Tr := .mk ["-idem", "=no", "why"] "no" []
def chn : Nat → Tr
  | 0 => .mk ["-a", "=a", "a"] "x" []
  | i + 1 => .mk (if i = 4 then ["=b"] else []) "not" [chn i]
def fixT : List Tr := [tF, tX, tI, chn 9, tW]
theorem vt_X : VT tX := ⟨by decide +kernel, by decide +kernel, trivial⟩
theorem vt_N : VT tN := ⟨by decide +kernel, by decide +kernel, trivial⟩
theorem vt_O : VT tO := ⟨by decide +kernel, by decide +kernel, trivial⟩
theorem vt_I : VT tI := ⟨by decide +kernel, by decide +kernel, trivial⟩
theorem vt_F : VT tF := ⟨by decide +kernel, by decide +kernel, ⟨by decide +kernel, by decide +kernel, vt_X, vt_N, trivial⟩, ⟨by decide +kernel, by decide +kernel, vt_O, vt_N, trivial⟩, trivial⟩
theorem vt_W : VT tW := ⟨by decide +kernel, by decide +kernel, vt_X, vt_O, ⟨by decide +kernel, by decide +kernel, trivial⟩, ⟨by decide +kernel, by decide +kernel, vt_X, trivial⟩, vt_X, vt_N, trivial⟩
theorem b_NU : ([("=b" : Str)] : List Str).Sublist NU := by decide +kernel
theorem not_HU : ("not" : Str) ∈ HU := by decide +kernel
theorem vt_chn : ∀ i, VT (chn i)
  | 0 => ⟨by decide +kernel, by decide +kernel, trivial⟩
  | i + 1 => ⟨by
    by_cases h : i = 4
    · simp only [h, if_true]; exact b_NU
    · simp only [h, if_false]; exact List.nil_sublist _, not_HU, vt_chn i, trivial⟩
theorem nds_chn : ∀ i, nds (chn i) = i + 1
  | 0 => rfl
  | i + 1 => by simp only [chn, nds, ndsA, nds_chn i]; omega
theorem fix_sml : ∀ t ∈ fixT, Sml t := by
  intro t h
  simp only [fixT, List.mem_cons, List.not_mem_nil, or_false] at h
  rcases h with rfl | rfl | rfl | rfl | rfl
  · exact sml_of vt_F (by decide)
  · exact sml_of vt_X (by decide)
  · exact sml_of vt_I (by decide)
  · exact sml_of (vt_chn 9) (by rw [nds_chn]; omega)
  · exact sml_of vt_W (by decide)
theorem fixed_ok (ob : Ob) : F__law_fixed_trees [] [ob] = .ok (rf 1) [ob, .lst (toDs fixT)] := by
  have main : wS (fun _ _ => False) (fun d W => d = rf 1 ∧ W = [ob, .lst (toDs fixT)]) (b__law_fixed_trees [none, none, none, none, none, none, none] [ob]) := by
    unfold b__law_fixed_trees
    have z0 : szOk 0 = true := szOk_of (by omega)
    have z1 : szOk 1 = true := szOk_of (by omega)
    have z2 : szOk 2 = true := szOk_of (by omega)
    have z3 : szOk 3 = true := szOk_of (by omega)
    have z5 : szOk 5 = true := szOk_of (by omega)
    have z6 : szOk 6 = true := szOk_of (by omega)
    have eX : PyData.tuple [.tuple [], .str "x", .tuple []] = toD tX := rfl
    have eN : PyData.tuple [.tuple [], .str "no", .tuple []] = toD tN := rfl
    have c9 : c62 9 = true := by unfold c62; decide +kernel
    simp only [wipeE, sRet, sExp, sIf, wS_AsgG, gIx, sFor, gN, gT, gC, gZ, eAn, eOr, eNo, eIf, eIsi, eV, eC, eB, eU, eCb, eCall, eSl, oN, oS, eTup, eLst, aN, aC, eLc, eCh, tAn, tOr', tNo, tB', tTr, tYs, iE, iZ, iR1, iR2, sNil, wO_bind, wO_ok, wO_onE, wO_ofif, wO_some, wS_seq, wS_then, wS_nx, wS_rt, cond_true, cond_false, List.append_nil, List.nil_append, List.cons_append, List.getElem?_cons_zero, List.getElem?_cons_succ, List.set_cons_zero, List.set_cons_succ, Oc.on, List.length_cons, List.length_nil, Nat.zero_add, Nat.reduceAdd, z0, z1, z2, z3, z5, z6, if_true, c9]
    have ifs : ∀ i : Nat, ((if i = 4 then [("=b" : Str)] else []).map PyData.str) = if i = 4 then [.str "=b"] else [] := fun i => by by_cases h : i = 4 <;> simp [h]
    refine wS_forL (fun i ρ W => ∃ y3 : Option PyData, W = [ob] ∧ ρ = [some (toD tO), some (toD tF), some (toD (chn i)), y3, none, some (toD tX), some (toD tN)]) _ 0 _ _ ⟨none, rfl, rfl⟩ ?_ ?_
    · rintro i d ρ W hj ⟨y3, rfl, rfl⟩
      have hi := (List.getElem?_eq_some_iff.mp hj).1
      have hl : (rgD 0 9).length = 9 := rfl
      rw [hl] at hi
      have hd : d = .int (i : Int) := by
        have : (rgD 0 9)[i]? = some (.int (i : Int)) := by
          unfold rgD
          rw [List.getElem?_map, List.getElem?_range (show i < (9 - 0 : Int).toNat from hi)]
          simp
        rw [this] at hj
        exact (Option.some.inj hj).symm
      subst hd
      have e4 := eq_int [ob] (i : Int) 4 (small62 (by omega)) (by decide)
      rw [Nat.zero_add]
      simp only [wipeE, sRet, sExp, sIf, wS_AsgG, gIx, sFor, gN, gT, gC, gZ, eAn, eOr, eNo, eIf, eIsi, eV, eC, eB, eU, eCb, eCall, eSl, oN, oS, eTup, eLst, aN, aC, eLc, eCh, tAn, tOr', tNo, tB', tTr, tYs, iE, iZ, iR1, iR2, sNil, wO_bind, wO_ok, wO_onE, wO_ofif, wO_some, wS_seq, wS_then, wS_nx, wS_rt, cond_true, cond_false, List.append_nil, List.nil_append, List.cons_append, List.getElem?_cons_zero, List.getElem?_cons_succ, List.set_cons_zero, List.set_cons_succ, e4]
      by_cases h4 : (i : Int) = 4
      · have h4' : i = 4 := by omega
        rw [decide_eq_true h4]
        simp only [wipeE, sRet, sExp, sIf, wS_AsgG, gIx, sFor, gN, gT, gC, gZ, eAn, eOr, eNo, eIf, eIsi, eV, eC, eB, eU, eCb, eCall, eSl, oN, oS, eTup, eLst, aN, aC, eLc, eCh, tAn, tOr', tNo, tB', tTr, tYs, iE, iZ, iR1, iR2, sNil, wO_bind, wO_ok, wO_onE, wO_ofif, wO_some, wS_seq, wS_then, wS_nx, wS_rt, cond_true, cond_false, List.append_nil, List.nil_append, List.cons_append, List.getElem?_cons_zero, List.getElem?_cons_succ, List.set_cons_zero, List.set_cons_succ, Oc.on, List.length_cons, List.length_nil, Nat.zero_add, Nat.reduceAdd, z0, z1, z3]
        subst h4'
        exact ⟨trivial, trivial, _, trivial, rfl⟩
      · have h4' : i ≠ 4 := by omega
        rw [decide_eq_false h4]
        simp only [wipeE, sRet, sExp, sIf, wS_AsgG, gIx, sFor, gN, gT, gC, gZ, eAn, eOr, eNo, eIf, eIsi, eV, eC, eB, eU, eCb, eCall, eSl, oN, oS, eTup, eLst, aN, aC, eLc, eCh, tAn, tOr', tNo, tB', tTr, tYs, iE, iZ, iR1, iR2, sNil, wO_bind, wO_ok, wO_onE, wO_ofif, wO_some, wS_seq, wS_then, wS_nx, wS_rt, cond_true, cond_false, List.append_nil, List.nil_append, List.cons_append, List.getElem?_cons_zero, List.getElem?_cons_succ, List.set_cons_zero, List.set_cons_succ, Oc.on, List.length_cons, List.length_nil, Nat.zero_add, Nat.reduceAdd, z0, z1, z3]
        refine ⟨trivial, trivial, some (.int (i : Int)), trivial, ?_⟩
        have : toD (chn (i + 1)) = .tuple [.tuple [], .str "not", .tuple [toD (chn i)]] := by
          simp only [chn, if_neg h4', toD, toDs]; rfl
        rw [this]
    · rintro ρ W ⟨y3, rfl, rfl⟩
      have hl : (rgD 0 9).length = 9 := rfl
      rw [hl, Nat.zero_add]
      simp only [wipeE, sRet, sExp, sIf, wS_AsgG, gIx, sFor, gN, gT, gC, gZ, eAn, eOr, eNo, eIf, eIsi, eV, eC, eB, eU, eCb, eCall, eSl, oN, oS, eTup, eLst, aN, aC, eLc, eCh, tAn, tOr', tNo, tB', tTr, tYs, iE, iZ, iR1, iR2, sNil, wO_bind, wO_ok, wO_onE, wO_ofif, wO_some, wS_seq, wS_then, wS_nx, wS_rt, cond_true, cond_false, List.append_nil, List.nil_append, List.cons_append, List.getElem?_cons_zero, List.getElem?_cons_succ, List.set_cons_zero, List.set_cons_succ, eLstS, Oc.on, List.length_cons, List.length_nil, Nat.zero_add, Nat.reduceAdd, z0, z1, z3, z5, z6]
      exact ⟨trivial, rfl⟩
  obtain ⟨d, W, e, rfl, rfl⟩ := wS_rtE main
  show leave [ob].length (b__law_fixed_trees [none, none, none, none, none, none, none] [ob]) = _
  rw [e]
  have hb : bnd 1 (rf 1) = false := rfl
  simp only [leave, List.length_cons, List.length_nil, Nat.zero_add, hb, Bool.and_false]
  rfl
end Tk

set_option Elab.async false
set_option linter.all false
set_option maxRecDepth 100000
set_option maxHeartbeats 4000000
namespace Tk
open PySem L2 Td Tg Tt
/-! ### the lots -/
theorem wO_leaveD {n : Nat} {o : Os} {x : PyData} (h : wS (fun _ _ => False) (fun d _ => d = x) o) : ∃ wf, leave n o = .ok x wf := by
  obtain ⟨d, W, rfl, rfl⟩ := wS_rtE h
  unfold leave
  dsimp only
  split
  · exact ⟨_, rfl⟩
  · exact ⟨_, rfl⟩
theorem toDs_snoc (L : List Tr) (t : Tr) : toDs L ++ [toD t] = toDs (L ++ [t]) := by rw [toDs_app]; rfl
theorem rt_stmt {N : Ev → Ws → Prop} {R : PyData → Ws → Prop} {ρ : Ev} {ob : Ob} {L : List Tr} {gs : Ws} {n : Nat} (e1 : ρ[1]? = some (some (rf 0))) (e2 : ρ[2]? = some (some (rf 1))) (h : RdOk ob n) (hn : n + 2000 < 1000000) (hg : Pl gs) (hL : L.length ≤ 1000)
    (hN : ∀ ob' t x, Sml t → (∀ k, bndO k x = true) → RdOk ob' (n + 500) → N ρ (ob' :: .lst (toDs (L ++ [t])) :: (gs ++ [x]))) :
    wS N R (sExp (eLm apL (eV 2) (aC (eCall (F__law_random_tree 14) [] (aC (eV 1) (aC (eCall F__law_random_tongue [] (aC (eV 1) aN)) (aC (eLstS (aC (eB addD (eC (.int 1)) (eCall F__law_draw [] (aC (eV 1) (aC (eC (.int 12)) aN)))) aN)) aN)))) aN)) ρ (ob :: .lst (toDs L) :: gs)) := by
  obtain ⟨g, hgd⟩ : ∃ g, g = F__law_random_tree 14 := ⟨_, rfl⟩
  rw [← hgd]
  have g1 : ∀ (ob : Ob) (gs : Ws), (ob :: .lst (toDs L) :: gs)[1]? = some (.lst (toDs L)) := fun _ _ => rfl
  have lo := lst_at (g1 ob gs)
  have pv : Pl (.lst (toDs L) :: gs) := fun x hx => (List.mem_cons.mp hx).elim (fun z => z ▸ lst_bnd L) (hg x)
  have s2 : ∀ W (x y : Int), addD W (.int x) (.int y) = some (.int (x + y)) := fun _ _ _ => rfl
  have z1 : szOk 1 = true := szOk_of (by omega)
  simp only [wipeE, sRet, sExp, sIf, wS_AsgG, gIx, sFor, gN, gT, gC, gZ, eAn, eOr, eNo, eIf, eIsi, eV, eC, eB, eU, eCb, eCall, eSl, oN, oS, eTup, eLst, aN, aC, eLc, eCh, tAn, tOr', tNo, tB', tTr, tYs, iE, iZ, iR1, iR2, sNil, wO_bind, wO_ok, wO_onE, wO_ofif, wO_some, wS_seq, wS_then, wS_nx, wS_rt, cond_true, cond_false, List.append_nil, List.nil_append, List.cons_append, List.getElem?_cons_zero, List.getElem?_cons_succ, List.set_cons_zero, List.set_cons_succ, eLm, e1, e2, lo, Option.isSome_some, Oc.on]
  refine wO_mono (tongue_w (v := .lst (toDs L) :: gs) h pv (by omega)) ?_
  rintro d W ⟨ob1, rfl, b, vs, ws, rfl, hT, h1⟩
  simp only [wipeE, sRet, sExp, sIf, wS_AsgG, gIx, sFor, gN, gT, gC, gZ, eAn, eOr, eNo, eIf, eIsi, eV, eC, eB, eU, eCb, eCall, eSl, oN, oS, eTup, eLst, aN, aC, eLc, eCh, tAn, tOr', tNo, tB', tTr, tYs, iE, iZ, iR1, iR2, sNil, wO_bind, wO_ok, wO_onE, wO_ofif, wO_some, wS_seq, wS_then, wS_nx, wS_rt, cond_true, cond_false, List.append_nil, List.nil_append, List.cons_append, List.getElem?_cons_zero, List.getElem?_cons_succ, List.set_cons_zero, List.set_cons_succ, eLstS, e1, e2]
  refine wO_mono (draw_c (v := .lst (toDs L) :: gs) h1 (by omega) (by omega) (by omega)) ?_
  rintro d W ⟨k, ob2, rfl, hk, rfl, h2⟩
  have rm : ∀ ob : Ob, (ob :: .lst (toDs L) :: gs) ++ [Ob.lst [.int (1 + (k : Int))]] = ob :: ((.lst (toDs L) :: gs) ++ [room (1 + k)]) := fun ob => by
    have : ((1 + k : Nat) : Int) = 1 + (k : Int) := by omega
    simp only [room, this, List.cons_append]
  simp only [wipeE, sRet, sExp, sIf, wS_AsgG, gIx, sFor, gN, gT, gC, gZ, eAn, eOr, eNo, eIf, eIsi, eV, eC, eB, eU, eCb, eCall, eSl, oN, oS, eTup, eLst, aN, aC, eLc, eCh, tAn, tOr', tNo, tB', tTr, tYs, iE, iZ, iR1, iR2, sNil, wO_bind, wO_ok, wO_onE, wO_ofif, wO_some, wS_seq, wS_then, wS_nx, wS_rt, cond_true, cond_false, List.append_nil, List.nil_append, List.cons_append, List.getElem?_cons_zero, List.getElem?_cons_succ, List.set_cons_zero, List.set_cons_succ, s2, Oc.on, List.length_cons, List.length_nil, Nat.zero_add, Nat.reduceAdd, z1]
  have q := rtree_w (b0 := b) hT 14 (ob := ob2) (v := (.lst (toDs L) :: gs) ++ [room (1 + k)]) (n := n + 101) (r := (Ob.lst (toDs L) :: gs).length) (b := 1 + k) h2 (pl_app pv (pl_one (room_bnd _))) (by rw [List.getElem?_append_right (Nat.le_refl _), Nat.sub_self]; rfl) (by omega) (by omega) (by omega) (by omega)
  rw [← hgd, ← rm] at q
  refine ⟨trivial, wO_mono q ?_⟩
  rintro d W ⟨ob3, v3, rfl, t, b', k', rfl, rfl, ht, hk2, hn2, h3⟩
  have st : ((Ob.lst (toDs L) :: gs) ++ [room (1 + k)]).set (Ob.lst (toDs L) :: gs).length (room b') = .lst (toDs L) :: (gs ++ [room b']) := by
    rw [List.set_append_right _ _ (Nat.le_refl _), Nat.sub_self]; rfl
  rw [st]
  have u := upd_at (k := fun xs => apL xs [toD t]) (d := .none) (ys := toDs L ++ [toD t]) (g1 ob3 (gs ++ [room b'])) (by simp only [apL]; rw [if_pos (by rw [sizeLine_eq, toDs_len]; omega)])
  rw [toDs_snoc] at u
  simp only [u, wO_ok]
  exact hN ob3 t (room b') (sml_of ht (by omega)) (room_bnd _) (h3.mono (by omega))
theorem lo_stmt {N : Ev → Ws → Prop} {R : PyData → Ws → Prop} {ρ : Ev} {ob : Ob} {L : List Tr} {gs : Ws} {n : Nat} (e1 : ρ[1]? = some (some (rf 0))) (e2 : ρ[2]? = some (some (rf 1))) (h : RdOk ob n) (hn : n + 2000 < 1000000) (hg : Pl gs) (hL : L.length ≤ 1000)
    (hN : ∀ ob' t x, Sml t → (∀ k, bndO k x = true) → RdOk ob' (n + 500) → N ρ (ob' :: .lst (toDs (L ++ [t])) :: (gs ++ [x]))) :
    wS N R (sExp (eLm apL (eV 2) (aC (eCall (F__law_loose_tree 14) [] (aC (eV 1) (aC (eLstS (aC (eB addD (eC (.int 1)) (eCall F__law_draw [] (aC (eV 1) (aC (eC (.int 12)) aN)))) aN)) aN))) aN)) ρ (ob :: .lst (toDs L) :: gs)) := by
  obtain ⟨g, hgd⟩ : ∃ g, g = F__law_loose_tree 14 := ⟨_, rfl⟩
  rw [← hgd]
  have g1 : ∀ (ob : Ob) (gs : Ws), (ob :: .lst (toDs L) :: gs)[1]? = some (.lst (toDs L)) := fun _ _ => rfl
  have lo := lst_at (g1 ob gs)
  have pv : Pl (.lst (toDs L) :: gs) := fun x hx => (List.mem_cons.mp hx).elim (fun z => z ▸ lst_bnd L) (hg x)
  have s2 : ∀ W (x y : Int), addD W (.int x) (.int y) = some (.int (x + y)) := fun _ _ _ => rfl
  have z1 : szOk 1 = true := szOk_of (by omega)
  simp only [wipeE, sRet, sExp, sIf, wS_AsgG, gIx, sFor, gN, gT, gC, gZ, eAn, eOr, eNo, eIf, eIsi, eV, eC, eB, eU, eCb, eCall, eSl, oN, oS, eTup, eLst, aN, aC, eLc, eCh, tAn, tOr', tNo, tB', tTr, tYs, iE, iZ, iR1, iR2, sNil, wO_bind, wO_ok, wO_onE, wO_ofif, wO_some, wS_seq, wS_then, wS_nx, wS_rt, cond_true, cond_false, List.append_nil, List.nil_append, List.cons_append, List.getElem?_cons_zero, List.getElem?_cons_succ, List.set_cons_zero, List.set_cons_succ, eLm, e1, e2, eLstS, lo, Option.isSome_some, Oc.on]
  refine wO_mono (draw_c (v := .lst (toDs L) :: gs) h (by omega) (by omega) (by omega)) ?_
  rintro d W ⟨k, ob2, rfl, hk, rfl, h2⟩
  have rm : ∀ ob : Ob, (ob :: .lst (toDs L) :: gs) ++ [Ob.lst [.int (1 + (k : Int))]] = ob :: ((.lst (toDs L) :: gs) ++ [room (1 + k)]) := fun ob => by
    have : ((1 + k : Nat) : Int) = 1 + (k : Int) := by omega
    simp only [room, this, List.cons_append]
  simp only [wipeE, sRet, sExp, sIf, wS_AsgG, gIx, sFor, gN, gT, gC, gZ, eAn, eOr, eNo, eIf, eIsi, eV, eC, eB, eU, eCb, eCall, eSl, oN, oS, eTup, eLst, aN, aC, eLc, eCh, tAn, tOr', tNo, tB', tTr, tYs, iE, iZ, iR1, iR2, sNil, wO_bind, wO_ok, wO_onE, wO_ofif, wO_some, wS_seq, wS_then, wS_nx, wS_rt, cond_true, cond_false, List.append_nil, List.nil_append, List.cons_append, List.getElem?_cons_zero, List.getElem?_cons_succ, List.set_cons_zero, List.set_cons_succ, s2, Oc.on, List.length_cons, List.length_nil, Nat.zero_add, Nat.reduceAdd, z1]
  have q := loose_w 14 (ob := ob2) (v := (.lst (toDs L) :: gs) ++ [room (1 + k)]) (n := n + 1) (r := (Ob.lst (toDs L) :: gs).length) (b := 1 + k) h2 (pl_app pv (pl_one (room_bnd _))) (by rw [List.getElem?_append_right (Nat.le_refl _), Nat.sub_self]; rfl) (by omega) (by omega) (by omega) (by omega)
  rw [← hgd, ← rm] at q
  refine wO_mono q ?_
  rintro d W ⟨ob3, v3, rfl, t, b', k', rfl, rfl, ht, hk2, hn2, h3⟩
  have st : ((Ob.lst (toDs L) :: gs) ++ [room (1 + k)]).set (Ob.lst (toDs L) :: gs).length (room b') = .lst (toDs L) :: (gs ++ [room b']) := by
    rw [List.set_append_right _ _ (Nat.le_refl _), Nat.sub_self]; rfl
  rw [st]
  have u := upd_at (k := fun xs => apL xs [toD t]) (d := .none) (ys := toDs L ++ [toD t]) (g1 ob3 (gs ++ [room b'])) (by simp only [apL]; rw [if_pos (by rw [sizeLine_eq, toDs_len]; omega)])
  rw [toDs_snoc] at u
  simp only [u, wO_ok]
  exact hN ob3 t (room b') (sml_of ht (by omega)) (room_bnd _) (h3.mono (by omega))
end Tk

set_option Elab.async false
set_option linter.all false
set_option maxRecDepth 100000
set_option maxHeartbeats 4000000
namespace Tk
open PySem L2 Td Tg Tt
/-! ### the law -/
theorem hdA_bare {t : Tr} {q : List Nat} (h : q ∈ pls [] t) : hdA (bare t) q = hdA t q := by
  obtain ⟨a, e⟩ := Option.isSome_iff_exists.mp ((pls_mem t q).mp h)
  rw [hdA_at e, hdA_at (bare_sub e)]
  cases a; rfl
theorem ndD_bare {t : Tr} : (pls [] (bare t)).map (ndD (bare t)) = (pls [] t).map (ndD t) := by
  rw [pls_bare]
  refine List.map_congr_left fun q hq => ?_
  rw [ndD, ndD, hdA_bare hq]
theorem ok_ndD {t : Tr} (h : VT t) (hn : nds t ≤ 1000) : ∀ d ∈ (pls [] t).map (ndD t), okD d = true ∧ d.depth ≤ 60 := fun d hd => by
  obtain ⟨q, hq, rfl⟩ := List.mem_map.mp hd
  obtain ⟨a, e⟩ := Option.isSome_iff_exists.mp ((pls_mem t q).mp hq)
  have hU : a.hd ∈ HU := by have := h.at_ e; cases a; exact this.2.1
  have h1 := okD_plD (pls_plOk hn hq)
  have h2 := dp_plD q
  rw [ndD, hdA_at e]
  refine ⟨?_, ?_⟩
  · simp only [okD, okDA, h1, HU_ok _ hU, Bool.and_self, Bool.true_and, Bool.and_true]
  · simp only [PyData.depth, PyData.depthAll]; omega
theorem lc_id {g : PyData → PyData} {L : List (List Nat)} {f : List Nat → PyData} {x0 x1 x2 x3 x4 x5 x6 x7 x8 x9 : Option PyData} {w : Ws} (hl : L.length ≤ 1000) :
    lcL (gN 10) tYs (eV 10) [x0, x1, x2, x3, x4, x5, x6, x7, x8, x9, none] (L.map f) w [] = .ok (L.map f) w := by
  rw [lcL_flt f (fun _ => true) f L [] (by simp only [List.length_nil]; omega) fun s hs => ⟨[x0, x1, x2, x3, x4, x5, x6, x7, x8, x9, some (f s)], rfl, rfl, fun _ => rfl⟩]
  rw [List.filter_eq_self.mpr fun _ _ => rfl]
  rfl
theorem lc_fst {t : Tr} {L : List (List Nat)} {x0 x1 x2 x3 x4 x5 x6 x7 x8 x9 : Option PyData} {w : Ws} (hl : L.length ≤ 1000) :
    lcL (gN 10) tYs (eB ixD (eV 10) (eC (.int 0))) [x0, x1, x2, x3, x4, x5, x6, x7, x8, x9, none] (L.map (ndD t)) w [] = .ok (L.map plD) w := by
  rw [lcL_flt (ndD t) (fun _ => true) plD L [] (by simp only [List.length_nil]; omega) fun s hs => ⟨[x0, x1, x2, x3, x4, x5, x6, x7, x8, x9, some (ndD t s)], rfl, rfl, fun _ => rfl⟩]
  rw [List.filter_eq_self.mpr fun _ _ => rfl]
  rfl
theorem jn0 : jn [] = .tuple [] := rfl
theorem foldl_rng : ∀ (L : List Int) (a : Int), 0 ≤ a → a ≤ 1000 → (∀ x ∈ L, 0 ≤ x ∧ x ≤ 1000) → 0 ≤ L.foldl max a ∧ L.foldl max a ≤ 1000
  | [], a, h1, h2, _ => ⟨h1, h2⟩
  | x :: L, a, h1, h2, h => by
    have := h x List.mem_cons_self
    exact foldl_rng L (max a x) (by omega) (by omega) fun y hy => h y (List.mem_cons_of_mem _ hy)
theorem dpt_rng {t : Tr} (hn : nds t ≤ 1000) : 0 ≤ dpt t ∧ dpt t ≤ 1001 := by
  have key : ∀ x ∈ lns (pls [] t), 0 ≤ x ∧ x ≤ 1000 := fun x hx => by
    obtain ⟨q, hq, rfl⟩ := List.mem_map.mp hx
    obtain ⟨a, e⟩ := Option.isSome_iff_exists.mp ((pls_mem t q).mp hq)
    have := len_q e
    omega
  unfold dpt
  cases hL : lns (pls [] t) with
  | nil => exact absurd hL (lns_ne t)
  | cons n ns =>
    rw [hL] at key
    have k0 := key n List.mem_cons_self
    have := foldl_rng ns n k0.1 k0.2 fun y hy => key y (List.mem_cons_of_mem _ hy)
    simp only [mxl]
    omega
theorem rd_ok (ns : List Int) (h : ns.length ≤ 63) : RdOk (rd ns 0 0 0) 0 := ⟨⟨ns, 0, 0, 0, rfl, h, by omega, by omega, by omega, by omega⟩⟩
theorem main (ns : List Int) (h : ns.length ≤ 63) : ∃ wf, F_law [intsD ns] [] = .ok (.bool true) wf := by
  refine wO_leaveD (n := 0) (o := b_law [some (intsD ns), none, none, none, none, none, none, none, none, none, none] []) ?_
  have z0 : szOk 0 = true := szOk_of (by omega)
  have c4 : c62 4 = true := by unfold c62; decide +kernel
  have fx := fixed_ok (rd ns 0 0 0)
  unfold b_law
  simp only [wS_seq]
  simp only [wipeE, sRet, sExp, sIf, wS_AsgG, gIx, sFor, gN, gT, gC, gZ, eAn, eOr, eNo, eIf, eIsi, eV, eC, eB, eU, eCb, eCall, eSl, oN, oS, eTup, eLst, aN, aC, eLc, eCh, tAn, tOr', tNo, tB', tTr, tYs, iE, iZ, iR1, iR2, sNil, wO_bind, wO_ok, wO_onE, wO_ofif, wO_some, wS_seq, wS_then, wS_nx, wS_rt, cond_true, cond_false, List.append_nil, List.nil_append, List.cons_append, List.getElem?_cons_zero, List.getElem?_cons_succ, List.set_cons_zero, List.set_cons_succ, reader_ok ns h, fx, c4, true_and]
  refine wS_forL (fun i ρ W => ∃ (L : List Tr) (ob : Ob) (gs : Ws) (y3 : Option PyData), W = ob :: .lst (toDs L) :: gs ∧ ρ = [some (intsD ns), some (rf 0), some (rf 1), y3, none, none, none, none, none, none, none] ∧ L.length = 5 + 2 * i ∧ (∀ t ∈ L, Sml t) ∧ Pl gs ∧ RdOk ob (1000 * i)) _ 0 _ _ ⟨fixT, rd ns 0 0 0, [], none, rfl, rfl, rfl, fix_sml, fun x hx => (by cases hx), rd_ok ns h⟩ ?_ ?_
  · rintro i d ρ W hj ⟨L, ob, gs, y3, rfl, rfl, hl, hL, hg, h0⟩
    have hi := (List.getElem?_eq_some_iff.mp hj).1
    have hl4 : (rgD 0 4).length = 4 := rfl
    rw [hl4] at hi
    rw [Nat.zero_add] at *
    rw [show gN 3 d [some (intsD ns), some (rf 0), some (rf 1), y3, none, none, none, none, none, none, none] (ob :: .lst (toDs L) :: gs) = .ok [some (intsD ns), some (rf 0), some (rf 1), some d, none, none, none, none, none, none, none] (ob :: .lst (toDs L) :: gs) from rfl, wO_ok]
    refine wS_Seq (rt_stmt rfl rfl h0 (by omega) hg (by omega) fun ob1 t1 x1 ht1 hx1 h1 => ?_)
    refine lo_stmt rfl rfl h1 (by omega) (pl_app hg (pl_one hx1)) (by simp; omega) fun ob2 t2 x2 ht2 hx2 h2 => ?_
    refine ⟨L ++ [t1] ++ [t2], ob2, gs ++ [x1] ++ [x2], some d, rfl, rfl, by simp; omega, fun t ht => ?_, pl_app (pl_app hg (pl_one hx1)) (pl_one hx2), h2.mono (by omega)⟩
    rcases List.mem_append.mp ht with ht | ht
    · rcases List.mem_append.mp ht with ht | ht
      · exact hL t ht
      · rw [List.mem_singleton] at ht; subst ht; exact ht1
    · rw [List.mem_singleton] at ht; subst ht; exact ht2
  · rintro ρ W ⟨L, ob, gs, y3, rfl, rfl, hl, hL, hg, h0⟩
    have hl4 : (rgD 0 4).length = 4 := rfl
    rw [Nat.zero_add, hl4] at hl h0
    have fz : fzD (ob :: .lst (toDs L) :: gs) (rf 1) = some (.list (toDs L), ob :: .dead :: gs) := rfl
    have it : itD (.list (toDs L)) = some (toDs L) := rfl
    simp only [wipeE, sRet, sExp, sIf, wS_AsgG, gIx, sFor, gN, gT, gC, gZ, eAn, eOr, eNo, eIf, eIsi, eV, eC, eB, eU, eCb, eCall, eSl, oN, oS, eTup, eLst, aN, aC, eLc, eCh, tAn, tOr', tNo, tB', tTr, tYs, iE, iZ, iR1, iR2, sNil, wO_bind, wO_ok, wO_onE, wO_ofif, wO_some, wS_seq, wS_then, wS_nx, wS_rt, cond_true, cond_false, List.append_nil, List.nil_append, List.cons_append, List.getElem?_cons_zero, List.getElem?_cons_succ, List.set_cons_zero, List.set_cons_succ, sFz, fz, it]
    obtain ⟨u, hu⟩ : ∃ u, u = Ob.dead :: gs := ⟨_, rfl⟩
    have pu : Pl u := hu ▸ fun x hx => (List.mem_cons.mp hx).elim (fun z => z ▸ fun _ => rfl) (hg x)
    rw [← hu]
    refine wS_forL (fun i ρ W => ∃ (ob : Ob) (y4 y5 y6 y7 y8 y9 : Option PyData), W = ob :: u ∧ ρ = [some (intsD ns), some (rf 0), some (.list (toDs L)), y3, y4, y5, y6, y7, y8, y9, none] ∧ RdOk ob (4000 + 100 * i)) _ 0 _ _ ⟨ob, none, none, none, none, none, none, rfl, rfl, h0.mono (by omega)⟩ ?_ ?_
    · rintro i d ρ W hj ⟨ob1, y4, y5, y6, y7, y8, y9, rfl, rfl, h1⟩
      have hi := (List.getElem?_eq_some_iff.mp hj).1
      rw [toDs_len] at hi
      rw [Nat.zero_add] at *
      obtain ⟨t, ht, rfl⟩ : ∃ t, t ∈ L ∧ d = toD t := by
        rw [toDs_map, List.getElem?_map] at hj
        obtain ⟨t, e, rfl⟩ := Option.map_eq_some_iff.mp hj
        exact ⟨t, List.mem_of_getElem? e, rfl⟩
      have st := hL t ht
      have hnd := st.nd
      have c1 := cl_rd h1 pu
      have p1 := places_of_ok (t := t) c1 (by omega)
      have ln1 : ∀ W L, lenD W [.list L] = some (.int (L.length : Int)) := fun _ _ => rfl
      have ln2 : ∀ W L, lenD W [.tuple L] = some (.int (L.length : Int)) := fun _ _ => rfl
      simp only [wipeE, sRet, sExp, sIf, wS_AsgG, gIx, sFor, gN, gT, gC, gZ, eAn, eOr, eNo, eIf, eIsi, eV, eC, eB, eU, eCb, eCall, eSl, oN, oS, eTup, eLst, aN, aC, eLc, eCh, tAn, tOr', tNo, tB', tTr, tYs, iE, iZ, iR1, iR2, sNil, wO_bind, wO_ok, wO_onE, wO_ofif, wO_some, wS_seq, wS_then, wS_nx, wS_rt, cond_true, cond_false, List.append_nil, List.nil_append, List.cons_append, List.getElem?_cons_zero, List.getElem?_cons_succ, List.set_cons_zero, List.set_cons_succ, sPar, p1, ln1]
      refine wO_mono (draw_c (v := u) h1 (by omega) (by rw [toDs_len]; omega) (by rw [toDs_len]; omega)) ?_
      rintro d W ⟨k, ob2, rfl, hk, rfl, h2⟩
      obtain ⟨x, hx, e⟩ := atL (w := ob2 :: u) (xs := toDs L) (v := (k : Int)) (by omega) hk
      obtain ⟨o, ho, rfl⟩ : ∃ o, o ∈ L ∧ x = toD o := by
        rw [toDs_map] at hx
        obtain ⟨o, ho, rfl⟩ := List.mem_map.mp hx
        exact ⟨o, ho, rfl⟩
      have so := hL o ho
      have c2 := cl_rd h2 pu
      have q1 := places_of_ok (t := t) c2 (by omega)
      have q2 := places_of_ok (t := bare t) c2 (by rw [nds_bare]; omega)
      rw [pls_bare] at q2
      have n1 := nodes_of_ok (t := t) (by omega)
      have n2 := nodes_of_ok (t := bare t) (by rw [nds_bare]; omega)
      rw [ndD_bare] at n2
      have s1 := size_of_ok (t := t) c2 (by omega)
      have d1 := depth_of_ok (t := t) c2 (by omega)
      have b1 := bare_ok (t := t) c2 (by omega)
      have b2 := bare_ok (t := bare t) c2 (by rw [nds_bare]; omega)
      rw [bare_bare] at b2
      have t1 := notes_of_ok (t := bare t) c2 (by rw [nds_bare]; omega) (fun q => st.vt.br.ntl q)
      have r1 := remarks_of_ok (t := bare t) c2 (by rw [nds_bare]; omega) (fun q => st.vt.br.ntl q) (fun x hx => by rw [nts_bare] at hx; cases hx)
      rw [nts_bare] at t1 r1
      have pn := pls_len [] t
      have l1 : ∀ W L, listD W [.tuple L] = some (.list L) := fun _ _ => rfl
      have it1 : ∀ L, itD (.tuple L) = some L := fun _ => rfl
      have okp := ok_pls (L := pls [] t) fun q hq => pls_plOk (by omega) hq
      have e1 := ls_same (ob2 :: u) okp
      have e2 := (tp_same (ob2 :: u) okp).1
      have e3 := int_ne (ob2 :: u) (nds t : Int) (small62 (by omega))
      have e4 := ls_same (ob2 :: u) (ok_ndD st.vt (by omega))
      have e5 := (okD_tr (ob2 :: u) st.vt.br (by rw [hgt_bare]; have := st.ht; omega)).1
      have e6 : neD (ob2 :: u) (.tuple []) (.tuple []) = some (.bool false) := (tp_same (ob2 :: u) (ds := []) (fun d hd => by cases hd)).1
      have lc := lens_lc (i := 5) (ρ := [some (intsD ns), some (rf 0), some (.list (toDs L)), y3, some (toD t), none, some (.tuple ((pls [] t).map plD)), some (toD o), y8, y9, none]) (w := ob2 :: u) (pls [] t) (by omega) (by simp)
      have mx := max_ok (ob2 :: u) (lns_ne t)
      have ad : ∀ W k, addD W (.int 1) (.int k) = some (.int (1 + k)) := fun _ _ => rfl
      have e7 := int_ne (ob2 :: u) (dpt t) (by have := dpt_rng (t := t) (by omega); have : (1001 : Nat) < ten62 := by decide
                                               omega)
      have dp : (1 : Int) + mxl (lns (pls [] t)) = dpt t := rfl
      simp only [wipeE, sRet, sExp, sIf, wS_AsgG, gIx, sFor, gN, gT, gC, gZ, eAn, eOr, eNo, eIf, eIsi, eV, eC, eB, eU, eCb, eCall, eSl, oN, oS, eTup, eLst, aN, aC, eLc, eCh, tAn, tOr', tNo, tB', tTr, tYs, iE, iZ, iR1, iR2, sNil, wO_bind, wO_ok, wO_onE, wO_ofif, wO_some, wS_seq, wS_then, wS_nx, wS_rt, cond_true, cond_false, List.append_nil, List.nil_append, List.cons_append, List.getElem?_cons_zero, List.getElem?_cons_succ, List.set_cons_zero, List.set_cons_succ, e, iGen, n1, n2, e6, e7, Oc.on, List.length_nil, z0, true_and,  lc_fst (t := t) (L := pls [] t) (by omega), lc_id (g := id) (L := pls [] t) (f := ndD t) (by omega), l1, e1, s1, ln2, List.length_map, pn, e3, d1, it1, lc, mx, ad, dp, b1, q2, e2, e4, b2, e5, t1, r1, jn0, List.map_nil, List.filter_nil]
      have tr : ∀ W, truD (.bool true) W = some true := fun _ => rfl
      refine wS_forL (fun j ρ W => ∃ (ob : Ob) (y5 y8 y9 : Option PyData), W = ob :: u ∧ ρ = [some (intsD ns), some (rf 0), some (.list (toDs L)), y3, some (toD t), y5, some (.tuple ((pls [] t).map plD)), some (toD o), y8, y9, none] ∧ RdOk ob (4000 + 100 * i + 1 + 2 * j)) _ 0 _ _ ⟨ob2, y5, y8, y9, rfl, rfl, h2⟩ ?_ ?_
      · rintro j d ρ W hj2 ⟨ob3, y5, y8, y9, rfl, rfl, h3⟩
        have hj3 := (List.getElem?_eq_some_iff.mp hj2).1
        rw [List.length_map, pn] at hj3
        rw [Nat.zero_add] at *
        obtain ⟨q, hq, rfl⟩ : ∃ q, q ∈ pls [] t ∧ d = plD q := by
          rw [List.getElem?_map] at hj2
          obtain ⟨q, e, rfl⟩ := Option.map_eq_some_iff.mp hj2
          exact ⟨q, List.mem_of_getElem? e, rfl⟩
        obtain ⟨a, ea⟩ := Option.isSome_iff_exists.mp ((pls_mem t q).mp hq)
        have c3 := cl_rd h3 pu
        have k1 := check_place_ok c3 st so ea
        have k2 := check_notes_ok c3 st ea
        simp only [wipeE, sRet, sExp, sIf, wS_AsgG, gIx, sFor, gN, gT, gC, gZ, eAn, eOr, eNo, eIf, eIsi, eV, eC, eB, eU, eCb, eCall, eSl, oN, oS, eTup, eLst, aN, aC, eLc, eCh, tAn, tOr', tNo, tB', tTr, tYs, iE, iZ, iR1, iR2, sNil, wO_bind, wO_ok, wO_onE, wO_ofif, wO_some, wS_seq, wS_then, wS_nx, wS_rt, cond_true, cond_false, List.append_nil, List.nil_append, List.cons_append, List.getElem?_cons_zero, List.getElem?_cons_succ, List.set_cons_zero, List.set_cons_succ, sPar, k1, k2, tr, Bool.not_true, ln1, ln2]
        have hln : ((pls [] t).map plD).length = nds t := by rw [List.length_map, pn]
        have hnp : 1 ≤ nds t := by cases t; simp only [nds]; omega
        refine wO_mono (draw_c (v := u) h3 (by omega) (by rw [hln]; omega) (by rw [hln]; omega)) ?_
        rintro d W ⟨k3, ob4, rfl, hk3, rfl, h4⟩
        obtain ⟨x, hx, f0⟩ := atL (w := ob4 :: u) (xs := (pls [] t).map plD) (v := (k3 : Int)) (by omega) hk3
        have f1 : ixD (ob4 :: u) (.tuple ((pls [] t).map plD)) (.int (k3 : Int)) = some x := f0
        obtain ⟨r, hr, rfl⟩ := List.mem_map.mp hx
        obtain ⟨b, eb⟩ := Option.isSome_iff_exists.mp ((pls_mem t r).mp hr)
        simp only [wipeE, sRet, sExp, sIf, wS_AsgG, gIx, sFor, gN, gT, gC, gZ, eAn, eOr, eNo, eIf, eIsi, eV, eC, eB, eU, eCb, eCall, eSl, oN, oS, eTup, eLst, aN, aC, eLc, eCh, tAn, tOr', tNo, tB', tTr, tYs, iE, iZ, iR1, iR2, sNil, wO_bind, wO_ok, wO_onE, wO_ofif, wO_some, wS_seq, wS_then, wS_nx, wS_rt, cond_true, cond_false, List.append_nil, List.nil_append, List.cons_append, List.getElem?_cons_zero, List.getElem?_cons_succ, List.set_cons_zero, List.set_cons_succ, f1, ln1]
        refine wO_mono (draw_c (v := u) h4 (by omega) (by rw [toDs_len]; omega) (by rw [toDs_len]; omega)) ?_
        rintro d W ⟨k4, ob5, rfl, hk4, rfl, h5⟩
        obtain ⟨x, hx, f2⟩ := atL (w := ob5 :: u) (xs := toDs L) (v := (k4 : Int)) (by omega) hk4
        obtain ⟨m, hm, rfl⟩ : ∃ m, m ∈ L ∧ x = toD m := by
          rw [toDs_map] at hx
          obtain ⟨m, hm, rfl⟩ := List.mem_map.mp hx
          exact ⟨m, hm, rfl⟩
        have k5 := check_two_ok (cl_rd h5 pu) st so (hL m hm) ea eb
        simp only [wipeE, sRet, sExp, sIf, wS_AsgG, gIx, sFor, gN, gT, gC, gZ, eAn, eOr, eNo, eIf, eIsi, eV, eC, eB, eU, eCb, eCall, eSl, oN, oS, eTup, eLst, aN, aC, eLc, eCh, tAn, tOr', tNo, tB', tTr, tYs, iE, iZ, iR1, iR2, sNil, wO_bind, wO_ok, wO_onE, wO_ofif, wO_some, wS_seq, wS_then, wS_nx, wS_rt, cond_true, cond_false, List.append_nil, List.nil_append, List.cons_append, List.getElem?_cons_zero, List.getElem?_cons_succ, List.set_cons_zero, List.set_cons_succ, f2, k5, tr, Bool.not_true]
        exact ⟨ob5, _, _, _, rfl, rfl, h5.mono (by omega)⟩
      · rintro ρ W ⟨ob3, y5, y8, y9, rfl, rfl, h3⟩
        rw [List.length_map, pn, Nat.zero_add] at h3
        exact ⟨ob3, _, _, _, _, _, _, rfl, rfl, h3.mono (by omega)⟩
    · rintro ρ W ⟨ob1, y4, y5, y6, y7, y8, y9, rfl, rfl, h1⟩
      simp only [wipeE, sRet, sExp, sIf, wS_AsgG, gIx, sFor, gN, gT, gC, gZ, eAn, eOr, eNo, eIf, eIsi, eV, eC, eB, eU, eCb, eCall, eSl, oN, oS, eTup, eLst, aN, aC, eLc, eCh, tAn, tOr', tNo, tB', tTr, tYs, iE, iZ, iR1, iR2, sNil, wO_bind, wO_ok, wO_onE, wO_ofif, wO_some, wS_seq, wS_then, wS_nx, wS_rt, cond_true, cond_false, List.append_nil, List.nil_append, List.cons_append, List.getElem?_cons_zero, List.getElem?_cons_succ, List.set_cons_zero, List.set_cons_succ]
end Tk

set_option Elab.async false
set_option linter.all false
set_option maxRecDepth 100000
set_option maxHeartbeats 4000000
namespace Tk
open PySem L2 PySem.Spec PyProof.Rows Td
theorem all_mk {l : PySem.W.OpenLaw} {w : World} {K : PySem.W.Frag} {h : Heap} {mg : Str → Option Value} {fa : Addr} (X : K.In h) (G : h.Ns mainGlobals mg) (hfa : mg "law" = some (.ref fa))
    {f0 : Addr} {od0 an0 : Option Addr} {sl0 : Array (Option Value)} {oc0 dc0 pm0 cd0 ct0 : Value}
    {kV0 : Value}
    (a0 : PySem.W.nsIn K mainGlobals "is_integer" = some (some (.ref f0)))
    (l0 : K.lookup f0 = some ⟨oc0, od0, .func (PySem.W.fnOf "is_integer" "is_integer" (defArgs s_is_integer) (defBody s_is_integer) (defScope s_is_integer) .none kV0 dc0 pm0 an0 cd0 ct0), sl0⟩)
    (c0 : PySem.W.codeIn K cd0 "is_integer" = true) (k0 : PySem.W.keepIn K (.ref f0) = true)
    {f1 : Addr} {od1 an1 : Option Addr} {sl1 : Array (Option Value)} {oc1 dc1 pm1 cd1 ct1 : Value}
    {kV1 : Value}
    (a1 : PySem.W.nsIn K mainGlobals "is_number" = some (some (.ref f1)))
    (l1 : K.lookup f1 = some ⟨oc1, od1, .func (PySem.W.fnOf "is_number" "is_number" (defArgs s_is_number) (defBody s_is_number) (defScope s_is_number) .none kV1 dc1 pm1 an1 cd1 ct1), sl1⟩)
    (c1 : PySem.W.codeIn K cd1 "is_number" = true) (k1 : PySem.W.keepIn K (.ref f1) = true)
    {f2 : Addr} {od2 an2 : Option Addr} {sl2 : Array (Option Value)} {oc2 dc2 pm2 cd2 ct2 : Value}
    {kV2 : Value}
    (a2 : PySem.W.nsIn K mainGlobals "is_name" = some (some (.ref f2)))
    (l2 : K.lookup f2 = some ⟨oc2, od2, .func (PySem.W.fnOf "is_name" "is_name" (defArgs s_is_name) (defBody s_is_name) (defScope s_is_name) .none kV2 dc2 pm2 an2 cd2 ct2), sl2⟩)
    (c2 : PySem.W.codeIn K cd2 "is_name" = true) (k2 : PySem.W.keepIn K (.ref f2) = true)
    {f3 : Addr} {od3 an3 : Option Addr} {sl3 : Array (Option Value)} {oc3 dc3 pm3 cd3 ct3 : Value}
    {kV3 : Value}
    (a3 : PySem.W.nsIn K mainGlobals "is_remark" = some (some (.ref f3)))
    (l3 : K.lookup f3 = some ⟨oc3, od3, .func (PySem.W.fnOf "is_remark" "is_remark" (defArgs s_is_remark) (defBody s_is_remark) (defScope s_is_remark) .none kV3 dc3 pm3 an3 cd3 ct3), sl3⟩)
    (c3 : PySem.W.codeIn K cd3 "is_remark" = true) (k3 : PySem.W.keepIn K (.ref f3) = true)
    {f4 : Addr} {od4 an4 : Option Addr} {sl4 : Array (Option Value)} {oc4 dc4 pm4 cd4 ct4 : Value}
    {kV4 : Value}
    (a4 : PySem.W.nsIn K mainGlobals "is_place" = some (some (.ref f4)))
    (l4 : K.lookup f4 = some ⟨oc4, od4, .func (PySem.W.fnOf "is_place" "is_place" (defArgs s_is_place) (defBody s_is_place) (defScope s_is_place) .none kV4 dc4 pm4 an4 cd4 ct4), sl4⟩)
    (c4 : PySem.W.codeIn K cd4 "is_place" = true) (k4 : PySem.W.keepIn K (.ref f4) = true)
    {f5 : Addr} {od5 an5 : Option Addr} {sl5 : Array (Option Value)} {oc5 dc5 pm5 cd5 ct5 : Value}
    {kV5 : Value}
    (a5 : PySem.W.nsIn K mainGlobals "places_below" = some (some (.ref f5)))
    (l5 : K.lookup f5 = some ⟨oc5, od5, .func (PySem.W.fnOf "places_below" "places_below" (defArgs s_places_below) (defBody s_places_below) (defScope s_places_below) .none kV5 dc5 pm5 an5 cd5 ct5), sl5⟩)
    (c5 : PySem.W.codeIn K cd5 "places_below" = true) (k5 : PySem.W.keepIn K (.ref f5) = true)
    {f6 : Addr} {od6 an6 : Option Addr} {sl6 : Array (Option Value)} {oc6 dc6 pm6 cd6 ct6 : Value}
    {kV6 : Value}
    (a6 : PySem.W.nsIn K mainGlobals "nodes_down" = some (some (.ref f6)))
    (l6 : K.lookup f6 = some ⟨oc6, od6, .func (PySem.W.fnOf "nodes_down" "nodes_down" (defArgs s_nodes_down) (defBody s_nodes_down) (defScope s_nodes_down) .none kV6 dc6 pm6 an6 cd6 ct6), sl6⟩)
    (c6 : PySem.W.codeIn K cd6 "nodes_down" = true) (k6 : PySem.W.keepIn K (.ref f6) = true)
    {f7 : Addr} {od7 an7 : Option Addr} {sl7 : Array (Option Value)} {oc7 dc7 pm7 cd7 ct7 : Value}
    {kV7 : Value}
    (a7 : PySem.W.nsIn K mainGlobals "tree_by" = some (some (.ref f7)))
    (l7 : K.lookup f7 = some ⟨oc7, od7, .func (PySem.W.fnOf "tree_by" "tree_by" (defArgs s_tree_by) (defBody s_tree_by) (defScope s_tree_by) .none kV7 dc7 pm7 an7 cd7 ct7), sl7⟩)
    (c7 : PySem.W.codeIn K cd7 "tree_by" = true) (k7 : PySem.W.keepIn K (.ref f7) = true)
    {f8 : Addr} {od8 an8 : Option Addr} {sl8 : Array (Option Value)} {oc8 dc8 pm8 cd8 ct8 : Value}
    {kV8 : Value}
    (a8 : PySem.W.nsIn K mainGlobals "places_of" = some (some (.ref f8)))
    (l8 : K.lookup f8 = some ⟨oc8, od8, .func (PySem.W.fnOf "places_of" "places_of" (defArgs s_places_of) (defBody s_places_of) (defScope s_places_of) .none kV8 dc8 pm8 an8 cd8 ct8), sl8⟩)
    (c8 : PySem.W.codeIn K cd8 "places_of" = true) (k8 : PySem.W.keepIn K (.ref f8) = true)
    {f9 : Addr} {od9 an9 : Option Addr} {sl9 : Array (Option Value)} {oc9 dc9 pm9 cd9 ct9 : Value}
    {kV9 : Value}
    (a9 : PySem.W.nsIn K mainGlobals "has_place" = some (some (.ref f9)))
    (l9 : K.lookup f9 = some ⟨oc9, od9, .func (PySem.W.fnOf "has_place" "has_place" (defArgs s_has_place) (defBody s_has_place) (defScope s_has_place) .none kV9 dc9 pm9 an9 cd9 ct9), sl9⟩)
    (c9 : PySem.W.codeIn K cd9 "has_place" = true) (k9 : PySem.W.keepIn K (.ref f9) = true)
    {f10 : Addr} {od10 an10 : Option Addr} {sl10 : Array (Option Value)} {oc10 dc10 pm10 cd10 ct10 : Value}
    {kV10 : Value}
    (a10 : PySem.W.nsIn K mainGlobals "require_place" = some (some (.ref f10)))
    (l10 : K.lookup f10 = some ⟨oc10, od10, .func (PySem.W.fnOf "require_place" "require_place" (defArgs s_require_place) (defBody s_require_place) (defScope s_require_place) .none kV10 dc10 pm10 an10 cd10 ct10), sl10⟩)
    (c10 : PySem.W.codeIn K cd10 "require_place" = true) (k10 : PySem.W.keepIn K (.ref f10) = true)
    {f11 : Addr} {od11 an11 : Option Addr} {sl11 : Array (Option Value)} {oc11 dc11 pm11 cd11 ct11 : Value}
    {kV11 : Value}
    (a11 : PySem.W.nsIn K mainGlobals "below" = some (some (.ref f11)))
    (l11 : K.lookup f11 = some ⟨oc11, od11, .func (PySem.W.fnOf "below" "below" (defArgs s_below) (defBody s_below) (defScope s_below) .none kV11 dc11 pm11 an11 cd11 ct11), sl11⟩)
    (c11 : PySem.W.codeIn K cd11 "below" = true) (k11 : PySem.W.keepIn K (.ref f11) = true)
    {f12 : Addr} {od12 an12 : Option Addr} {sl12 : Array (Option Value)} {oc12 dc12 pm12 cd12 ct12 : Value}
    {kV12 : Value}
    (a12 : PySem.W.nsIn K mainGlobals "nodes_of" = some (some (.ref f12)))
    (l12 : K.lookup f12 = some ⟨oc12, od12, .func (PySem.W.fnOf "nodes_of" "nodes_of" (defArgs s_nodes_of) (defBody s_nodes_of) (defScope s_nodes_of) .none kV12 dc12 pm12 an12 cd12 ct12), sl12⟩)
    (c12 : PySem.W.codeIn K cd12 "nodes_of" = true) (k12 : PySem.W.keepIn K (.ref f12) = true)
    {f13 : Addr} {od13 an13 : Option Addr} {sl13 : Array (Option Value)} {oc13 dc13 pm13 cd13 ct13 : Value}
    {kV13 : Value}
    (a13 : PySem.W.nsIn K mainGlobals "node_at" = some (some (.ref f13)))
    (l13 : K.lookup f13 = some ⟨oc13, od13, .func (PySem.W.fnOf "node_at" "node_at" (defArgs s_node_at) (defBody s_node_at) (defScope s_node_at) .none kV13 dc13 pm13 an13 cd13 ct13), sl13⟩)
    (c13 : PySem.W.codeIn K cd13 "node_at" = true) (k13 : PySem.W.keepIn K (.ref f13) = true)
    {f14 : Addr} {od14 an14 : Option Addr} {sl14 : Array (Option Value)} {oc14 dc14 pm14 cd14 ct14 : Value}
    {kV14 : Value}
    (a14 : PySem.W.nsIn K mainGlobals "replaced" = some (some (.ref f14)))
    (l14 : K.lookup f14 = some ⟨oc14, od14, .func (PySem.W.fnOf "replaced" "replaced" (defArgs s_replaced) (defBody s_replaced) (defScope s_replaced) .none kV14 dc14 pm14 an14 cd14 ct14), sl14⟩)
    (c14 : PySem.W.codeIn K cd14 "replaced" = true) (k14 : PySem.W.keepIn K (.ref f14) = true)
    {f15 : Addr} {od15 an15 : Option Addr} {sl15 : Array (Option Value)} {oc15 dc15 pm15 cd15 ct15 : Value}
    {kV15 : Value}
    (a15 : PySem.W.nsIn K mainGlobals "with_tree" = some (some (.ref f15)))
    (l15 : K.lookup f15 = some ⟨oc15, od15, .func (PySem.W.fnOf "with_tree" "with_tree" (defArgs s_with_tree) (defBody s_with_tree) (defScope s_with_tree) .none kV15 dc15 pm15 an15 cd15 ct15), sl15⟩)
    (c15 : PySem.W.codeIn K cd15 "with_tree" = true) (k15 : PySem.W.keepIn K (.ref f15) = true)
    {f16 : Addr} {od16 an16 : Option Addr} {sl16 : Array (Option Value)} {oc16 dc16 pm16 cd16 ct16 : Value}
    {kV16 : Value}
    (a16 : PySem.W.nsIn K mainGlobals "joined_notes" = some (some (.ref f16)))
    (l16 : K.lookup f16 = some ⟨oc16, od16, .func (PySem.W.fnOf "joined_notes" "joined_notes" (defArgs s_joined_notes) (defBody s_joined_notes) (defScope s_joined_notes) .none kV16 dc16 pm16 an16 cd16 ct16), sl16⟩)
    (c16 : PySem.W.codeIn K cd16 "joined_notes" = true) (k16 : PySem.W.keepIn K (.ref f16) = true)
    {f17 : Addr} {od17 an17 : Option Addr} {sl17 : Array (Option Value)} {oc17 dc17 pm17 cd17 ct17 : Value}
    {kV17 : Value}
    (a17 : PySem.W.nsIn K mainGlobals "with_notes" = some (some (.ref f17)))
    (l17 : K.lookup f17 = some ⟨oc17, od17, .func (PySem.W.fnOf "with_notes" "with_notes" (defArgs s_with_notes) (defBody s_with_notes) (defScope s_with_notes) .none kV17 dc17 pm17 an17 cd17 ct17), sl17⟩)
    (c17 : PySem.W.codeIn K cd17 "with_notes" = true) (k17 : PySem.W.keepIn K (.ref f17) = true)
    {f18 : Addr} {od18 an18 : Option Addr} {sl18 : Array (Option Value)} {oc18 dc18 pm18 cd18 ct18 : Value}
    {kV18 : Value}
    (a18 : PySem.W.nsIn K mainGlobals "bare" = some (some (.ref f18)))
    (l18 : K.lookup f18 = some ⟨oc18, od18, .func (PySem.W.fnOf "bare" "bare" (defArgs s_bare) (defBody s_bare) (defScope s_bare) .none kV18 dc18 pm18 an18 cd18 ct18), sl18⟩)
    (c18 : PySem.W.codeIn K cd18 "bare" = true) (k18 : PySem.W.keepIn K (.ref f18) = true)
    {f19 : Addr} {od19 an19 : Option Addr} {sl19 : Array (Option Value)} {oc19 dc19 pm19 cd19 ct19 : Value}
    {kV19 : Value}
    (a19 : PySem.W.nsIn K mainGlobals "size_of" = some (some (.ref f19)))
    (l19 : K.lookup f19 = some ⟨oc19, od19, .func (PySem.W.fnOf "size_of" "size_of" (defArgs s_size_of) (defBody s_size_of) (defScope s_size_of) .none kV19 dc19 pm19 an19 cd19 ct19), sl19⟩)
    (c19 : PySem.W.codeIn K cd19 "size_of" = true) (k19 : PySem.W.keepIn K (.ref f19) = true)
    {f20 : Addr} {od20 an20 : Option Addr} {sl20 : Array (Option Value)} {oc20 dc20 pm20 cd20 ct20 : Value}
    {kV20 : Value}
    (a20 : PySem.W.nsIn K mainGlobals "depth_of" = some (some (.ref f20)))
    (l20 : K.lookup f20 = some ⟨oc20, od20, .func (PySem.W.fnOf "depth_of" "depth_of" (defArgs s_depth_of) (defBody s_depth_of) (defScope s_depth_of) .none kV20 dc20 pm20 an20 cd20 ct20), sl20⟩)
    (c20 : PySem.W.codeIn K cd20 "depth_of" = true) (k20 : PySem.W.keepIn K (.ref f20) = true)
    {f21 : Addr} {od21 an21 : Option Addr} {sl21 : Array (Option Value)} {oc21 dc21 pm21 cd21 ct21 : Value}
    {kV21 : Value}
    (a21 : PySem.W.nsIn K mainGlobals "notes_of" = some (some (.ref f21)))
    (l21 : K.lookup f21 = some ⟨oc21, od21, .func (PySem.W.fnOf "notes_of" "notes_of" (defArgs s_notes_of) (defBody s_notes_of) (defScope s_notes_of) .none kV21 dc21 pm21 an21 cd21 ct21), sl21⟩)
    (c21 : PySem.W.codeIn K cd21 "notes_of" = true) (k21 : PySem.W.keepIn K (.ref f21) = true)
    {f22 : Addr} {od22 an22 : Option Addr} {sl22 : Array (Option Value)} {oc22 dc22 pm22 cd22 ct22 : Value}
    {kV22 : Value}
    (a22 : PySem.W.nsIn K mainGlobals "remarks_of" = some (some (.ref f22)))
    (l22 : K.lookup f22 = some ⟨oc22, od22, .func (PySem.W.fnOf "remarks_of" "remarks_of" (defArgs s_remarks_of) (defBody s_remarks_of) (defScope s_remarks_of) .none kV22 dc22 pm22 an22 cd22 ct22), sl22⟩)
    (c22 : PySem.W.codeIn K cd22 "remarks_of" = true) (k22 : PySem.W.keepIn K (.ref f22) = true)
    {f23 : Addr} {od23 an23 : Option Addr} {sl23 : Array (Option Value)} {oc23 dc23 pm23 cd23 ct23 : Value}
    {kV23 : Value}
    (a23 : PySem.W.nsIn K mainGlobals "_law_reader" = some (some (.ref f23)))
    (l23 : K.lookup f23 = some ⟨oc23, od23, .func (PySem.W.fnOf "_law_reader" "_law_reader" (defArgs s__law_reader) (defBody s__law_reader) (defScope s__law_reader) .none kV23 dc23 pm23 an23 cd23 ct23), sl23⟩)
    (c23 : PySem.W.codeIn K cd23 "_law_reader" = true) (k23 : PySem.W.keepIn K (.ref f23) = true)
    {f24 : Addr} {od24 an24 : Option Addr} {sl24 : Array (Option Value)} {oc24 dc24 pm24 cd24 ct24 : Value}
    {kV24 : Value}
    (a24 : PySem.W.nsIn K mainGlobals "_law_draw" = some (some (.ref f24)))
    (l24 : K.lookup f24 = some ⟨oc24, od24, .func (PySem.W.fnOf "_law_draw" "_law_draw" (defArgs s__law_draw) (defBody s__law_draw) (defScope s__law_draw) .none kV24 dc24 pm24 an24 cd24 ct24), sl24⟩)
    (c24 : PySem.W.codeIn K cd24 "_law_draw" = true) (k24 : PySem.W.keepIn K (.ref f24) = true)
    {f25 : Addr} {od25 an25 : Option Addr} {sl25 : Array (Option Value)} {oc25 dc25 pm25 cd25 ct25 : Value}
    {kV25 : Value}
    (a25 : PySem.W.nsIn K mainGlobals "_law_some" = some (some (.ref f25)))
    (l25 : K.lookup f25 = some ⟨oc25, od25, .func (PySem.W.fnOf "_law_some" "_law_some" (defArgs s__law_some) (defBody s__law_some) (defScope s__law_some) .none kV25 dc25 pm25 an25 cd25 ct25), sl25⟩)
    (c25 : PySem.W.codeIn K cd25 "_law_some" = true) (k25 : PySem.W.keepIn K (.ref f25) = true)
    {f26 : Addr} {od26 an26 : Option Addr} {sl26 : Array (Option Value)} {oc26 dc26 pm26 cd26 ct26 : Value}
    {kV26 : Value}
    (a26 : PySem.W.nsIn K mainGlobals "_law_power" = some (some (.ref f26)))
    (l26 : K.lookup f26 = some ⟨oc26, od26, .func (PySem.W.fnOf "_law_power" "_law_power" (defArgs s__law_power) (defBody s__law_power) (defScope s__law_power) .none kV26 dc26 pm26 an26 cd26 ct26), sl26⟩)
    (c26 : PySem.W.codeIn K cd26 "_law_power" = true) (k26 : PySem.W.keepIn K (.ref f26) = true)
    {f27 : Addr} {od27 an27 : Option Addr} {sl27 : Array (Option Value)} {oc27 dc27 pm27 cd27 ct27 : Value}
    {kV27 : Value}
    (a27 : PySem.W.nsIn K mainGlobals "_law_random_tongue" = some (some (.ref f27)))
    (l27 : K.lookup f27 = some ⟨oc27, od27, .func (PySem.W.fnOf "_law_random_tongue" "_law_random_tongue" (defArgs s__law_random_tongue) (defBody s__law_random_tongue) (defScope s__law_random_tongue) .none kV27 dc27 pm27 an27 cd27 ct27), sl27⟩)
    (c27 : PySem.W.codeIn K cd27 "_law_random_tongue" = true) (k27 : PySem.W.keepIn K (.ref f27) = true)
    {f28 : Addr} {od28 an28 : Option Addr} {sl28 : Array (Option Value)} {oc28 dc28 pm28 cd28 ct28 : Value}
    {kV28 : Value}
    (a28 : PySem.W.nsIn K mainGlobals "_law_random_notes" = some (some (.ref f28)))
    (l28 : K.lookup f28 = some ⟨oc28, od28, .func (PySem.W.fnOf "_law_random_notes" "_law_random_notes" (defArgs s__law_random_notes) (defBody s__law_random_notes) (defScope s__law_random_notes) .none kV28 dc28 pm28 an28 cd28 ct28), sl28⟩)
    (c28 : PySem.W.codeIn K cd28 "_law_random_notes" = true) (k28 : PySem.W.keepIn K (.ref f28) = true)
    {f29 : Addr} {od29 an29 : Option Addr} {sl29 : Array (Option Value)} {oc29 dc29 pm29 cd29 ct29 : Value}
    {kV29 : Value}
    (a29 : PySem.W.nsIn K mainGlobals "_law_random_tree" = some (some (.ref f29)))
    (l29 : K.lookup f29 = some ⟨oc29, od29, .func (PySem.W.fnOf "_law_random_tree" "_law_random_tree" (defArgs s__law_random_tree) (defBody s__law_random_tree) (defScope s__law_random_tree) .none kV29 dc29 pm29 an29 cd29 ct29), sl29⟩)
    (c29 : PySem.W.codeIn K cd29 "_law_random_tree" = true) (k29 : PySem.W.keepIn K (.ref f29) = true)
    {f30 : Addr} {od30 an30 : Option Addr} {sl30 : Array (Option Value)} {oc30 dc30 pm30 cd30 ct30 : Value}
    {kV30 : Value}
    (a30 : PySem.W.nsIn K mainGlobals "_law_loose_tree" = some (some (.ref f30)))
    (l30 : K.lookup f30 = some ⟨oc30, od30, .func (PySem.W.fnOf "_law_loose_tree" "_law_loose_tree" (defArgs s__law_loose_tree) (defBody s__law_loose_tree) (defScope s__law_loose_tree) .none kV30 dc30 pm30 an30 cd30 ct30), sl30⟩)
    (c30 : PySem.W.codeIn K cd30 "_law_loose_tree" = true) (k30 : PySem.W.keepIn K (.ref f30) = true)
    {f31 : Addr} {od31 an31 : Option Addr} {sl31 : Array (Option Value)} {oc31 dc31 pm31 cd31 ct31 : Value}
    {kV31 : Value}
    (a31 : PySem.W.nsIn K mainGlobals "_law_fixed_trees" = some (some (.ref f31)))
    (l31 : K.lookup f31 = some ⟨oc31, od31, .func (PySem.W.fnOf "_law_fixed_trees" "_law_fixed_trees" (defArgs s__law_fixed_trees) (defBody s__law_fixed_trees) (defScope s__law_fixed_trees) .none kV31 dc31 pm31 an31 cd31 ct31), sl31⟩)
    (c31 : PySem.W.codeIn K cd31 "_law_fixed_trees" = true) (k31 : PySem.W.keepIn K (.ref f31) = true)
    {f32 : Addr} {od32 an32 : Option Addr} {sl32 : Array (Option Value)} {oc32 dc32 pm32 cd32 ct32 : Value}
    {kV32 : Value}
    (a32 : PySem.W.nsIn K mainGlobals "_law_check_place" = some (some (.ref f32)))
    (l32 : K.lookup f32 = some ⟨oc32, od32, .func (PySem.W.fnOf "_law_check_place" "_law_check_place" (defArgs s__law_check_place) (defBody s__law_check_place) (defScope s__law_check_place) .none kV32 dc32 pm32 an32 cd32 ct32), sl32⟩)
    (c32 : PySem.W.codeIn K cd32 "_law_check_place" = true) (k32 : PySem.W.keepIn K (.ref f32) = true)
    {f33 : Addr} {od33 an33 : Option Addr} {sl33 : Array (Option Value)} {oc33 dc33 pm33 cd33 ct33 : Value}
    {kV33 : Value}
    (a33 : PySem.W.nsIn K mainGlobals "_law_check_notes" = some (some (.ref f33)))
    (l33 : K.lookup f33 = some ⟨oc33, od33, .func (PySem.W.fnOf "_law_check_notes" "_law_check_notes" (defArgs s__law_check_notes) (defBody s__law_check_notes) (defScope s__law_check_notes) .none kV33 dc33 pm33 an33 cd33 ct33), sl33⟩)
    (c33 : PySem.W.codeIn K cd33 "_law_check_notes" = true) (k33 : PySem.W.keepIn K (.ref f33) = true)
    {f34 : Addr} {od34 an34 : Option Addr} {sl34 : Array (Option Value)} {oc34 dc34 pm34 cd34 ct34 : Value}
    {kV34 : Value}
    (a34 : PySem.W.nsIn K mainGlobals "_law_check_two" = some (some (.ref f34)))
    (l34 : K.lookup f34 = some ⟨oc34, od34, .func (PySem.W.fnOf "_law_check_two" "_law_check_two" (defArgs s__law_check_two) (defBody s__law_check_two) (defScope s__law_check_two) .none kV34 dc34 pm34 an34 cd34 ct34), sl34⟩)
    (c34 : PySem.W.codeIn K cd34 "_law_check_two" = true) (k34 : PySem.W.keepIn K (.ref f34) = true)
    {f35 : Addr} {od35 an35 : Option Addr} {sl35 : Array (Option Value)} {oc35 dc35 pm35 cd35 ct35 : Value}
    {kV35 : Value}
    (a35 : PySem.W.nsIn K mainGlobals "law" = some (some (.ref f35)))
    (l35 : K.lookup f35 = some ⟨oc35, od35, .func (PySem.W.fnOf "law" "law" (defArgs s_law) (defBody s_law) (defScope s_law) .none kV35 dc35 pm35 an35 cd35 ct35), sl35⟩)
    (c35 : PySem.W.codeIn K cd35 "law" = true) (k35 : PySem.W.keepIn K (.ref f35) = true)
    (z_all : PySem.W.nsIn K mainGlobals "all" = some none)
    (z_bool : PySem.W.nsIn K mainGlobals "bool" = some none)
    (z_int : PySem.W.nsIn K mainGlobals "int" = some none)
    (z_isinstance : PySem.W.nsIn K mainGlobals "isinstance" = some none)
    (z_len : PySem.W.nsIn K mainGlobals "len" = some none)
    (z_list : PySem.W.nsIn K mainGlobals "list" = some none)
    (z_max : PySem.W.nsIn K mainGlobals "max" = some none)
    (z_min : PySem.W.nsIn K mainGlobals "min" = some none)
    (z_range : PySem.W.nsIn K mainGlobals "range" = some none)
    (z_set : PySem.W.nsIn K mainGlobals "set" = some none)
    (z_sorted : PySem.W.nsIn K mainGlobals "sorted" = some none)
    (z_str : PySem.W.nsIn K mainGlobals "str" = some none)
    (z_tuple : PySem.W.nsIn K mainGlobals "tuple" = some none)
    {t_LETTERS : Tok} (y_LETTERS : PySem.W.nsIn K mainGlobals "LETTERS" = some (some (.str "abcdefghijklmnopqrstuvwxyz" t_LETTERS)))
    {t_LONGEST_NAME : Tok} (y_LONGEST_NAME : PySem.W.nsIn K mainGlobals "LONGEST_NAME" = some (some (.int 8 t_LONGEST_NAME)))
    : ∃ fd : FuncData, (∀ (s : Shared) (v : Value), BindsTo s fd ⟨[v], []⟩ [("_law_script", v)]) ∧ ∀ base : Heap, K.In base → base.Ns mainGlobals mg → FnG l.prog w K mg base 18 fa fd ["_law_script"] F_law := by
  have e := hfa.symm.trans (PySem.W.mg_of X G a35)
  cases e
  have main : ∀ T : Tx K mg, T.d_law.f = fa → T.d_law.fd = PySem.W.fnOf "law" "law" (defArgs s_law) (defBody s_law) (defScope s_law) .none kV35 dc35 pm35 an35 cd35 ct35 → ∃ fd : FuncData, (∀ (s : Shared) (v : Value), BindsTo s fd ⟨[v], []⟩ [("_law_script", v)]) ∧ ∀ base : Heap, K.In base → base.Ns mainGlobals mg → FnG l.prog w K mg base 18 fa fd ["_law_script"] F_law := by
    intro T e1 e2
    refine ⟨T.d_law.fd, fun s v => ?_, fun base _ _ => ?_⟩
    · rw [e2]; exact .of_eq rfl
    · rw [← e1]; exact (G_law T).fn
  exact main {
    d_is_integer := defAt_mk X G a0 l0 c0 k0 fun _ _ _ _ _ _ us hl => match us, hl with | [_], _ => rfl
    d_is_number := defAt_mk X G a1 l1 c1 k1 fun _ _ _ _ _ _ us hl => match us, hl with | [_], _ => rfl
    d_is_name := defAt_mk X G a2 l2 c2 k2 fun _ _ _ _ _ _ us hl => match us, hl with | [_], _ => rfl
    d_is_remark := defAt_mk X G a3 l3 c3 k3 fun _ _ _ _ _ _ us hl => match us, hl with | [_], _ => rfl
    d_is_place := defAt_mk X G a4 l4 c4 k4 fun _ _ _ _ _ _ us hl => match us, hl with | [_], _ => rfl
    d_places_below := defAt_mk X G a5 l5 c5 k5 fun _ _ _ _ _ _ us hl => match us, hl with | [_, _], _ => rfl
    d_nodes_down := defAt_mk X G a6 l6 c6 k6 fun _ _ _ _ _ _ us hl => match us, hl with | [_], _ => rfl
    d_tree_by := defAt_mk X G a7 l7 c7 k7 fun _ _ _ _ _ _ us hl => match us, hl with | [_, _], _ => rfl
    d_places_of := defAt_mk X G a8 l8 c8 k8 fun _ _ _ _ _ _ us hl => match us, hl with | [_], _ => rfl
    d_has_place := defAt_mk X G a9 l9 c9 k9 fun _ _ _ _ _ _ us hl => match us, hl with | [_, _], _ => rfl
    d_require_place := defAt_mk X G a10 l10 c10 k10 fun _ _ _ _ _ _ us hl => match us, hl with | [_, _], _ => rfl
    d_below := defAt_mk X G a11 l11 c11 k11 fun _ _ _ _ _ _ us hl => match us, hl with | [_, _], _ => rfl
    d_nodes_of := defAt_mk X G a12 l12 c12 k12 fun _ _ _ _ _ _ us hl => match us, hl with | [_], _ => rfl
    d_node_at := defAt_mk X G a13 l13 c13 k13 fun _ _ _ _ _ _ us hl => match us, hl with | [_, _], _ => rfl
    d_replaced := defAt_mk X G a14 l14 c14 k14 fun _ _ _ _ _ _ us hl => match us, hl with | [_, _, _], _ => rfl
    d_with_tree := defAt_mk X G a15 l15 c15 k15 fun _ _ _ _ _ _ us hl => match us, hl with | [_, _, _], _ => rfl
    d_joined_notes := ⟨f16, _, fun_mk l16 c16 k16, PySem.W.mg_of X G a16, fun us h => match us, h with | [], _ => rfl | [_], _ => rfl | [_, _], _ => rfl | [_, _, _], _ => rfl | [_, _, _, _], _ => rfl | [_, _, _, _, _], _ => rfl | _ :: _ :: _ :: _ :: _ :: _ :: r, h => absurd h (by simp only [List.length_cons]; omega)⟩
    d_with_notes := defAt_mk X G a17 l17 c17 k17 fun _ _ _ _ _ _ us hl => match us, hl with | [_, _, _], _ => rfl
    d_bare := defAt_mk X G a18 l18 c18 k18 fun _ _ _ _ _ _ us hl => match us, hl with | [_], _ => rfl
    d_size_of := defAt_mk X G a19 l19 c19 k19 fun _ _ _ _ _ _ us hl => match us, hl with | [_], _ => rfl
    d_depth_of := defAt_mk X G a20 l20 c20 k20 fun _ _ _ _ _ _ us hl => match us, hl with | [_], _ => rfl
    d_notes_of := defAt_mk X G a21 l21 c21 k21 fun _ _ _ _ _ _ us hl => match us, hl with | [_], _ => rfl
    d_remarks_of := defAt_mk X G a22 l22 c22 k22 fun _ _ _ _ _ _ us hl => match us, hl with | [_], _ => rfl
    d__law_reader := defAt_mk X G a23 l23 c23 k23 fun _ _ _ _ _ _ us hl => match us, hl with | [_], _ => rfl
    d__law_draw := defAt_mk X G a24 l24 c24 k24 fun _ _ _ _ _ _ us hl => match us, hl with | [_, _], _ => rfl
    d__law_some := defAt_mk X G a25 l25 c25 k25 fun _ _ _ _ _ _ us hl => match us, hl with | [_, _, _, _], _ => rfl
    d__law_power := defAt_mk X G a26 l26 c26 k26 fun _ _ _ _ _ _ us hl => match us, hl with | [_, _], _ => rfl
    d__law_random_tongue := defAt_mk X G a27 l27 c27 k27 fun _ _ _ _ _ _ us hl => match us, hl with | [_], _ => rfl
    d__law_random_notes := defAt_mk X G a28 l28 c28 k28 fun _ _ _ _ _ _ us hl => match us, hl with | [_], _ => rfl
    d__law_random_tree := defAt_mk X G a29 l29 c29 k29 fun _ _ _ _ _ _ us hl => match us, hl with | [_, _, _], _ => rfl
    d__law_loose_tree := defAt_mk X G a30 l30 c30 k30 fun _ _ _ _ _ _ us hl => match us, hl with | [_, _], _ => rfl
    d__law_fixed_trees := defAt_mk X G a31 l31 c31 k31 fun _ _ _ _ _ _ us hl => match us, hl with | [], _ => rfl
    d__law_check_place := defAt_mk X G a32 l32 c32 k32 fun _ _ _ _ _ _ us hl => match us, hl with | [_, _, _], _ => rfl
    d__law_check_notes := defAt_mk X G a33 l33 c33 k33 fun _ _ _ _ _ _ us hl => match us, hl with | [_, _], _ => rfl
    d__law_check_two := defAt_mk X G a34 l34 c34 k34 fun _ _ _ _ _ _ us hl => match us, hl with | [_, _, _, _, _], _ => rfl
    d_law := defAt_mk X G a35 l35 c35 k35 fun _ _ _ _ _ _ us hl => match us, hl with | [_], _ => rfl
    b_all := PySem.W.mg_none_of X G z_all
    b_bool := PySem.W.mg_none_of X G z_bool
    b_int := PySem.W.mg_none_of X G z_int
    b_isinstance := PySem.W.mg_none_of X G z_isinstance
    b_len := PySem.W.mg_none_of X G z_len
    b_list := PySem.W.mg_none_of X G z_list
    b_max := PySem.W.mg_none_of X G z_max
    b_min := PySem.W.mg_none_of X G z_min
    b_range := PySem.W.mg_none_of X G z_range
    b_set := PySem.W.mg_none_of X G z_set
    b_sorted := PySem.W.mg_none_of X G z_sorted
    b_str := PySem.W.mg_none_of X G z_str
    b_tuple := PySem.W.mg_none_of X G z_tuple
    c_LETTERS := ⟨_, PySem.W.mg_of X G y_LETTERS⟩
    c_LONGEST_NAME := ⟨_, PySem.W.mg_of X G y_LONGEST_NAME⟩
  } rfl rfl
end Tk
open PySem PySem.W PyProof.Rows
set_option maxRecDepth 100000 in
set_option maxHeartbeats 0 in
theorem PySem.Challenge.cw_tidyrules_k06_whole_trees_and_places_holds : PySem.Challenge.rw_tidyrules_k06_whole_trees_and_places.Holds := by
  w_on; o_law; k_head; (case hw => w_witness2)
  k_fill
  refine Td.walkG (l := PySem.Challenge.rw_tidyrules_k06_whole_trees_and_places) (n := 63) (k := 18) (x := "_law_script") (gf := Tk.F_law) rfl (by decide) rfl ⟨rfl, by decide, by decide⟩ (fun w h Y => PySem.W.kIn_of Y) ?F Tk.main
  case F =>
    intro w mg fa h KX G hmg
    refine' Tk.all_mk KX G hmg ?a0 ?l0 ?c0 ?k0 ?a1 ?l1 ?c1 ?k1 ?a2 ?l2 ?c2 ?k2 ?a3 ?l3 ?c3 ?k3 ?a4 ?l4 ?c4 ?k4 ?a5 ?l5 ?c5 ?k5 ?a6 ?l6 ?c6 ?k6 ?a7 ?l7 ?c7 ?k7 ?a8 ?l8 ?c8 ?k8 ?a9 ?l9 ?c9 ?k9 ?a10 ?l10 ?c10 ?k10 ?a11 ?l11 ?c11 ?k11 ?a12 ?l12 ?c12 ?k12 ?a13 ?l13 ?c13 ?k13 ?a14 ?l14 ?c14 ?k14 ?a15 ?l15 ?c15 ?k15 ?a16 ?l16 ?c16 ?k16 ?a17 ?l17 ?c17 ?k17 ?a18 ?l18 ?c18 ?k18 ?a19 ?l19 ?c19 ?k19 ?a20 ?l20 ?c20 ?k20 ?a21 ?l21 ?c21 ?k21 ?a22 ?l22 ?c22 ?k22 ?a23 ?l23 ?c23 ?k23 ?a24 ?l24 ?c24 ?k24 ?a25 ?l25 ?c25 ?k25 ?a26 ?l26 ?c26 ?k26 ?a27 ?l27 ?c27 ?k27 ?a28 ?l28 ?c28 ?k28 ?a29 ?l29 ?c29 ?k29 ?a30 ?l30 ?c30 ?k30 ?a31 ?l31 ?c31 ?k31 ?a32 ?l32 ?c32 ?k32 ?a33 ?l33 ?c33 ?k33 ?a34 ?l34 ?c34 ?k34 ?a35 ?l35 ?c35 ?k35 ?z_all ?z_bool ?z_int ?z_isinstance ?z_len ?z_list ?z_max ?z_min ?z_range ?z_set ?z_sorted ?z_str ?z_tuple ?y_LETTERS ?y_LONGEST_NAME
    (case a0 => k_is)
    (case l0 => k_is)
    (case c0 => k_is)
    (case k0 => k_is)
    (case a1 => k_is)
    (case l1 => k_is)
    (case c1 => k_is)
    (case k1 => k_is)
    (case a2 => k_is)
    (case l2 => k_is)
    (case c2 => k_is)
    (case k2 => k_is)
    (case a3 => k_is)
    (case l3 => k_is)
    (case c3 => k_is)
    (case k3 => k_is)
    (case a4 => k_is)
    (case l4 => k_is)
    (case c4 => k_is)
    (case k4 => k_is)
    (case a5 => k_is)
    (case l5 => k_is)
    (case c5 => k_is)
    (case k5 => k_is)
    (case a6 => k_is)
    (case l6 => k_is)
    (case c6 => k_is)
    (case k6 => k_is)
    (case a7 => k_is)
    (case l7 => k_is)
    (case c7 => k_is)
    (case k7 => k_is)
    (case a8 => k_is)
    (case l8 => k_is)
    (case c8 => k_is)
    (case k8 => k_is)
    (case a9 => k_is)
    (case l9 => k_is)
    (case c9 => k_is)
    (case k9 => k_is)
    (case a10 => k_is)
    (case l10 => k_is)
    (case c10 => k_is)
    (case k10 => k_is)
    (case a11 => k_is)
    (case l11 => k_is)
    (case c11 => k_is)
    (case k11 => k_is)
    (case a12 => k_is)
    (case l12 => k_is)
    (case c12 => k_is)
    (case k12 => k_is)
    (case a13 => k_is)
    (case l13 => k_is)
    (case c13 => k_is)
    (case k13 => k_is)
    (case a14 => k_is)
    (case l14 => k_is)
    (case c14 => k_is)
    (case k14 => k_is)
    (case a15 => k_is)
    (case l15 => k_is)
    (case c15 => k_is)
    (case k15 => k_is)
    (case a16 => k_is)
    (case l16 => k_is)
    (case c16 => k_is)
    (case k16 => k_is)
    (case a17 => k_is)
    (case l17 => k_is)
    (case c17 => k_is)
    (case k17 => k_is)
    (case a18 => k_is)
    (case l18 => k_is)
    (case c18 => k_is)
    (case k18 => k_is)
    (case a19 => k_is)
    (case l19 => k_is)
    (case c19 => k_is)
    (case k19 => k_is)
    (case a20 => k_is)
    (case l20 => k_is)
    (case c20 => k_is)
    (case k20 => k_is)
    (case a21 => k_is)
    (case l21 => k_is)
    (case c21 => k_is)
    (case k21 => k_is)
    (case a22 => k_is)
    (case l22 => k_is)
    (case c22 => k_is)
    (case k22 => k_is)
    (case a23 => k_is)
    (case l23 => k_is)
    (case c23 => k_is)
    (case k23 => k_is)
    (case a24 => k_is)
    (case l24 => k_is)
    (case c24 => k_is)
    (case k24 => k_is)
    (case a25 => k_is)
    (case l25 => k_is)
    (case c25 => k_is)
    (case k25 => k_is)
    (case a26 => k_is)
    (case l26 => k_is)
    (case c26 => k_is)
    (case k26 => k_is)
    (case a27 => k_is)
    (case l27 => k_is)
    (case c27 => k_is)
    (case k27 => k_is)
    (case a28 => k_is)
    (case l28 => k_is)
    (case c28 => k_is)
    (case k28 => k_is)
    (case a29 => k_is)
    (case l29 => k_is)
    (case c29 => k_is)
    (case k29 => k_is)
    (case a30 => k_is)
    (case l30 => k_is)
    (case c30 => k_is)
    (case k30 => k_is)
    (case a31 => k_is)
    (case l31 => k_is)
    (case c31 => k_is)
    (case k31 => k_is)
    (case a32 => k_is)
    (case l32 => k_is)
    (case c32 => k_is)
    (case k32 => k_is)
    (case a33 => k_is)
    (case l33 => k_is)
    (case c33 => k_is)
    (case k33 => k_is)
    (case a34 => k_is)
    (case l34 => k_is)
    (case c34 => k_is)
    (case k34 => k_is)
    (case a35 => k_is)
    (case l35 => k_is)
    (case c35 => k_is)
    (case k35 => k_is)
    (case z_all => k_is)
    (case z_bool => k_is)
    (case z_int => k_is)
    (case z_isinstance => k_is)
    (case z_len => k_is)
    (case z_list => k_is)
    (case z_max => k_is)
    (case z_min => k_is)
    (case z_range => k_is)
    (case z_set => k_is)
    (case z_sorted => k_is)
    (case z_str => k_is)
    (case z_tuple => k_is)
    (case y_LETTERS => k_is)
    (case y_LONGEST_NAME => k_is)

