import PyProof.Rows.All
import Wide.All
import OpenK.AllK
import Wide.FinOn
import HandS.ForMost
import HandS.ForExc
import HandS.Lambda
import HandS.ExcCtx
import HandS.TupAny
import HandS.TupMul
import HandS.Deep
import HandS.IsInst
import HandS.Walk
import HandS.Zip
import HandS.SetFor
import PyProof.Rows.SortStr
import PyProof.Rows.SortShellAny
import HandS.Strs
import HandS.Style
import PyProof.NeKinds
import HandS.FStr
import HandS.RaiseMore
import HandS.Defaults
import HandS.MakeKwOnly
import PyProof.Draws
import PyProof.EnumMake
import PyProof.Rows.ListMulArg
import KE.GoesMore
import HandS.Iter
import HandS.Star
import HandS.SetKeys
import HandS.More
import PyProof.AutoSeq1
import HandS.GenList
import HandS.SetBool
import HandS.List
import HandS.Nested
import HandS.ExcInit
import HandS.ExcSuper
import KE.KExcSuper
import KE.KSuper
import HandS.HotCalls
import KE.KExcIs
import HandS.ExcField
import HandS.ExcIs
import HandS.Steps
import KE.KDictOf
import HandS.DictComp
import PyProof.ListStr
import KE.KDictPairs
import KE.SortData
import KE.KDictZip
import HandS.TupSets
import HandS.GenYield
import HandS.Zip0
import PySem.Challenge.RW_tidyrules_k07_values_told
set_option Elab.async false
set_option linter.all false
set_option maxRecDepth 100000
set_option maxHeartbeats 4000000
/-! Td: readings as functions over data (PyData) and a store of objects that change. -/
namespace Td
open PySem L2

/-- the store's object l, as a datum -/
noncomputable abbrev rf (l : Nat) : PyData := .dict [(.int (l : Int), .none)]

/-- the table of a code object in K -/
noncomputable def tabAt (K : PySem.W.Frag) (c : Addr) : Option Addr := match K.lookup c with
  | some o => (match o.data with
    | .fields vs => (match vs[11]? with
      | some v => (match v with
        | PySem.Value.ref P => some P
        | _ => none)
      | none => none)
    | _ => none)
  | none => none
/-- does an expression hold a lambda, among those that the layer asks for tables -/
noncomputable def hasLam : Nat → Expr → Bool
  | 0, _ => false
  | n + 1, e => match e with
    | .Lambda _ _ _ _ => true
    | .BoolOp _ vs _ => vs.any (hasLam n)
    | .BinOp a _ b _ => hasLam n a || hasLam n b
    | .UnaryOp _ a _ => hasLam n a
    | .IfExp a b c _ => hasLam n a || hasLam n b || hasLam n c
    | .Compare a _ bs _ => hasLam n a || bs.any (hasLam n)
    | .Call f xs _ _ => hasLam n f || xs.any (hasLam n)
    | .Subscript a b _ => hasLam n a || hasLam n b
    | .List es _ => es.any (hasLam n)
    | .Tuple es _ _ => es.any (hasLam n)
    | _ => false
noncomputable def hasLamS : Nat → Stmt → Bool
  | 0, _ => false
  | n + 1, s => match s with
    | .Return (some e) _ => hasLam 9 e
    | .Assign _ e _ => hasLam 9 e
    | .AugAssign _ _ e _ => hasLam 9 e
    | .Expr e _ => hasLam 9 e
    | .For _ it b _ _ => hasLam 9 it || b.any (hasLamS n)
    | .While c b _ _ => hasLam 9 c || b.any (hasLamS n)
    | .If c b o _ => hasLam 9 c || b.any (hasLamS n) || o.any (hasLamS n)
    | .Try b _ _ _ _ => b.any (hasLamS n)
    | _ => false
noncomputable def bodyLam : FuncBody → Bool
  | .stmts b => b.any (hasLamS 9)
  | _ => false
noncomputable def tabOf (K : PySem.W.Frag) (o : Obj) : Option (Addr × Str) := match o.data with
  | .func fd => if bodyLam fd.body = true then (match fd.code with
    | PySem.Value.ref c => (tabAt K c).map fun P => (P, fd.qualname ++ ".<locals>." ++ "<lambda>")
    | _ => none) else none
  | _ => none
/-- the tables of the code objects of defs that make lambdas, each with the name that its lambdas' code objects bear -/
noncomputable def tabsL (K : PySem.W.Frag) : List (Addr × Str) := K.filterMap fun x => tabOf K x.2
/-- frozen heap F, what others hold and change P, addresses of the store μ, its size n -/
structure Gd where
  K : PySem.W.Frag
  F : Hp
  P : Hp
  μ : Nat → Addr
  n : Nat

/-- data of dicts that change no more -/
noncomputable def kyD : Key → PyData
  | .inl i => .int i
  | .inr x => .str x
/-- a tuple of the heap, its object known: it has no dict -/
noncomputable def PlT (F : Hp) (a : Addr) (xs : List V) : Prop := ∃ o : Obj, F a = some (.frz o (.tup xs)) ∧ o.dict = none
mutual
inductive Dq (g : Gd) : V → PyData → Prop
  | non : Dq g .non .none
  | bl (b : Bool) : Dq g (.bl b) (.bool b)
  | int (i : Int) : Dq g (.int i) (.int i)
  | str (x : Str) : Dq g (.str x) (.str x)
  | lst {a : Addr} {xs : List V} {ds : List PyData} : SqL g.K g.F a xs → DqA g xs ds → Dq g (.ref a) (.list ds)
  | tup {a : Addr} {xs : List V} {ds : List PyData} : PlT g.F a xs → DqA g xs ds → Dq g (.ref a) (.tuple ds)
  | wt {a : Addr} {xs : List V} {ds : List PyData} : g.F a = some (.tup xs) → DqA g xs ds → Dq g (.ref a) (.dict [(.bool true, .bool true), (.none, .tuple ds)])
  | ref {l : Nat} : l < g.n → Dq g (.ref (g.μ l)) (rf l)
  | exc {a dd : Addr} {gs : List (Str × V)} {ds : List PyData} : g.F dd = some (.xd gs) → DqA g (gs.map (·.2)) ds → Dq g (.ref a) (.dict [(.int (a : Int), .int (dd : Int)), (.tuple (gs.map fun p => .str p.1), .tuple ds)])
  | fk {a : Addr} {o : Obj} {ks : List (Key × V)} {ds : List PyData} : g.F a = some (.frz o (.dK ks)) → DqA g (ks.map (·.2)) ds → Dq g (.ref a) (.dict [(.none, .none), (.tuple (ks.map fun p => kyD p.1), .tuple ds)])
  | ft {a : Addr} {ks : List (List Key × V)} {ds : List PyData} : g.F a = some (.dT ks) → DqA g (ks.map (·.2)) ds → Dq g (.ref a) (.dict [(.none, .bool true), (.tuple (ks.map fun p => .tuple (p.1.map kyD)), .tuple ds)])
  | fi {a C dx : Addr} {c : Str} {gs : List (Str × V)} {ds : List PyData} : g.F a = some (.ins C dx gs) → PySem.W.nsIn g.K mainGlobals c = some (some (.ref C)) → DqA g (gs.map (·.2)) ds → Dq g (.ref a) (.dict [(.none, .str c), (.tuple (gs.map fun p => .str p.1), .tuple ds)])
inductive DqA (g : Gd) : List V → List PyData → Prop
  | nil : DqA g [] []
  | cons {v : V} {vs : List V} {d : PyData} {ds : List PyData} : Dq g v d → DqA g vs ds → DqA g (v :: vs) (d :: ds)
end

/-- what stands in the store -/
inductive Ob where
  | lst (xs : List PyData)
  | dK (kvs : List (Key × PyData))
  | ins (c : Str) (fs : List (Str × PyData))
  | dead

noncomputable abbrev Ws := List Ob

/-- the class of the name c stands at C -/
noncomputable def ClsAt (K : PySem.W.Frag) (c : Str) (C : Addr) : Prop := PySem.W.nsIn K mainGlobals c = some (some (.ref C))
/-- pairs of a key and a value -/
noncomputable def KvR {κ : Type} (g : Gd) : List (κ × V) → List (κ × PyData) → Prop := Paired fun p q => p.1 = q.1 ∧ Dq g p.2 q.2

noncomputable def ObR (g : Gd) (H : Hp) (a : Addr) : Ob → Prop
  | .lst ds => g.F a = none ∧ ∃ xs, H a = some (.lst xs) ∧ DqA g xs ds
  | .dK kvs => g.F a = none ∧ ∃ ks, H a = some (.dK ks) ∧ KvR g ks kvs
  | .ins c fs => g.F a = none ∧ ∃ dx gs, (∃ C, ClsAt g.K c C ∧ H a = some (.ins C dx gs)) ∧ H dx = some (.own a) ∧ g.F dx = none ∧ KvR g gs fs
  | .dead => ∃ o, H a = some o

/-- a table of code objects at P, all of the name q, the code objects frozen -/
noncomputable def TabF (F H : Hp) (P : Addr) (q : Str) : Prop := ∃ ps : Array Value, H P = some (.tbl ps) ∧ TriplesOk ps.toList ∧ ∀ (pos : Pos) (cv : Value), codeAmong pos ps.toList = some cv → ∃ c, cv = .ref c ∧ F c = some (LamX.CodeO c q)
theorem TabF.up {F F' H H' : Hp} {P : Addr} {q : Str} (t : TabF F H P q) (hF : ∀ a o, F a = some o → F' a = some o) (hP : H' P = H P) : TabF F' H' P q := by
  obtain ⟨ps, h1, h2, h3⟩ := t
  refine ⟨ps, hP.trans h1, h2, fun pos cv hc => ?_⟩
  obtain ⟨c, e1, e2⟩ := h3 pos cv hc
  exact ⟨c, e1, hF _ _ e2⟩
/-- the tables, which lambdas write -/
noncomputable def Tb (g : Gd) (H : Hp) : Prop := ∀ p ∈ tabsL g.K, TabF g.F H p.1 p.2 ∧ g.F p.1 = none ∧ g.P p.1 = none
theorem Tb.ne {g : Gd} {H : Hp} (t : Tb g H) {p : Addr × Str} (h : p ∈ tabsL g.K) {a : Addr} (ha : ∀ ps, H a ≠ some (.tbl ps)) : p.1 ≠ a := fun z => by
  obtain ⟨⟨ps, h1, _⟩, _⟩ := t p h
  exact ha ps (z ▸ h1)
theorem Tb.ne0 {g : Gd} {H : Hp} (t : Tb g H) {p : Addr × Str} (h : p ∈ tabsL g.K) {a : Addr} (ha : H a = none) : p.1 ≠ a := t.ne h fun ps z => by rw [ha] at z; cases z
structure Rp (g : Gd) (H : Hp) (w : Ws) : Prop where
  fro : ∀ a o, g.F a = some o → H a = some o
  len : g.n = w.length
  cell : ∀ l ob, w[l]? = some ob → ObR g H (g.μ l) ob
  inj : ∀ l m, l < g.n → m < g.n → g.μ l = g.μ m → l = m
  pin : ∀ a o, g.P a = some o → H a = some o ∧ g.F a = none ∧ ∀ l, l < g.n → g.μ l ≠ a
  tab : Tb g H

/-- the ground grows -/
structure Xt0 (g g' : Gd) : Prop where
  k : g'.K = g.K
  ex : ∀ a o, g.F a = some o → g'.F a = some o
  at_ : ∀ l, l < g.n → g'.μ l = g.μ l
  le : g.n ≤ g'.n
  t : g'.K = g.K
structure Xt (g g' : Gd) : Prop extends Xt0 g g' where
  p : g'.P = g.P
instance {g g' : Gd} : Coe (Xt g g') (Xt0 g g') := ⟨Xt.toXt0⟩

theorem Xt.refl (g : Gd) : Xt g g := ⟨⟨rfl, fun _ _ h => h, fun _ _ => rfl, Nat.le_refl _, rfl⟩, rfl⟩
theorem Xt0.trans {g g1 g2 : Gd} (a : Xt0 g g1) (b : Xt0 g1 g2) : Xt0 g g2 :=
  ⟨b.k.trans a.k, fun x o h => b.ex x o (a.ex x o h), fun l h => (b.at_ l (Nat.lt_of_lt_of_le h a.le)).trans (a.at_ l h), Nat.le_trans a.le b.le, b.t.trans a.t⟩
theorem Xt.trans {g g1 g2 : Gd} (a : Xt g g1) (b : Xt g1 g2) : Xt g g2 := ⟨a.toXt0.trans b.toXt0, b.p.trans a.p⟩

theorem Xt0.rd {g g' : Gd} (x : Xt0 g g') {a : Addr} {u : HO} (h : Rd g.F a u) : Rd g'.F a u := by
  rcases h with h | ⟨o, h⟩
  · exact .inl (x.ex _ _ h)
  · exact .inr ⟨o, x.ex _ _ h⟩
theorem Xt0.sqL {g g' : Gd} (x : Xt0 g g') {a : Addr} {xs : List V} (h : SqL g.K g.F a xs) : SqL g'.K g'.F a xs := by
  rw [x.k]
  rcases h with h | h
  · exact .inl (x.rd h)
  · exact .inr h
theorem Xt0.sqT {g g' : Gd} (x : Xt0 g g') {a : Addr} {xs : List V} (h : PlT g.F a xs) : PlT g'.F a xs := let ⟨o, e, d⟩ := h; ⟨o, x.ex _ _ e, d⟩

mutual
theorem Dq.up {g g' : Gd} (x : Xt0 g g') : ∀ {v : V} {d : PyData}, Dq g v d → Dq g' v d
  | _, _, .non => .non
  | _, _, .bl b => .bl b
  | _, _, .int i => .int i
  | _, _, .str z => .str z
  | _, _, .lst a b => .lst (x.sqL a) (DqA.up x b)
  | _, _, .tup a b => .tup (x.sqT a) (DqA.up x b)
  | _, _, .wt a b => .wt (x.ex _ _ a) (DqA.up x b)
  | _, _, .ref hl => by
    rw [← x.at_ _ hl]
    exact .ref (Nat.lt_of_lt_of_le hl x.le)
  | _, _, .exc h c => .exc (x.ex _ _ h) (DqA.up x c)
  | _, _, .fk h c => .fk (x.ex _ _ h) (DqA.up x c)
  | _, _, .ft h c => .ft (x.ex _ _ h) (DqA.up x c)
  | _, _, .fi h n c => .fi (x.ex _ _ h) (by rw [x.k]; exact n) (DqA.up x c)
theorem DqA.up {g g' : Gd} (x : Xt0 g g') : ∀ {vs : List V} {ds : List PyData}, DqA g vs ds → DqA g' vs ds
  | _, _, .nil => .nil
  | _, _, .cons a b => .cons (Dq.up x a) (DqA.up x b)
end
theorem Dq.mono {g g' : Gd} (x : Xt0 g g') (d : PyData) (v : V) (h : Dq g v d) : Dq g' v d := h.up x
theorem DqA.mono {g g' : Gd} (x : Xt0 g g') (ds : List PyData) (vs : List V) (h : DqA g vs ds) : DqA g' vs ds := h.up x

theorem KvR.mono {κ : Type} {g g' : Gd} (x : Xt0 g g') : ∀ {ks : List (κ × V)} {kvs : List (κ × PyData)}, KvR g ks kvs → KvR g' ks kvs
  | _, _, .nil => .nil
  | _, _, .cons h t => .cons ⟨h.1, h.2.mono x _ _⟩ (KvR.mono x t)

theorem DqA.length {g : Gd} : ∀ {vs : List V} {ds : List PyData}, DqA g vs ds → vs.length = ds.length
  | _, _, .nil => rfl
  | _, _, .cons _ t => congrArg (· + 1) (DqA.length t)
theorem DqA.get {g : Gd} : ∀ {vs : List V} {ds : List PyData} {i : Nat} {d : PyData}, DqA g vs ds → ds[i]? = some d → ∃ v, vs[i]? = some v ∧ Dq g v d
  | _, _, _, _, .nil, e => by simp at e
  | _, _, 0, _, .cons h _, e => by simp at e; subst e; exact ⟨_, rfl, h⟩
  | _, _, i + 1, d, .cons _ t, e => by
    obtain ⟨v, h1, h2⟩ := DqA.get (i := i) (d := d) t (by simpa using e)
    exact ⟨v, by simpa using h1, h2⟩
theorem DqA.append {g : Gd} : ∀ {vs us : List V} {ds es : List PyData}, DqA g vs ds → DqA g us es → DqA g (vs ++ us) (ds ++ es)
  | _, _, _, _, .nil, s => s
  | _, _, _, _, .cons r t, s => .cons r (DqA.append t s)
theorem DqA.take {g : Gd} : ∀ {vs : List V} {ds : List PyData} (n : Nat), DqA g vs ds → DqA g (vs.take n) (ds.take n)
  | _, _, 0, _ => .nil
  | _, _, _ + 1, .nil => .nil
  | _, _, n + 1, .cons r t => .cons r (DqA.take n t)
theorem DqA.drop {g : Gd} : ∀ {vs : List V} {ds : List PyData} (n : Nat), DqA g vs ds → DqA g (vs.drop n) (ds.drop n)
  | _, _, 0, r => r
  | _, _, _ + 1, .nil => .nil
  | _, _, n + 1, .cons _ t => DqA.drop n t
theorem DqA.reverse {g : Gd} : ∀ {vs : List V} {ds : List PyData}, DqA g vs ds → DqA g vs.reverse ds.reverse
  | _, _, .nil => .nil
  | _, _, .cons r t => by
    rw [List.reverse_cons, List.reverse_cons]
    exact (DqA.reverse t).append (.cons r .nil)

/-- a frozen object more -/
noncomputable def Gd.put (g : Gd) (p : Addr) (o : HO) : Gd := { g with F := upd g.F p o }
theorem Rp.fnone {g : Gd} {H : Hp} {w : Ws} (r : Rp g H w) {p : Addr} (h : H p = none) : g.F p = none := by
  cases e : g.F p with
  | none => rfl
  | some o => rw [r.fro p o e] at h; cases h
theorem Xt.put {g : Gd} {p : Addr} {o : HO} (h : g.F p = none) : Xt g (g.put p o) :=
  ⟨⟨rfl, fun a u e => by show upd g.F p o a = _; rw [upd_ne (ne_of_none e h)]; exact e, fun _ _ => rfl, Nat.le_refl _, rfl⟩, rfl⟩
theorem ObR.there {g : Gd} {H : Hp} {a : Addr} {ob : Ob} (h : ObR g H a ob) : ∃ o, H a = some o := by
  cases ob with
  | lst ds => obtain ⟨_, xs, h, _⟩ := h; exact ⟨_, h⟩
  | dK ds => obtain ⟨_, xs, h, _⟩ := h; exact ⟨_, h⟩
  | ins C fs => obtain ⟨_, dx, gs, ⟨_, _, h⟩, _⟩ := h; exact ⟨_, h⟩
  | dead => exact h
theorem ObR.notab {g : Gd} {H : Hp} {a : Addr} {ob : Ob} (h : ObR g H a ob) (hn : ob ≠ .dead) : ∀ ps, H a ≠ some (.tbl ps) := fun ps z => by
  cases ob with
  | lst ds => obtain ⟨_, xs, h, _⟩ := h; rw [h] at z; cases z
  | dK ds => obtain ⟨_, xs, h, _⟩ := h; rw [h] at z; cases z
  | ins C fs => obtain ⟨_, dx, gs, ⟨_, _, h⟩, _⟩ := h; rw [h] at z; cases z
  | dead => exact hn rfl
/-- an object at another address does not matter -/
theorem ObR.new {g g' : Gd} {H H' : Hp} {a : Addr} {ob : Ob} (x : Xt0 g g') (h : ObR g H a ob) (hf : ∀ b, (H b).isSome = true → g'.F b = g.F b ∧ H' b = H b) : ObR g' H' a ob := by
  have q : ∀ {b : Addr} {o : HO}, H b = some o → g'.F b = g.F b ∧ H' b = some o := fun {b o} e => by
    have z := hf b (by rw [e]; rfl)
    exact ⟨z.1, z.2.trans e⟩
  cases ob with
  | lst ds =>
    obtain ⟨hn, xs, h, d⟩ := h
    exact ⟨(q h).1.trans hn, xs, (q h).2, d.mono x _ _⟩
  | dK kvs =>
    obtain ⟨hn, ks, h, d⟩ := h
    exact ⟨(q h).1.trans hn, ks, (q h).2, d.mono x⟩
  | ins C fs =>
    obtain ⟨hn, dx, gs, ⟨C', hC, h⟩, hd, hn2, d⟩ := h
    exact ⟨(q h).1.trans hn, dx, gs, ⟨C', by rw [x.k]; exact hC, (q h).2⟩, (q hd).2, (q hd).1.trans hn2, d.mono x⟩
  | dead =>
    obtain ⟨o, h⟩ := h
    exact ⟨o, (q h).2⟩
theorem Rp.put {g : Gd} {H : Hp} {w : Ws} (r : Rp g H w) {p : Addr} {o : HO} (h : H p = none) : Rp (g.put p o) (upd H p o) w where
  fro := fun a u e => by
    by_cases q : a = p
    · subst q
      have e' : upd g.F a o a = some u := e
      rw [upd_same] at e' ⊢
      exact e'
    · have e' : upd g.F p o a = some u := e
      rw [upd_ne q] at e' ⊢
      exact r.fro a u e'
  len := r.len
  cell := fun l ob e => (r.cell l ob e).new (Xt.put (r.fnone h)).toXt0 fun b hb => by
    have nb : b ≠ p := fun z => by subst z; rw [h] at hb; cases hb
    exact ⟨upd_ne nb, upd_ne nb⟩
  inj := r.inj
  pin := fun a u e => by
    obtain ⟨h1, h2, h3⟩ := r.pin a u e
    have na : a ≠ p := fun z => by subst z; rw [h] at h1; cases h1
    exact ⟨by rw [upd_ne na]; exact h1, (upd_ne na).trans h2, h3⟩
  tab := fun p hp => by
    obtain ⟨t1, t2, t3⟩ := r.tab p hp
    have ne := r.tab.ne0 hp h
    exact ⟨t1.up (Xt.put (r.fnone h)).ex (upd_ne ne), (upd_ne ne).trans t2, t3⟩

/-! ### outcomes -/
inductive Oc (α : Type) where
  | ok (a : α) (w : Ws)
  | ex (c : Value) (fs : List (Str × PyData)) (w : Ws)
  | no
noncomputable def Oc.bind {α β : Type} (x : Oc α) (f : α → Ws → Oc β) : Oc β :=
  match x with
  | .ok a w => f a w
  | .ex c fs w => .ex c fs w
  | .no => .no
noncomputable abbrev Ev := List (Option PyData)
noncomputable abbrev FE := Ev → Ws → Oc PyData
noncomputable abbrev FT := Ev → Ws → Oc Bool
noncomputable abbrev FA := Ev → Ws → Oc (List PyData)
inductive Os where
  | nx (ρ : Ev) (w : Ws)
  | rt (d : PyData) (w : Ws)
  | bk (ρ : Ev) (w : Ws)
  | ct (ρ : Ev) (w : Ws)
  | ex (ρ : Ev) (c : Value) (fs : List (Str × PyData)) (w : Ws)
  | no
noncomputable abbrev FS := Ev → Ws → Os

/-- the frame's names -/
structure EnR (g : Gd) (σ : St) (ρ : Ev) : Prop where
  len : σ.length = ρ.length
  at_ : ∀ (i : Nat) (d : PyData), ρ[i]? = some (some d) → ∃ v, σ[i]? = some (some v) ∧ Dq g v d
theorem EnR.mono {g g' : Gd} (x : Xt0 g g') {σ : St} {ρ : Ev} (e : EnR g σ ρ) : EnR g' σ ρ :=
  ⟨e.len, fun i d h => let ⟨v, a, b⟩ := e.at_ i d h; ⟨v, a, b.mono x _ _⟩⟩
theorem EnR.set {g : Gd} {σ : St} {ρ : Ev} (e : EnR g σ ρ) {v : V} {d : PyData} (i : Nat) (h : Dq g v d) : EnR g (σ.set i (some v)) (ρ.set i (some d)) := by
  refine ⟨by rw [List.length_set, List.length_set]; exact e.len, fun j c hj => ?_⟩
  rw [List.getElem?_set] at hj ⊢
  by_cases q : i = j
  · subst q
    rw [if_pos rfl] at hj ⊢
    by_cases z : i < ρ.length
    · rw [if_pos z] at hj
      rw [if_pos (by rw [e.len]; exact z)]
      have := Option.some.inj (Option.some.inj hj)
      subst this
      exact ⟨v, rfl, h⟩
    · rw [if_neg z] at hj
      cases hj
  · rw [if_neg q] at hj ⊢
    exact e.at_ j c hj

/-- the class that a reading's exception names: an own one by its name -/
noncomputable def ClsV (K : PySem.W.Frag) : Value → Value → Prop
  | .str n _, cv => ∃ C, ClsAt K n C ∧ cv = .ref C
  | c, cv => cv = c
/-- what is wanted of an exception: the fields of its own dict -/
noncomputable def XdR (g : Gd) (H : Hp) (fs : List (Str × PyData)) : Option Addr → Prop
  | none => fs = []
  | some d => g.F d = none ∧ g.P d = none ∧ (∀ l, l < g.n → g.μ l ≠ d) ∧ ∃ gs, H d = some (.xd gs) ∧ KvR g gs fs

noncomputable def oX {α β : Type} (W : WX) (σ : St) (R : Gd → β → α → Prop) (g : Gd) (Q : β → Hp → Prop) : Oc α → Prop
  | .ok d w => ∀ v H g', Xt g g' → Rp g' H w → R g' v d → Q v H
  | .ex c fs w => ∀ cv dd H g', ClsV g.K c cv → Xt g g' → Rp g' H w → XdR g' H fs dd → W cv dd σ H
  | .no => False
noncomputable def lX {α β : Type} (K : PySem.W.Frag) (W : WX) (R : Gd → β → α → Prop) (f : Ev → Ws → Oc α) : St → Hp → (β → Hp → Prop) → Prop := fun σ H Q =>
  ∃ g ρ w, g.K = K ∧ Rp g H w ∧ EnR g σ ρ ∧ oX W σ R g Q (f ρ w)
noncomputable abbrev lE (K : PySem.W.Frag) (W : WX) (f : FE) : TE := lX K W Dq f
noncomputable abbrev lT (K : PySem.W.Frag) (W : WX) (f : FT) : TT := lX K W (fun _ (b c : Bool) => b = c) f
noncomputable abbrev lA (K : PySem.W.Frag) (W : WX) (f : FA) : TA := lX K W DqA f

/-- the ground has grown: the wish stays -/
theorem oX.mono {α β : Type} {W : WX} {σ : St} {R : Gd → β → α → Prop} {g g' : Gd} {Q : β → Hp → Prop} (x : Xt g g') : ∀ {o : Oc α}, oX W σ R g Q o → oX W σ R g' Q o
  | .ok _ _, h => fun v H g2 y r q => h v H g2 (x.trans y) r q
  | .ex _ _ _, h => fun cv d H g2 hc y r q => h cv d H g2 (x.k ▸ hc) (x.trans y) r q
  | .no, h => h

/-- a part first -/
theorem lX_bind {α β γ δ : Type} {W : WX} {R : Gd → β → α → Prop} {S : Gd → δ → γ → Prop} {f : Ev → Ws → Oc α} {k : α → Ws → Oc γ} {σ : St} {H : Hp} {g : Gd} {ρ : Ev} {w : Ws} {Q : δ → Hp → Prop} {T : β → Hp → Prop}
    {K : PySem.W.Frag} (hK : g.K = K) (r : Rp g H w) (e : EnR g σ ρ) (h : oX W σ S g Q ((f ρ w).bind k))
    (hT : ∀ v H1 g1 d w1, Xt g g1 → Rp g1 H1 w1 → EnR g1 σ ρ → R g1 v d → oX W σ S g1 Q (k d w1) → T v H1) : lX K W R f σ H T := by
  refine ⟨g, ρ, w, hK, r, e, ?_⟩
  cases q : f ρ w with
  | ok d w1 =>
    rw [q] at h
    exact fun v H1 g1 x r1 z => hT v H1 g1 d w1 x r1 (e.mono x) z (oX.mono x h)
  | ex c fs w1 =>
    rw [q] at h
    exact h
  | no =>
    rw [q] at h
    exact h

/-! ### weaker readings -/
theorem pe_imp {X : Cx} {e : Expr} {t t' : TE} (h : PE X e t) (i : ∀ σ H Q, t' σ H Q → t σ H Q) : PE X e t' := ⟨fun pins s σ H Q I q => h.run pins s σ H Q I (i σ H Q q)⟩
theorem pt_imp {X : Cx} {e : Expr} {t t' : TT} (h : PT X e t) (i : ∀ σ H Q, t' σ H Q → t σ H Q) : PT X e t' := ⟨fun pins s σ H Q I q => h.run pins s σ H Q I (i σ H Q q)⟩
theorem pw_imp {X : Cx} {e : Expr} {t t' : TT} (h : PW X e t) (i : ∀ σ H Q, t' σ H Q → t σ H Q) : PW X e t' := ⟨fun wh pins s σ H Q I q => h.run wh pins s σ H Q I (i σ H Q q)⟩
theorem pa_imp {X : Cx} {e : List Expr} {t t' : TA} (h : PA X e t) (i : ∀ σ H Q, t' σ H Q → t σ H Q) : PA X e t' := ⟨fun p pins s σ H Q I q => h.run p pins s σ H Q I (i σ H Q q)⟩
theorem ps_imp {X : Cx} {e : Stmt} {t t' : TS} (h : PS X e t) (i : ∀ D σ H, t' D σ H → t D σ H) : PS X e t' := ⟨fun pins s σ H D I q => h.run pins s σ H D I (i D σ H q)⟩
theorem pss_imp {X : Cx} {e : List Stmt} {t t' : TS} (h : PSs X e t) (i : ∀ D σ H, t' D σ H → t D σ H) : PSs X e t' := ⟨fun pins s σ H D I q => h.run pins s σ H D I (i D σ H q)⟩

end Td

set_option Elab.async false
set_option linter.all false
set_option maxRecDepth 100000
set_option maxHeartbeats 4000000
namespace Td
open PySem L2
noncomputable abbrev PF (X : Cx) (W : WX) (e : Expr) (f : FE) : Prop := PE X e (lE X.K W f)
noncomputable abbrev PTf (X : Cx) (W : WX) (e : Expr) (f : FT) : Prop := PT X e (lT X.K W f)
noncomputable abbrev PWf (X : Cx) (W : WX) (e : Expr) (f : FT) : Prop := PW X e (lT X.K W f)
noncomputable abbrev PAf (X : Cx) (W : WX) (es : List Expr) (f : FA) : Prop := PA X es (lA X.K W f)

section
variable {X : Cx} {W : WX}
/-! ### names, constants -/
noncomputable def eV (i : Nat) : FE := fun ρ w => match ρ[i]? with
  | some (some d) => .ok d w
  | _ => .no
noncomputable def eC (d : PyData) : FE := fun _ w => .ok d w
theorem lE_c {K : PySem.W.Frag} {v : V} {d : PyData} (h : ∀ g : Gd, Dq g v d) : ∀ σ H Q, lE K W (eC d) σ H Q → tC v σ H Q := fun σ H Q ⟨g, ρ, w, hK, r, e, q⟩ => q v H g (Xt.refl g) r (h g)
theorem pf_var (i : Nat) {x : Str} {pos : Pos} (hN : X.N[i]? = some x := by rfl) (hv : Vis X.env.scope x := by first | exact Or.inl rfl | exact Or.inr (Or.inl rfl) | exact Or.inr (Or.inr rfl)) (hd : (x == ("__debug__" : Str)) = false := by decide)
    (hcd : (x == ("__classdict__" : Str)) = false := by decide) : PF X W (.Name x pos) (eV i) := by
  refine pe_imp (pv i hN hv hd hcd) fun σ H Q ⟨g, ρ, w, hK, r, e, q⟩ => ?_
  unfold eV at q
  split at q
  · rename_i d hd'
    obtain ⟨v, hv', dv⟩ := e.at_ i d hd'
    exact ⟨v, hv', q v H g (Xt.refl g) r dv⟩
  · exact q.elim
theorem pf_int {i j pos} : PF X W (.Constant (.int i) j pos) (eC (.int i)) := pe_imp pe_int (lE_c fun _ => .int i)
theorem pf_bl {b j pos} : PF X W (.Constant (.bool b) j pos) (eC (.bool b)) := pe_imp pe_bl (lE_c fun _ => .bl b)
theorem pf_non {j pos} : PF X W (.Constant .none j pos) (eC .none) := pe_imp pe_non (lE_c fun _ => .non)
theorem pf_str {x j pos} : PF X W (.Constant (.str x) j pos) (eC (.str x)) := pe_imp pe_str (lE_c fun _ => .str _)
/-! ### argument lists, displays -/
noncomputable def aN : FA := fun _ w => .ok [] w
noncomputable def aC (f : FE) (fr : FA) : FA := fun ρ w => (f ρ w).bind fun d w1 => (fr ρ w1).bind fun ds w2 => .ok (d :: ds) w2
theorem paf_nil : PAf X W [] aN := pa_imp pa_nil fun σ H Q ⟨g, ρ, w, hK, r, e, q⟩ => q [] H g (Xt.refl g) r .nil
theorem paf_cons {e : Expr} {es : List Expr} {f : FE} {fr : FA} (ha : PF X W e f) (hr : PAf X W es fr) (hs : starEach (e :: es) X.env = (false, eval e X.env) :: starEach es X.env := by rfl) : PAf X W (e :: es) (aC f fr) := by
  refine pa_imp (pa_cons ha hr hs) fun σ H Q ⟨g, ρ, w, hK, r, e, q⟩ => ?_
  refine lX_bind hK r e q fun v H1 g1 d w1 x r1 e1 dv z => ?_
  refine lX_bind (x.k.trans hK) r1 e1 z fun vs H2 g2 ds w2 x2 r2 e2 dvs z2 => ?_
  exact z2 _ H2 g2 (Xt.refl _) r2 (.cons (dv.mono x2 _ _) dvs)
noncomputable def szOk (n : Nat) : Bool := decide (n ≤ sizeLine)
/-- only where a test holds -/
noncomputable def Oc.on {α : Type} (b : Bool) (x : Oc α) : Oc α := cond b x .no
theorem oX.on {α β : Type} {σ : St} {R : Gd → β → α → Prop} {g : Gd} {Q : β → Hp → Prop} {b : Bool} {x : Oc α} (h : oX W σ R g Q (Oc.on b x)) : b = true ∧ oX W σ R g Q x := by
  cases b with
  | true => exact ⟨rfl, h⟩
  | false => exact h.elim
noncomputable def eTup (fa : FA) : FE := fun ρ w => (fa ρ w).bind fun ds w1 => Oc.on (szOk ds.length) (.ok (.tuple ds) w1)
noncomputable def eLst (fa : FA) : FE := fun ρ w => (fa ρ w).bind fun ds w1 => Oc.on (szOk ds.length) (.ok (.list ds) w1)
theorem newT {g : Gd} {H : Hp} {w : Ws} {vs : List V} {ds : List PyData} (r : Rp g H w) {p : Addr} {o : Obj} (ho : o.dict = none) (hp : H p = none) (d : DqA g vs ds) : Dq (g.put p (.frz o (.tup vs))) (.ref p) (.tuple ds) :=
  .tup ⟨o, upd_same, ho⟩ (d.mono (Xt.put (r.fnone hp)).toXt0 _ _)
/-- a datum that is unpacked at once -/
noncomputable abbrev wtD (ds : List PyData) : PyData := .dict [(.bool true, .bool true), (.none, .tuple ds)]
theorem newW {g : Gd} {H : Hp} {w : Ws} {vs : List V} {ds : List PyData} (r : Rp g H w) {p : Addr} (hp : H p = none) (d : DqA g vs ds) : Dq (g.put p (.tup vs)) (.ref p) (wtD ds) :=
  .wt upd_same (d.mono (Xt.put (r.fnone hp)).toXt0 _ _)
/-- a new tuple, its object known -/
noncomputable abbrev tuO (us : List Value) : Obj := { cls := .type "tuple", data := .seq us.toArray }
theorem laidT {X : Cx} {pins : List (Addr × Obj)} {σ : St} {H : Hp} {s : Shared} {us : List Value} {xs : List V} (I : Inv X pins σ H s) (r : Vals xs us) (z : xs.length ≤ sizeLine) :
    Inv X pins σ (upd H s.heap.objs.size (.frz (tuO us) (.tup xs))) { s with heap := s.heap.push (tuO us) } :=
  I.laid (t' := s.toks) (fun b u e => Heap.get?_push_of_some _ e) (Nat.le_refl _) ⟨Heap.get?_push_size _ rfl, z, us, r, ⟨_, Heap.get?_push_size _ rfl, rfl, _, rfl⟩⟩
theorem pe_tupP {X : Cx} {es : List Expr} {t : TA} {x1} {pos : Pos} (h : PA X es t) : PE X (.Tuple es x1 pos) (fun σ H Q => t σ H fun xs H1 => xs.length ≤ sizeLine ∧ ∀ p (o : Obj), o.dict = none → H1 p = none → Q (.ref p) (upd H1 p (.frz o (.tup xs)))) := by
  refine ⟨fun pins s σ H Q I hq => ?_⟩
  refine wpAny_Tuple_spliced (thn (h.run pos pins s σ H _ I hq) fun us s1 ⟨xs, H1, I1, r, z, q⟩ => ⟨by rw [← r.length]; exact z, ?_⟩)
  exact ⟨.ref s1.heap.objs.size, _, laidT I1 r z, rfl, q _ _ rfl (I1.hok.fresh (Nat.le_refl _))⟩
theorem newL {g : Gd} {H : Hp} {w : Ws} {vs : List V} {ds : List PyData} (r : Rp g H w) {p : Addr} (hp : H p = none) (d : DqA g vs ds) : Dq (g.put p (.lst vs)) (.ref p) (.list ds) :=
  .lst (SqL.of upd_same) (d.mono (Xt.put (r.fnone hp)).toXt0 _ _)
theorem pf_tup {es : List Expr} {fa : FA} {x1} {pos : Pos} (h : PAf X W es fa) : PF X W (.Tuple es x1 pos) (eTup fa) := by
  refine pe_imp (pe_tupP h) fun σ H Q ⟨g, ρ, w, hK, r, e, q⟩ => ?_
  refine lX_bind hK r e q fun vs H1 g1 ds w1 x r1 e1 d z => ?_
  obtain ⟨hb, z⟩ := z.on
  refine ⟨by rw [d.length]; exact of_decide_eq_true hb, fun p o ho hp => ?_⟩
  exact z _ _ _ (Xt.put (r1.fnone hp)) (r1.put hp) (newT r1 ho hp d)
theorem pf_lst {es : List Expr} {fa : FA} {pos : Pos} (h : PAf X W es fa) : PF X W (.List es pos) (eLst fa) := by
  refine pe_imp (pe_lst h) fun σ H Q ⟨g, ρ, w, hK, r, e, q⟩ => ?_
  refine lX_bind hK r e q fun vs H1 g1 ds w1 x r1 e1 d z => ?_
  obtain ⟨hb, z⟩ := z.on
  refine ⟨by rw [d.length]; exact of_decide_eq_true hb, fun p hp => ?_⟩
  exact z _ _ _ (Xt.put (r1.fnone hp)) (r1.put hp) (newL r1 hp d)

/-! ### data to Dp -/
mutual
theorem Dq.dp {g : Gd} {H : Hp} (hf : ∀ a o, g.F a = some o → H a = some o) : ∀ (d : PyData) (v : V), d.canLay0 = true → Dq g v d → Dp g.K H v d
  | .none, _, _, h => by cases h; exact .non
  | .bool _, _, _, h => by cases h; exact .bl _
  | .int _, _, _, h => by cases h; exact .int _
  | .str _, _, _, h => by cases h; exact .str _
  | .list ds, _, c, h => by
    cases h with
    | lst a b => exact .lst (by rcases a with (a | ⟨o, a⟩) | a; exact .inl (.inl (hf _ _ a)); exact .inl (.inr ⟨o, hf _ _ a⟩); exact .inr a) (DqA.dp hf ds _ (by simpa [PyData.canLay0] using c) b)
  | .tuple ds, _, c, h => by
    cases h with
    | tup a b => exact .tup (let ⟨o, e, _⟩ := a; .inl (.inr ⟨o, hf _ _ e⟩)) (DqA.dp hf ds _ (by simpa [PyData.canLay0] using c) b)
  | .dict _, _, c, h => by simp [PyData.canLay0] at c
theorem DqA.dp {g : Gd} {H : Hp} (hf : ∀ a o, g.F a = some o → H a = some o) : ∀ (ds : List PyData) (vs : List V), PyData.canLayAll0 ds = true → DqA g vs ds → DpAll g.K H vs ds
  | [], _, _, h => by cases h; exact .nil
  | d :: ds, _, c, h => by
    have c' : d.canLay0 = true ∧ PyData.canLayAll0 ds = true := by simpa [PyData.canLayAll0] using c
    cases h with
    | cons a b => exact .cons (Dq.dp hf d _ c'.1 a) (DqA.dp hf ds _ c'.2 b)
end
theorem Rp.sqL {g : Gd} {H : Hp} {w : Ws} (r : Rp g H w) {a : Addr} {xs : List V} (h : SqL g.K g.F a xs) : SqL g.K H a xs := by
  rcases h with (a | ⟨o, a⟩) | a
  · exact .inl (.inl (r.fro _ _ a))
  · exact .inl (.inr ⟨o, r.fro _ _ a⟩)
  · exact .inr a
theorem Rp.sqT {g : Gd} {H : Hp} {w : Ws} (r : Rp g H w) {a : Addr} {xs : List V} (h : PlT g.F a xs) : SqT g.K H a xs := let ⟨o, e, _⟩ := h; .inl (.inr ⟨o, r.fro _ _ e⟩)

/-! ### operations on data -/
noncomputable def rD2 (K : PySem.W.Frag) (f : Ws → PyData → PyData → Option PyData) : R2 := fun x y H Q =>
  ∃ g w d e z, g.K = K ∧ Rp g H w ∧ Dq g x d ∧ Dq g y e ∧ f w d e = some z ∧ ∀ v H' g', Xt g g' → Rp g' H' w → Dq g' v z → Q v H'
noncomputable def Oc.of {α : Type} (o : Option α) (w : Ws) : Oc α := match o with
  | some a => .ok a w
  | none => .no
noncomputable def eB (f : Ws → PyData → PyData → Option PyData) (fa fb : FE) : FE := fun ρ w => (fa ρ w).bind fun d w1 => (fb ρ w1).bind fun e w2 => Oc.of (f w2 d e) w2
theorem tOp_of {f : Ws → PyData → PyData → Option PyData} {fa fb : FE} {K : PySem.W.Frag} : ∀ σ H Q, lE K W (eB f fa fb) σ H Q → tOp (rD2 K f) (lE K W fa) (lE K W fb) σ H Q := fun σ H Q ⟨g, ρ, w, hK, r, e, q⟩ => by
  refine lX_bind hK r e q fun v H1 g1 d w1 x r1 e1 dv z => ?_
  refine lX_bind (x.k.trans hK) r1 e1 z fun u H2 g2 c w2 x2 r2 e2 du z2 => ?_
  cases hz : f w2 d c with
  | none => rw [hz] at z2; exact z2.elim
  | some y =>
    rw [hz] at z2
    exact ⟨g2, w2, d, c, y, x2.k.trans (x.k.trans hK), r2, dv.mono x2 _ _, du, hz, fun v' H' g' x' r' d' => z2 v' H' g' x' r' d'⟩
theorem pf_bin {op : Operator} {f : Ws → PyData → PyData → Option PyData} {a b : Expr} {fa fb : FE} {pos : Pos} (ho : OpR X (binaryOp op) (rD2 X.K f)) (ha : PF X W a fa) (hb : PF X W b fb) : PF X W (.BinOp a op b pos) (eB f fa fb) :=
  pe_imp (pe_op ho ha hb) tOp_of
theorem pf_cmp {op : CmpOp} {f : Ws → PyData → PyData → Option PyData} {a b : Expr} {fa fb : FE} {pos : Pos} (ho : OpR X (compareOp op) (rD2 X.K f)) (ha : PF X W a fa) (hb : PF X W b fb) (hm : behindInMarks op b = false := by first | exact nomark _ | rfl) : PF X W (.Compare a [op] [b] pos) (eB f fa fb) :=
  pe_imp (pe_cmpR ho ha hb hm) tOp_of
/-- a test whose value is True or False -/
noncomputable def tB' (f : FE) : FT := fun ρ w => (f ρ w).bind fun d w1 => match d with
  | .bool b => .ok b w1
  | _ => .no
theorem tTest_of {f : FE} {K : PySem.W.Frag} {t : TE} (ht : ∀ σ H Q, lE K W f σ H Q → t σ H Q) : ∀ σ H Q, lT K W (tB' f) σ H Q → t σ H (fun z H3 => ∃ k, z = V.bl k ∧ Q k H3) := fun σ H Q ⟨g, ρ, w, hK, r, e, q⟩ => by
  refine ht σ H _ (lX_bind hK r e q fun v H1 g1 d w1 x r1 e1 dv z => ?_)
  cases dv with
  | bl b => exact ⟨b, rfl, z b H1 g1 (Xt.refl _) r1 rfl⟩
  | non => exact z.elim
  | int => exact z.elim
  | str => exact z.elim
  | lst => exact z.elim
  | tup => exact z.elim
  | ref => exact z.elim
  | exc => exact z.elim
  | fk => exact z.elim
  | ft => exact z.elim
  | wt => exact z.elim
  | fi => exact z.elim
theorem ptf_cmp {op : CmpOp} {f : Ws → PyData → PyData → Option PyData} {a b : Expr} {fa fb : FE} {pos : Pos} (ho : OpR X (compareOp op) (rD2 X.K f)) (ha : PF X W a fa) (hb : PF X W b fb) (hm : behindInMarks op b = false := by first | exact nomark _ | rfl) : PTf X W (.Compare a [op] [b] pos) (tB' (eB f fa fb)) :=
  pt_imp (pt_cmpR ho ha hb hm) (tTest_of tOp_of)
/-- a op b op' c -/
noncomputable def eCh (f f' : Ws → PyData → PyData → Option PyData) (fa fb fc : FE) : FE := fun ρ w => (fa ρ w).bind fun d w1 => (fb ρ w1).bind fun e w2 => match f w2 d e with
  | some (.bool true) => (fc ρ w2).bind fun c w3 => Oc.of (f' w3 e c) w3
  | some (.bool false) => .ok (.bool false) w2
  | _ => .no
theorem tChain_of {f f' : Ws → PyData → PyData → Option PyData} {fa fb fc : FE} {K : PySem.W.Frag} : ∀ σ H Q, lE K W (eCh f f' fa fb fc) σ H Q → tChain (rD2 K f) (rD2 K f') (lE K W fa) (lE K W fb) (lE K W fc) σ H Q := fun σ H Q ⟨g, ρ, w, hK, r, e, q⟩ => by
  refine lX_bind hK r e q fun v H1 g1 d w1 x r1 e1 dv z => ?_
  refine lX_bind (x.k.trans hK) r1 e1 z fun u H2 g2 c w2 x2 r2 e2 du z2 => ?_
  have hK2 := x2.k.trans (x.k.trans hK)
  split at z2
  · rename_i hz
    refine ⟨g2, w2, d, c, _, hK2, r2, dv.mono x2 _ _, du, hz, fun v' H' g' x' r' d' => ?_⟩
    cases d'
    refine ⟨true, rfl, ?_⟩
    rw [if_pos rfl]
    refine lX_bind (x'.k.trans hK2) r' (e2.mono x') (oX.mono x' z2) fun u3 H3 g3 c3 w3 x3 r3 e3 d3 z3 => ?_
    cases hz3 : f' w3 c c3 with
    | none => rw [hz3] at z3; exact z3.elim
    | some y =>
      rw [hz3] at z3
      exact ⟨g3, w3, c, c3, y, x3.k.trans (x'.k.trans hK2), r3, du.mono (x'.trans x3) _ _, d3, hz3, fun v' H' g' x' r' d' => z3 v' H' g' x' r' d'⟩
  · rename_i hz
    refine ⟨g2, w2, d, c, _, hK2, r2, dv.mono x2 _ _, du, hz, fun v' H' g' x' r' d' => ?_⟩
    cases d'
    refine ⟨false, rfl, ?_⟩
    rw [if_neg Bool.false_ne_true]
    exact z2 _ _ _ x' r' (.bl _)
  · exact z2.elim
theorem pf_chain {op op' : CmpOp} {f f' : Ws → PyData → PyData → Option PyData} {a b c : Expr} {fa fb fc : FE} {pos : Pos} (ho : OpR X (compareOp op) (rD2 X.K f)) (ho' : OpR X (compareOp op') (rD2 X.K f')) (ha : PF X W a fa) (hb : PF X W b fb) (hc : PF X W c fc)
    (hm : lastMarks [op, op'] [b, c] = false := by with_unfolding_all rfl) : PF X W (.Compare a [op, op'] [b, c] pos) (eCh f f' fa fb fc) := pe_imp (pe_chain ho ho' ha hb hc hm) tChain_of
theorem ptf_chain {op op' : CmpOp} {f f' : Ws → PyData → PyData → Option PyData} {a b c : Expr} {fa fb fc : FE} {pos : Pos} (ho : OpR X (compareOp op) (rD2 X.K f)) (ho' : OpR X (compareOp op') (rD2 X.K f')) (ha : PF X W a fa) (hb : PF X W b fb) (hc : PF X W c fc)
    (hm : lastMarks [op, op'] [b, c] = false := by with_unfolding_all rfl) : PTf X W (.Compare a [op, op'] [b, c] pos) (tB' (eCh f f' fa fb fc)) := pt_imp (pt_chain ho ho' ha hb hc hm) (tTest_of tChain_of)

/-! ### and, or, not, if .. else -/
noncomputable def tAn (t u : FT) : FT := fun ρ w => (t ρ w).bind fun b w1 => cond b (u ρ w1) (.ok false w1)
noncomputable def tOr' (t u : FT) : FT := fun ρ w => (t ρ w).bind fun b w1 => cond b (.ok true w1) (u ρ w1)
noncomputable def tNo (t : FT) : FT := fun ρ w => (t ρ w).bind fun b w1 => .ok (!b) w1
theorem pwf_and1 {a : Expr} {pos : Pos} {t : FT} (ha : PTf X W a t) : PWf X W (.BoolOp .And [a] pos) t := pw_and1 ha
theorem pwf_or1 {a : Expr} {pos : Pos} {t : FT} (ha : PTf X W a t) : PWf X W (.BoolOp .Or [a] pos) t := pw_or1 ha
theorem pwf_and {a b : Expr} {rest : List Expr} {pos : Pos} {t u : FT} (ha : PTf X W a t) (hb : PWf X W (.BoolOp .And (b :: rest) pos) u) : PWf X W (.BoolOp .And (a :: b :: rest) pos) (tAn t u) := by
  refine pw_imp (pw_and ha hb) fun σ H Q ⟨g, ρ, w, hK, r, e, q⟩ => ?_
  refine lX_bind hK r e q fun v H1 g1 d w1 x r1 e1 dv z => ?_
  subst dv
  cases v with
  | true => exact iteT ⟨g1, ρ, w1, x.k.trans hK, r1, e1, z⟩
  | false => exact iteF (z _ _ _ (Xt.refl _) r1 rfl)
theorem pwf_or {a b : Expr} {rest : List Expr} {pos : Pos} {t u : FT} (ha : PTf X W a t) (hb : PWf X W (.BoolOp .Or (b :: rest) pos) u) : PWf X W (.BoolOp .Or (a :: b :: rest) pos) (tOr' t u) := by
  refine pw_imp (pw_or ha hb) fun σ H Q ⟨g, ρ, w, hK, r, e, q⟩ => ?_
  refine lX_bind hK r e q fun v H1 g1 d w1 x r1 e1 dv z => ?_
  subst dv
  cases v with
  | true => exact iteT (z _ _ _ (Xt.refl _) r1 rfl)
  | false => exact iteF ⟨g1, ρ, w1, x.k.trans hK, r1, e1, z⟩
theorem ptf_w {e : Expr} {t : FT} (h : PWf X W e t) : PTf X W e t := h.pt
theorem ptf_not {a : Expr} {pos : Pos} {t : FT} (ha : PTf X W a t) : PTf X W (.UnaryOp .Not a pos) (tNo t) := by
  refine pt_imp (pt_not ha) fun σ H Q ⟨g, ρ, w, hK, r, e, q⟩ => ?_
  refine lX_bind hK r e q fun v H1 g1 d w1 x r1 e1 dv z => ?_
  subst dv
  exact z _ _ _ (Xt.refl _) r1 rfl
/-- as values: all but the last are True or False -/
noncomputable def eAn (f k : FE) : FE := fun ρ w => (f ρ w).bind fun d w1 => match d with
  | .bool true => k ρ w1
  | .bool false => .ok (.bool false) w1
  | _ => .no
noncomputable def eOr (f k : FE) : FE := fun ρ w => (f ρ w).bind fun d w1 => match d with
  | .bool true => .ok (.bool true) w1
  | .bool false => k ρ w1
  | _ => .no
noncomputable def eNo (f : FE) : FE := fun ρ w => (f ρ w).bind fun d w1 => match d with
  | .bool b => .ok (.bool (!b)) w1
  | _ => .no
theorem pf_one {op a pos} {f : FE} (h : PF X W a f) : PF X W (.BoolOp op [a] pos) f := pe_one h
theorem pf_and {a b : Expr} {rest : List Expr} {pos : Pos} {f k : FE} (ha : PF X W a f) (hb : PF X W (.BoolOp .And (b :: rest) pos) k) : PF X W (.BoolOp .And (a :: b :: rest) pos) (eAn f k) := by
  refine pe_imp (pe_and ha hb) fun σ H Q ⟨g, ρ, w, hK, r, e, q⟩ => ?_
  refine lX_bind hK r e q fun v H1 g1 d w1 x r1 e1 dv z => ?_
  cases dv with
  | bl b =>
    refine ⟨b, rfl, ?_⟩
    cases b with
    | true => exact iteT ⟨g1, ρ, w1, x.k.trans hK, r1, e1, z⟩
    | false => exact iteF (z _ _ _ (Xt.refl _) r1 (.bl _))
  | _ => exact z.elim
theorem pf_not {a : Expr} {pos : Pos} {f : FE} (ha : PF X W a f) : PF X W (.UnaryOp .Not a pos) (eNo f) := by
  refine pe_imp (pe_not ha) fun σ H Q ⟨g, ρ, w, hK, r, e, q⟩ => ?_
  refine lX_bind hK r e q fun v H1 g1 d w1 x r1 e1 dv z => ?_
  cases dv with
  | bl b => exact ⟨b, rfl, z _ _ _ (Xt.refl _) r1 (.bl _)⟩
  | _ => exact z.elim
noncomputable def eIf (t : FT) (f k : FE) : FE := fun ρ w => (t ρ w).bind fun b w1 => cond b (f ρ w1) (k ρ w1)
theorem pf_ifx {c a b : Expr} {pos : Pos} {t : FT} {f k : FE} (hc : PTf X W c t) (ha : PF X W a f) (hb : PF X W b k) : PF X W (.IfExp c a b pos) (eIf t f k) := by
  refine pe_imp (pe_ifExp hc ha hb) fun σ H Q ⟨g, ρ, w, hK, r, e, q⟩ => ?_
  refine lX_bind hK r e q fun v H1 g1 d w1 x r1 e1 dv z => ?_
  subst dv
  cases v with
  | true => exact iteT ⟨g1, ρ, w1, x.k.trans hK, r1, e1, z⟩
  | false => exact iteF ⟨g1, ρ, w1, x.k.trans hK, r1, e1, z⟩

/-! ### what stands in the store -/
noncomputable def lstOf (w : Ws) : PyData → Option (List PyData)
  | .list ds => some ds
  | .dict [(.int l, .none)] => match w[l.toNat]? with
    | some (.lst xs) => some xs
    | _ => none
  | _ => none
noncomputable def dkOf (w : Ws) : PyData → Option (List (Key × PyData))
  | .dict [(.int l, .none)] => match w[l.toNat]? with
    | some (.dK xs) => some xs
    | _ => none
  | _ => none
theorem lstOf_ok {g : Gd} {H : Hp} {w : Ws} (r : Rp g H w) {v : V} {d : PyData} (h : Dq g v d) {ds : List PyData} (e : lstOf w d = some ds) : ∃ a xs, v = .ref a ∧ SqL g.K H a xs ∧ DqA g xs ds := by
  cases h with
  | lst a da => cases e; exact ⟨_, _, rfl, r.sqL a, da⟩
  | @ref l hl =>
    simp only [lstOf, Int.toNat_natCast] at e
    split at e
    · rename_i xs hx
      cases e
      obtain ⟨_, ys, hy, dy⟩ := r.cell _ _ hx
      exact ⟨_, ys, rfl, SqL.of hy, dy⟩
    · cases e
  | _ => cases e
theorem dkOf_ok {g : Gd} {H : Hp} {w : Ws} (r : Rp g H w) {v : V} {d : PyData} (h : Dq g v d) {ds : List (Key × PyData)} (e : dkOf w d = some ds) : ∃ l xs, v = .ref (g.μ l) ∧ d = rf l ∧ w[l]? = some (.dK ds) ∧ g.F (g.μ l) = none ∧ H (g.μ l) = some (.dK xs) ∧ KvR g xs ds := by
  cases h with
  | @ref l hl =>
    simp only [dkOf, Int.toNat_natCast] at e
    split at e
    · rename_i xs hx
      cases e
      obtain ⟨hn, ys, hy, dy⟩ := r.cell _ _ hx
      exact ⟨l, ys, rfl, rfl, hx, hn, hy, dy⟩
    · cases e
  | _ => cases e

/-! ### truth -/
noncomputable def truD : PyData → Ws → Option Bool
  | .none, _ => some false
  | .bool b, _ => some b
  | .int i, _ => some (i != 0)
  | .str y, _ => if szOk y.length then some ((y.length : Int) != 0) else none
  | .list xs, _ => some (!xs.isEmpty)
  | .tuple xs, _ => some (!xs.isEmpty)
  | .dict [(.int l, .none)], w => match w[l.toNat]? with
    | some (.lst xs) => some (!xs.isEmpty)
    | some (.dK xs) => some (!xs.isEmpty)
    | _ => none
  | .dict _, _ => none
noncomputable def tTr (f : FE) : FT := fun ρ w => (f ρ w).bind fun d w1 => Oc.of (truD d w1) w1
theorem DqA.isEmpty {g : Gd} {xs : List V} {ds : List PyData} (h : DqA g xs ds) : ds.isEmpty = xs.isEmpty := by cases h <;> rfl
theorem KvR.isEmpty {κ : Type} {g : Gd} {xs : List (κ × V)} {ds : List (κ × PyData)} (h : KvR g xs ds) : ds.isEmpty = xs.isEmpty := by cases h <;> rfl
theorem truD_ok {g : Gd} {H : Hp} {w : Ws} (r : Rp g H w) {v : V} {d : PyData} (h : Dq g v d) {b : Bool} (e : truD d w = some b) : TruV g.K v H b := by
  cases h with
  | non => exact (Option.some.inj e).symm
  | bl => exact (Option.some.inj e).symm
  | int => exact (Option.some.inj e).symm
  | str =>
    simp only [truD] at e
    split at e
    · rename_i hz
      exact ⟨of_decide_eq_true hz, (Option.some.inj e).symm⟩
    · cases e
  | exc => cases e
  | fk => cases e
  | ft => cases e
  | wt => cases e
  | fi => cases e
  | lst a da => exact .inl ⟨_, r.sqL a, by rw [← da.isEmpty]; exact (Option.some.inj e).symm⟩
  | tup a da => exact .inr (.inl ⟨_, r.sqT a, by rw [← da.isEmpty]; exact (Option.some.inj e).symm⟩)
  | @ref l hl =>
    simp only [truD, Int.toNat_natCast] at e
    split at e
    · rename_i xs hx
      obtain ⟨_, ys, hy, dy⟩ := r.cell _ _ hx
      exact .inl ⟨_, SqL.of hy, by rw [← dy.isEmpty]; exact (Option.some.inj e).symm⟩
    · rename_i xs hx
      obtain ⟨_, ys, hy, dy⟩ := r.cell _ _ hx
      exact .inr (.inr ⟨_, hy, by rw [← dy.isEmpty]; exact (Option.some.inj e).symm⟩)
    · cases e
theorem ptf_tru {a : Expr} {f : FE} (ha : PF X W a f) (he : ∀ whole, isTrue a X.env whole = (do let v ← whole; standAt a.pos; holding [v] (truthy v)) := by intro _; rfl) : PTf X W a (tTr f) := by
  refine pt_imp (pt_truth ha he) fun σ H Q ⟨g, ρ, w, hK, r, e, q⟩ => ?_
  refine lX_bind hK r e q fun v H1 g1 d w1 x r1 e1 dv z => ?_
  cases hz : truD d w1 with
  | none => rw [hz] at z; exact z.elim
  | some b =>
    rw [hz] at z
    refine ⟨b, ?_, z _ _ _ (Xt.refl _) r1 rfl⟩
    rw [← hK, ← x.k]
    exact truD_ok r1 dv hz
end
end Td

set_option autoImplicit false
set_option maxRecDepth 100000
namespace Td
open PySem L2
variable {X : Cx}
/-! ### tuples that an operation makes, their objects known -/
/-- a new tuple at any free slot -/
noncomputable abbrev NwT (H : Hp) (Q : VK) (xs : List V) : Prop := ∀ (p : Addr) (o : Obj), o.dict = none → H p = none → Q (.ref p) (upd H p (.frz o (.tup xs)))
theorem nwT_end {pins : List (Addr × Obj)} {σ : St} {H : Hp} {s : Shared} {Q : VK} {us : List Value} {xs : List V} (I : Inv X pins σ H s) (r : Vals xs us) (z : xs.length ≤ sizeLine) (q : NwT H Q xs) :
    EP X pins σ Q (.ref s.heap.objs.size) { s with heap := s.heap.push (tuO us) } :=
  ⟨.ref s.heap.objs.size, _, laidT I r z, rfl, q _ _ rfl (I.hok.fresh (Nat.le_refl _))⟩
noncomputable def rCatV (K : PySem.W.Frag) : R2 := fun x y H Q => ∃ a b xs ys, x = .ref a ∧ y = .ref b ∧ SqT K H a xs ∧ SqT K H b ys ∧ xs.length + ys.length ≤ sizeLine ∧
  (xs = [] → Q (.ref b) H) ∧ (xs ≠ [] → ys = [] → Q (.ref a) H) ∧ (xs ≠ [] → ys ≠ [] → NwT H Q (xs ++ ys))
theorem op_catV : OpR X (binaryOp .Add) (rCatV X.K) := by
  rintro pins s σ H x y v u Q I rx ry ⟨a, b, xs, ys, rfl, rfl, ha, hb, hl, qa, qb, qc⟩
  cases rx
  cases ry
  obtain ⟨va, ra, ta, _⟩ := I.tuple ha
  obtain ⟨vb, rb, tb, _⟩ := I.tuple hb
  by_cases hx : xs = []
  · subst hx
    cases ra
    exact cat_tup0 ta tb ⟨.ref b, H, I, rfl, qa rfl⟩
  have hva : va ≠ [] := fun e => hx (ra.nil_iff.mp e)
  have hll : va.length + vb.length ≤ sizeLine := by
    rw [← ra.length, ← rb.length]
    exact hl
  refine HT.cat_tup ta tb hva (fun e => ⟨.ref a, H, I, rfl, qb hx (rb.nil_iff.mp e)⟩) (fun e => ?_) hll
  exact nwT_end I (ra.append rb) (by rw [List.length_append]; exact hl) (qc hx fun e2 => e (rb.nil_iff.mpr e2))
noncomputable def rSlV (K : PySem.W.Frag) : V → Option Int → Option Int → Hp → VK → Prop := fun x lo hi H Q => ∃ a xs, x = .ref a ∧ SqT K H a xs ∧
  (HT.sIx xs.length 0 lo = 0 ∧ HT.sIx xs.length xs.length hi = xs.length → Q (.ref a) H) ∧ (¬ (HT.sIx xs.length 0 lo = 0 ∧ HT.sIx xs.length xs.length hi = xs.length) → NwT H Q (cutV xs lo hi))
theorem sl_tupV : SlR X (rSlV X.K) := by
  rintro pins s σ H x v vl vu lo hi sl Q I rx hs pl pu ⟨a, xs, rfl, hx, q1, q2⟩
  by_cases hw : HT.sIx xs.length 0 lo = 0 ∧ HT.sIx xs.length xs.length hi = xs.length
  · exact sl_tupA pins s σ H _ v vl vu lo hi sl Q I rx hs pl pu ⟨a, xs, rfl, hx, q1, fun n => absurd hw n⟩
  cases rx
  obtain ⟨vs, rv, ht, hz⟩ := I.tuple hx
  have hlen : vs.toArray.size = xs.length := by rw [List.size_toArray]; exact rv.length.symm
  refine ⟨"tuple", _, PyProof.Rows.slot_tuple_getitem.lookup, ht.typeIs, ?_⟩
  refine HT.getItem_tuple_cut ht hs pl pu (by rw [hlen]; exact hw) ?_ (by rw [hlen]; exact hz)
  rw [hlen]
  exact nwT_end I ((rv.drop (HT.sIx xs.length 0 lo)).take (HT.sIx xs.length xs.length hi - HT.sIx xs.length 0 lo)) (Nat.le_trans (cutV_length xs lo hi) hz) (q2 hw)
theorem call_tuple_ofV : CallR X (.type "tuple") (fun xs H Q => ∃ p ys, xs = [.ref p] ∧ SqL X.K H p ys ∧ NwT H Q ys) := by
  rintro pins s σ H xs us Q I r ⟨p, ys, rfl, hq, q⟩
  obtain ⟨u, rfl, rx⟩ := vals1 r
  cases rx
  obtain ⟨vs, rv, pl, hz⟩ := I.list hq
  have hlen := rv.length
  refine call_tuple_list pl.isList (fun h' kp => ?_) (by simp only [List.size_toArray] <;> omega)
  have I1 : Inv X pins σ H { s with heap := h' } := I.kept (t' := s.toks) kp
  exact nwT_end I1 rv hz q
noncomputable def rRepV (K : PySem.W.Frag) : R2 := fun x y H Q => ∃ l k xs, x = .ref l ∧ y = .int k ∧ SqT K H l xs ∧ xs ≠ [] ∧ (2 ≤ k ∧ k ≤ 1000 ∧ xs.length ≤ 1000) ∧ NwT H Q (List.replicate k.toNat xs).flatten
theorem op_repV : OpR X (binaryOp .Mult) (rRepV X.K) := by
  rintro pins s σ H x y v u Q I rx ry ⟨l, k, xs, rfl, rfl, sq, nz, ⟨lo, hi, few⟩, q⟩
  cases rx
  obtain ⟨t, rfl⟩ := ry
  obtain ⟨vs, rv, ⟨⟨cls, dd, data, sl⟩, at1, ec, n, ed⟩, _⟩ := I.tuple sq
  simp only at ec ed
  subst ec ed
  have el : vs.length = xs.length := rv.length.symm
  have nv : vs ≠ [] := fun e => nz (List.eq_nil_of_length_eq_zero (by rw [← el, e]; rfl))
  have em : vs.toArray.isEmpty = false := by
    cases vs with
    | nil => exact absurd rfl nv
    | cons _ _ => rfl
  have sz : vs.toArray.size = xs.length := by rw [List.size_toArray, el]
  have many : k.toNat * xs.length ≤ 1000 * 1000 := Nat.mul_le_mul (by omega) few
  have big : ((vs.toArray.size : Nat) : Int) * k ≤ 1000000 := by
    rw [sz]
    have : ((xs.length : Nat) : Int) * k ≤ 1000 * k := Int.mul_le_mul_of_nonneg_right (by omega) (by omega)
    omega
  have len1 : (List.replicate k.toNat vs).flatten.length ≤ sizeLine := by
    rw [PyProof.Rows.lm_len_rep_flat, el, sizeLine_eq]
    omega
  have len2 : (List.replicate k.toNat xs).flatten.length ≤ sizeLine := by
    rw [PyProof.Rows.lm_len_rep_flat, sizeLine_eq]
    omega
  have g1 : (decide (k < -(2 ^ 63)) || decide (k ≥ 2 ^ 63)) = false := by
    rw [decide_eq_false (by omega), decide_eq_false (by omega)] <;> rfl
  have g2 : (vs.toArray.isEmpty || k == 1) = false := by
    rw [em, Bool.false_or]
    exact beq_eq_false_iff_ne.mpr (by omega)
  have g3 : (decide (k ≤ 0) || vs.toArray.isEmpty) = false := by
    rw [em, Bool.or_false]
    exact decide_eq_false (by omega)
  have g4 : Builtin.Tuple.tupleTooMany (((vs.toArray.size : Nat) : Int) * k) = false := by
    unfold Builtin.Tuple.tupleTooMany
    rw [sizeLine_eq]
    exact decide_eq_false (by omega)
  have g5 := tuple_mulW l vs.toArray n dd sl k t g1 g2 g3 (by omega) g4 (by rw [size_rep, List.size_toArray]; exact len1)
  have g6 := int_rmul_tuple k t l vs.toArray n dd sl
  refine wpAny_binaryOp_repeat_ref (T := "tuple") (U := "int") (by decide) ⟨_, at1, rfl⟩ (fun s' => typeIs_int s' k t) noFill_tuple_mul F.fills_int_mul F.slot_int_rmul repeat_tuple F.slot_int_index.lookup ?_
  refine call_meets F.slot_int_rmul (typeIs_int s k t) F.entry_int_rmul (F.args_int_rmul_2 _ _) g6 ⟨at1, rfl, ⟨_, at1, rfl⟩, ?_⟩
  refine call_meets F.slot_tuple_mul ⟨_, at1, rfl⟩ F.entry_tuple_mul (F.args_tuple_mul_2 _ _) g5 ⟨at1, ?_⟩
  rw [size_rep]
  exact nwT_end I (rv.rep k.toNat) len2 q
end Td

set_option Elab.async false
set_option linter.all false
set_option maxRecDepth 100000
set_option maxHeartbeats 4000000
namespace Td
open PySem L2
section
variable {X : Cx} {W : WX}
/-! ### lists that stand anywhere: + -/
theorem cat_lists {pins : List (Addr × Obj)} {s : Shared} {σ : St} {H : Hp} {a b : Addr} {xs ys : List V} {Q : VK} (I : Inv X pins σ H s) (ha : SqL X.K H a xs) (hb : SqL X.K H b ys) (hz : xs.length + ys.length ≤ sizeLine)
    (q : ∀ p, H p = none → Q (.ref p) (upd H p (.lst (xs ++ ys)))) : wpAny (model X.prog X.w) X.A (binaryOp .Add (.ref a) (.ref b)) (EP X pins σ Q) X.xe s := by
  obtain ⟨us, r1, ⟨⟨c1, d1, t1, s1⟩, n1, g1, hc1, hd1, ht1⟩, z1⟩ := I.list ha
  obtain ⟨vs, r2, ⟨⟨c2, d2, t2, s2⟩, n2, g2, hc2, hd2, ht2⟩, z2⟩ := I.list hb
  simp only at hc1 hd1 ht1 hc2 hd2 ht2
  subst hc1 hd1 ht1 hc2 hd2 ht2
  have l1 := r1.length
  have l2 := r2.length
  have hs : us.toArray.size + vs.toArray.size ≤ sizeLine := by rw [List.size_toArray, List.size_toArray, ← l1, ← l2]; exact hz
  refine PySem.concat_meets ⟨_, g1, rfl⟩ ⟨_, g2, rfl⟩ PySem.noFill_list_add PySem.seq_list_add PySem.F.slot_list_add PySem.F.entry_list_add (PySem.F.args_list_add_2 _ _)
    (PyProof.Rows.list_addW a b us.toArray vs.toArray n1 n2 none none s1 s2 hs) ⟨g1, g2, ?_⟩
  have ea : us.toArray ++ vs.toArray = (us ++ vs).toArray := by simp
  rw [ea]
  exact ⟨.ref _, _, I.lnew (t' := s.toks) (r1.append r2) (by rw [List.length_append]; exact hz), rfl, q _ I.fresh⟩

/-! ### + -/
noncomputable def b01 (b : Bool) : Int := if b = true then (1 : Int) else 0
noncomputable def addD (w : Ws) : PyData → PyData → Option PyData
  | .int i, .int j => some (.int (i + j))
  | .bool b, .int j => some (.int (b01 b + j))
  | .str a, .str b => if szOk (a.length + b.length) then some (.str (a ++ b)) else none
  | .tuple a, .tuple b => if szOk (a.length + b.length) then some (.tuple (a ++ b)) else none
  | d, e => match lstOf w d, lstOf w e with
    | some a, some b => if szOk (a.length + b.length) then some (.list (a ++ b)) else none
    | _, _ => none
theorem add_lst {pins : List (Addr × Obj)} {s : Shared} {σ : St} {H : Hp} {x y : V} {v u : Value} {Q : VK} {g : Gd} {w : Ws} {d e z : PyData} (I : Inv X pins σ H s) (rx : RelV x v) (ry : RelV y u) (hK : g.K = X.K) (r : Rp g H w) (dx : Dq g x d) (dy : Dq g y e)
    (hz : (match lstOf w d, lstOf w e with
    | some a, some b => if szOk (a.length + b.length) then some (PyData.list (a ++ b)) else none
    | _, _ => none) = some z) (q : ∀ v H' g', Xt g g' → Rp g' H' w → Dq g' v z → Q v H') : wpAny (model X.prog X.w) X.A (binaryOp .Add v u) (EP X pins σ Q) X.xe s := by
  split at hz
  · rename_i a b ha hb
    split at hz
    · rename_i hs
      cases hz
      obtain ⟨p1, xs, rfl, s1, d1⟩ := lstOf_ok r dx ha
      obtain ⟨p2, ys, rfl, s2, d2⟩ := lstOf_ok r dy hb
      cases rx
      cases ry
      refine cat_lists I (by rw [← hK]; exact s1) (by rw [← hK]; exact s2) (by rw [d1.length, d2.length]; exact of_decide_eq_true hs) fun p hp => ?_
      exact q _ _ _ (Xt.put (r.fnone hp)) (r.put hp) (newL r hp (d1.append d2))
    · cases hz
  · cases hz
theorem op_addD : OpR X (binaryOp .Add) (rD2 X.K addD) := by
  intro pins s σ H x y v u Q I rx ry ⟨g, w, d, e, z, hK, r, dx, dy, hz, q⟩
  unfold addD at hz
  split at hz
  · cases hz; cases dx; cases dy
    exact op_add pins s σ H _ _ v u Q I rx ry ⟨_, _, rfl, rfl, q _ H g (Xt.refl g) r (.int _)⟩
  · cases hz; cases dx; cases dy
    cases rx
    obtain ⟨t, rfl⟩ := ry
    exact PySem.IntBool.add_bool_int ⟨.int _, H, I.tok _, ⟨_, rfl⟩, q _ H g (Xt.refl g) r (.int _)⟩
  · cases dx; cases dy
    split at hz
    · rename_i hs
      cases hz
      exact op_add_str pins s σ H _ _ v u Q I rx ry ⟨_, _, rfl, rfl, of_decide_eq_true hs, q _ H g (Xt.refl g) r (.str _)⟩
    · cases hz
  · cases dx
    cases dy
    rename_i a1 b1 s1 d1 a2 b2 s2 d2
    split at hz
    · rename_i hs
      cases hz
      refine op_catV pins s σ H _ _ v u Q I rx ry ⟨_, _, _, _, rfl, rfl, by rw [← hK]; exact r.sqT s1, by rw [← hK]; exact r.sqT s2, by rw [d1.length, d2.length]; exact of_decide_eq_true hs, fun e0 => ?_, fun _ e0 => ?_, fun _ _ p o ho hp => ?_⟩
      · subst e0
        cases d1
        exact q _ H g (Xt.refl g) r (.tup s2 d2)
      · subst e0
        cases d2
        rw [List.append_nil] at q
        exact q _ H g (Xt.refl g) r (.tup s1 d1)
      · exact q _ _ _ (Xt.put (r.fnone hp)) (r.put hp) (newT r ho hp (d1.append d2))
    · cases hz
  · exact add_lst I rx ry hK r dx dy hz q

/-! ### ints -/
noncomputable def intD (c : Int → Int → Bool) (f : Int → Int → Int) (_ : Ws) : PyData → PyData → Option PyData
  | .int i, .int j => if c i j then some (.int (f i j)) else none
  | _, _ => none
theorem op_intD {fn : Value → Value → Sem Value} {c : Int → Int → Bool} {C : Int → Int → Prop} {f : Int → Int → Int} (h : OpR X fn (rI C fun i j => .int (f i j))) (hc : ∀ i j, c i j = true → C i j) : OpR X fn (rD2 X.K (intD c f)) := by
  intro pins s σ H x y v u Q I rx ry ⟨g, w, d, e, z, hK, r, dx, dy, hz, q⟩
  unfold intD at hz
  split at hz
  · cases dx; cases dy
    split at hz
    · rename_i hs
      cases hz
      exact h pins s σ H _ _ v u Q I rx ry ⟨_, _, rfl, rfl, hc _ _ hs, q _ H g (Xt.refl g) r (.int _)⟩
    · cases hz
  · cases hz
noncomputable def subD (_ : Ws) : PyData → PyData → Option PyData
  | .int i, .int j => some (.int (i - j))
  | .bool b, .int j => some (.int (b01 b - j))
  | _, _ => none
theorem op_subD : OpR X (binaryOp .Sub) (rD2 X.K subD) := by
  intro pins s σ H x y v u Q I rx ry ⟨g, w, d, e, z, hK, r, dx, dy, hz, q⟩
  unfold subD at hz
  split at hz
  · cases hz; cases dx; cases dy
    exact op_sub pins s σ H _ _ v u Q I rx ry ⟨_, _, rfl, rfl, q _ H g (Xt.refl g) r (.int _)⟩
  · cases hz; cases dx; cases dy
    cases rx
    obtain ⟨t, rfl⟩ := ry
    exact PySem.IntBool.sub_bool_int ⟨.int _, H, I.tok _, ⟨_, rfl⟩, q _ H g (Xt.refl g) r (.int _)⟩
  · cases hz
noncomputable def cDv : Int → Int → Bool := fun _ j => decide (j ≠ 0) && decide (j.natAbs < 1073741824)
noncomputable abbrev fdvD := intD cDv Int.fdiv
theorem op_fdvD : OpR X (binaryOp .FloorDiv) (rD2 X.K fdvD) := op_intD op_fdivN fun i j h => show _ ∧ _ from by
  unfold cDv at h
  rw [Bool.and_eq_true] at h
  exact ⟨of_decide_eq_true h.1, of_decide_eq_true h.2⟩
noncomputable def cNz : Int → Int → Bool := fun _ j => decide (j ≠ 0)
noncomputable abbrev modD := intD cNz Int.fmod
theorem op_modD : OpR X (binaryOp .Mod) (rD2 X.K modD) := op_intD op_modN fun i j h => show j ≠ 0 from by unfold cNz at h; exact of_decide_eq_true h
noncomputable def cPw : Int → Int → Bool := fun i j => decide (0 ≤ j) && decide (j ≤ 1000000) && decide (i.natAbs < 2 ^ 64)
noncomputable abbrev powD := intD cPw (fun i j => i ^ j.toNat)
theorem op_powD : OpR X (binaryOp .Pow) (rD2 X.K powD) := op_intD op_pow fun i j h => show _ ∧ _ ∧ _ from by
  unfold cPw at h
  rw [Bool.and_eq_true, Bool.and_eq_true] at h
  exact ⟨of_decide_eq_true h.1.1, of_decide_eq_true h.1.2, of_decide_eq_true h.2⟩

/-! ### * -/
/-! ### a tuple, once -/
theorem tup_once (l : Addr) (items : Array Value) (n : Nat) (dd : Option Addr) (sl : Array (Option Value)) (u : Tok) :
    Meets (Builtin.«tuple.__mul__» ⟨[.ref l, .int 1 u], []⟩) (fun _ R s => s.heap.get? l = some { cls := .type "tuple", dict := dd, data := .seq items n, slots := sl } ∧ R (.ok (.ret (Value.ref l))) s) :=
  .of_wp fun prog w A R s ⟨lies, h⟩ => by
    obtain ⟨hp, g, d, tk, os⟩ := s
    have ix := AutoSeq1.idx_int
    wp_walk using wpAny_loadPart' lies
    exact ⟨_, rfl, h⟩
theorem op_once : OpR X (binaryOp .Mult) (fun x y H Q => ∃ l xs, x = .ref l ∧ y = .int 1 ∧ SqT X.K H l xs ∧ Q (.ref l) H) := by
  intro pins s σ H x y v u Q I rx ry ⟨l, xs, ex, ey, sq, q⟩
  subst ex ey
  cases rx
  obtain ⟨t, rfl⟩ := ry
  obtain ⟨its, _, ⟨⟨cls, dd, data, sl⟩, lies, ec, n, ed⟩, _⟩ := I.tuple sq
  simp only at ec ed
  subst ec ed
  exact wpAny_binaryOp_repeat_ref (T := "tuple") (U := "int") (by decide) ⟨_, lies, rfl⟩ (fun s' => typeIs_int s' 1 t) noFill_tuple_mul F.fills_int_mul F.slot_int_rmul repeat_tuple F.slot_int_index.lookup
    (call_meets F.slot_int_rmul (typeIs_int s 1 t) F.entry_int_rmul (F.args_int_rmul_2 _ _) (int_rmul_tuple 1 t l its.toArray n dd sl)
      ⟨lies, rfl, ⟨_, lies, rfl⟩, call_meets F.slot_tuple_mul ⟨_, lies, rfl⟩ F.entry_tuple_mul (F.args_tuple_mul_2 _ _) (tup_once l its.toArray n dd sl t) ⟨lies, ⟨.ref l, H, I, rfl, q⟩⟩⟩)
/-! ### a tuple, no time -/
theorem tup_zero (l : Addr) (items : Array Value) (n : Nat) (dd : Option Addr) (sl : Array (Option Value)) (u : Tok) (full : items.isEmpty = false) :
    Meets (Builtin.«tuple.__mul__» ⟨[.ref l, .int 0 u], []⟩) (fun _ R s => s.heap.get? l = some { cls := .type "tuple", dict := dd, data := .seq items n, slots := sl } ∧ R (.ok (.ret (Value.ref s.heap.objs.size))) { s with heap := s.heap.push { cls := Value.type "tuple", data := Data.seq #[] }, toks := s.toks }) :=
  .of_wp fun prog w A R s ⟨lies, h⟩ => by
    obtain ⟨hp, g, d, tk, os⟩ := s
    have ix := AutoSeq1.idx_int
    have c1 : (items.isEmpty || (0 : Int) == 1) = false := by rw [full]; rfl
    have c0 : (decide ((0 : Int) < -(2 ^ 63)) || decide ((0 : Int) ≥ 2 ^ 63)) = false := by decide
    wp_walk using wpAny_loadPart' lies
    repeat (first
      | (refine wpAny_ite_false (decide_eq_false (by rw [c0]; exact Bool.false_ne_true)) ?_; wp_walk using wpAny_loadPart' lies)
      | (refine wpAny_ite_false (decide_eq_false (by rw [c1]; exact Bool.false_ne_true)) ?_; wp_walk using wpAny_loadPart' lies))
    exact ⟨_, rfl, h⟩
theorem op_zero : OpR X (binaryOp .Mult) (fun x y H Q => ∃ l xs, x = .ref l ∧ y = .int 0 ∧ SqT X.K H l xs ∧ xs ≠ [] ∧ NwT H Q []) := by
  intro pins s σ H x y v u Q I rx ry ⟨l, xs, ex, ey, sq, full, q⟩
  subst ex ey
  cases rx
  obtain ⟨t, rfl⟩ := ry
  obtain ⟨its, rv, ⟨⟨cls, dd, data, sl⟩, lies, ec, n, ed⟩, _⟩ := I.tuple sq
  simp only at ec ed
  subst ec ed
  have fi : its.toArray.isEmpty = false := by
    cases its with
    | nil => exact absurd (rv.nil_iff.mp rfl) full
    | cons _ _ => rfl
  exact wpAny_binaryOp_repeat_ref (T := "tuple") (U := "int") (by decide) ⟨_, lies, rfl⟩ (fun s' => typeIs_int s' 0 t) noFill_tuple_mul F.fills_int_mul F.slot_int_rmul repeat_tuple F.slot_int_index.lookup
    (call_meets F.slot_int_rmul (typeIs_int s 0 t) F.entry_int_rmul (F.args_int_rmul_2 _ _) (int_rmul_tuple 0 t l its.toArray n dd sl)
      ⟨lies, rfl, ⟨_, lies, rfl⟩, call_meets F.slot_tuple_mul ⟨_, lies, rfl⟩ F.entry_tuple_mul (F.args_tuple_mul_2 _ _) (tup_zero l its.toArray n dd sl t fi) ⟨lies, nwT_end I .nil (Nat.zero_le _) q⟩⟩)
noncomputable def cMl (i j : Int) : Bool := decide (i.natAbs < 2 ^ 64) || decide (j.natAbs < 2 ^ 64)
noncomputable def cMs (n : Nat) (k : Int) : Bool := decide (2 ≤ k ∧ k ≤ 10000 ∧ 1 ≤ n ∧ n ≤ 1000)
noncomputable def cMt (n : Nat) (k : Int) : Bool := decide (2 ≤ k ∧ k ≤ 1000 ∧ 1 ≤ n ∧ n ≤ 1000)
noncomputable def mulD (_ : Ws) : PyData → PyData → Option PyData
  | .int i, .int j => if cMl i j then some (.int (i * j)) else none
  | .str a, .int k => if cMs a.length k then some (.str (PySem.Txt.mul a k)) else none
  | .tuple a, .int k => if k = 1 then some (.tuple a) else if cMt a.length k then some (.tuple (List.replicate k.toNat a).flatten) else if k = 0 ∧ a ≠ [] then some (.tuple []) else none
  | _, _ => none
theorem DqA.rep {g : Gd} {vs : List V} {ds : List PyData} (h : DqA g vs ds) : ∀ n, DqA g (List.replicate n vs).flatten (List.replicate n ds).flatten
  | 0 => .nil
  | n + 1 => by
    rw [List.replicate_succ, List.replicate_succ, List.flatten_cons, List.flatten_cons]
    exact h.append (DqA.rep h n)
theorem op_mulD : OpR X (binaryOp .Mult) (rD2 X.K mulD) := by
  intro pins s σ H x y v u Q I rx ry ⟨g, w, d, e, z, hK, r, dx, dy, hz, q⟩
  unfold mulD at hz
  split at hz
  · cases dx; cases dy
    split at hz
    · rename_i hs
      cases hz
      exact op_mul pins s σ H _ _ v u Q I rx ry ⟨_, _, rfl, rfl, (show _ ∨ _ from by
        unfold cMl at hs
        rw [Bool.or_eq_true] at hs
        rcases hs with hs | hs
        · have := of_decide_eq_true hs; exact Or.inl ⟨by omega, by omega⟩
        · have := of_decide_eq_true hs; exact Or.inr ⟨by omega, by omega⟩), q _ H g (Xt.refl g) r (.int _)⟩
    · cases hz
  · cases dx; cases dy
    split at hz
    · rename_i a k hs
      cases hz
      obtain ⟨t, rfl⟩ := rx
      obtain ⟨t2, rfl⟩ := ry
      obtain ⟨h1, h2, h3, h4⟩ := of_decide_eq_true hs
      have hb : a.length * k.toNat ≤ 1000 * 10000 := Nat.mul_le_mul h4 (by omega)
      refine PySem.SB.mul ⟨?_, fun _ _ => ?_, fun _ _ => ?_⟩ fun t' tk => ⟨.str _, H, I.tok _, ⟨_, rfl⟩, q _ H g (Xt.refl g) r (.str _)⟩
      · rw [decide_eq_false (by omega), decide_eq_false (by omega)]; rfl
      · have : (1000 : Int) ≤ (2 ^ 63 - 1) / k := by
          refine (Int.le_ediv_iff_mul_le (by omega)).mpr ?_
          omega
        omega
      · show decide (_ > sizeLine) = false
        refine decide_eq_false ?_
        rw [sizeLine_eq]
        omega
    · cases hz
  · cases dx; cases dy
    rename_i a1 b1 s1 d1
    split at hz
    · rename_i h1
      cases hz
      subst h1
      exact op_once pins s σ H _ _ v u Q I rx ry ⟨_, _, rfl, rfl, by rw [← hK]; exact r.sqT s1, q _ H g (Xt.refl g) r (.tup s1 d1)⟩
    split at hz
    · rename_i hs
      cases hz
      obtain ⟨h1, h2, h3, h4⟩ := of_decide_eq_true hs
      rw [← d1.length] at h3 h4
      refine op_repV pins s σ H _ _ v u Q I rx ry ⟨_, _, _, rfl, rfl, by rw [← hK]; exact r.sqT s1, fun e0 => ?_, ⟨h1, h2, h4⟩, fun p o ho hp => ?_⟩
      · rw [e0] at h3; cases h3
      · exact q _ _ _ (Xt.put (r.fnone hp)) (r.put hp) (newT r ho hp (d1.rep _))
    split at hz
    · rename_i hk
      obtain ⟨rfl, hk⟩ := hk
      cases hz
      exact op_zero pins s σ H _ _ v u Q I rx ry ⟨_, _, rfl, rfl, by rw [← hK]; exact r.sqT s1, fun e0 => hk (by have := d1.length; rw [e0] at this; exact List.eq_nil_of_length_eq_zero this.symm), fun p o ho hp => q _ _ _ (Xt.put (r.fnone hp)) (r.put hp) (newT r ho hp .nil)⟩
    · cases hz
  · cases hz

/-! ### one-place -/
noncomputable def rD1 (K : PySem.W.Frag) (f : Ws → PyData → Option PyData) : V → Hp → VK → Prop := fun x H Q =>
  ∃ g w d z, g.K = K ∧ Rp g H w ∧ Dq g x d ∧ f w d = some z ∧ ∀ v H' g', Xt g g' → Rp g' H' w → Dq g' v z → Q v H'
noncomputable def eU (f : Ws → PyData → Option PyData) (fa : FE) : FE := fun ρ w => (fa ρ w).bind fun d w1 => Oc.of (f w1 d) w1
theorem pf_un {op : UnaryOp} {f : Ws → PyData → Option PyData} {a : Expr} {fa : FE} {pos : Pos} (ho : UnR X (unaryOp op) (rD1 X.K f)) (ha : PF X W a fa) : PF X W (.UnaryOp op a pos) (eU f fa) := by
  refine pe_imp (pe_un ho ha) fun σ H Q ⟨g, ρ, w, hK, r, e, q⟩ => ?_
  refine lX_bind hK r e q fun v H1 g1 d w1 x r1 e1 dv z => ?_
  cases hz : f w1 d with
  | none => rw [hz] at z; exact z.elim
  | some y =>
    rw [hz] at z
    exact ⟨g1, w1, d, y, x.k.trans hK, r1, dv, hz, z⟩
noncomputable def negD (_ : Ws) : PyData → Option PyData
  | .int i => some (.int (-i))
  | _ => none
theorem un_negD : UnR X (unaryOp .USub) (rD1 X.K negD) := by
  intro pins s σ H x v Q I rx ⟨g, w, d, z, hK, r, dx, hz, q⟩
  unfold negD at hz
  split at hz
  · cases hz; cases dx
    exact un_neg pins s σ H _ v Q I rx ⟨_, rfl, q _ H g (Xt.refl g) r (.int _)⟩
  · cases hz

/-! ### comparisons -/
noncomputable def strLt (a b : Str) : Bool := decide (a.cps.toList < b.cps.toList)
noncomputable def cmpD (fi : Int → Int → Bool) (fs : Str → Str → Bool) (_ : Ws) : PyData → PyData → Option PyData
  | .int i, .int j => some (.bool (fi i j))
  | .str a, .str b => some (.bool (fs a b))
  | _, _ => none
theorem op_cmpD {fn : Value → Value → Sem Value} {fi : Int → Int → Bool} {fs : Str → Str → Bool} (h : OpR X fn (rI0 fun i j => .bl (fi i j))) (h2 : OpR X fn (fun x y H Q => ∃ i j, x = .str i ∧ y = .str j ∧ Q (.bl (fs i j)) H)) : OpR X fn (rD2 X.K (cmpD fi fs)) := by
  intro pins s σ H x y v u Q I rx ry ⟨g, w, d, e, z, hK, r, dx, dy, hz, q⟩
  unfold cmpD at hz
  split at hz
  · cases hz; cases dx; cases dy
    exact h pins s σ H _ _ v u Q I rx ry ⟨_, _, rfl, rfl, q _ H g (Xt.refl g) r (.bl _)⟩
  · cases hz; cases dx; cases dy
    exact h2 pins s σ H _ _ v u Q I rx ry ⟨_, _, rfl, rfl, q _ H g (Xt.refl g) r (.bl _)⟩
  · cases hz
noncomputable abbrev ltD := cmpD (fun i j => decide (i < j)) (fun a b => strLt a b)
noncomputable abbrev leD := cmpD (fun i j => decide (i ≤ j)) (fun a b => !strLt b a)
noncomputable abbrev gtD := cmpD (fun i j => decide (j < i)) (fun a b => strLt b a)
noncomputable abbrev geD := cmpD (fun i j => decide (j ≤ i)) (fun a b => !strLt a b)
theorem op_ltD : OpR X (compareOp .Lt) (rD2 X.K ltD) := op_cmpD op_lt op_lt_str
theorem op_leD : OpR X (compareOp .LtE) (rD2 X.K leD) := op_cmpD op_le op_le_str
theorem op_gtD : OpR X (compareOp .Gt) (rD2 X.K gtD) := op_cmpD op_gt op_gt_str
theorem op_geD : OpR X (compareOp .GtE) (rD2 X.K geD) := op_cmpD op_ge op_ge_str
/-- == of data -/

noncomputable def strsE (d e : PyData) (f : Bool → Bool) : Option PyData := match d, e with
  | .str a, .str b => some (.bool (f (a.cps.toList == b.cps.toList)))
  | _, _ => none
noncomputable def eqD (_ : Ws) (d e : PyData) : Option PyData := if SeqAt.shaped d && SeqAt.shaped e then some (.bool (PyData.eqv d e)) else strsE d e id
noncomputable def neD (_ : Ws) (d e : PyData) : Option PyData := if SeqAt.shaped d && SeqAt.shaped e then some (.bool (!PyData.eqv d e)) else strsE d e not
theorem shaped_lay {d : PyData} (h : SeqAt.shaped d = true) : d.canLay0 = true := SeqAt.canLay_of_shaped h
theorem op_eqD' (hu : X.A.units + 64 < cLine) : OpR X (compareOp .Eq) (rD2 X.K eqD) := by
  intro pins s σ H x y v u Q I rx ry ⟨g, w, d, e, z, hK, r, dx, dy, hz, q⟩
  unfold eqD at hz
  split at hz
  · rename_i hs
    cases hz
    rw [Bool.and_eq_true] at hs
    exact op_eqD hu pins s σ H x y v u Q I rx ry ⟨d, e, hK ▸ dx.dp r.fro _ _ (shaped_lay hs.1), hK ▸ dy.dp r.fro _ _ (shaped_lay hs.2), hs.1, hs.2, q _ H g (Xt.refl g) r (.bl _)⟩
  · unfold strsE at hz
    split at hz
    · cases dx; cases dy; cases hz
      obtain ⟨t, rfl⟩ := rx
      obtain ⟨t', rfl⟩ := ry
      exact PySem.P.eq_str ⟨.bl _, H, I, rfl, q _ H g (Xt.refl g) r (.bl _)⟩
    · cases hz
theorem op_neD' (hu : X.A.units + 64 < cLine) : OpR X (compareOp .NotEq) (rD2 X.K neD) := by
  intro pins s σ H x y v u Q I rx ry ⟨g, w, d, e, z, hK, r, dx, dy, hz, q⟩
  unfold neD at hz
  split at hz
  · rename_i hs
    cases hz
    rw [Bool.and_eq_true] at hs
    exact op_neD hu pins s σ H x y v u Q I rx ry ⟨d, e, hK ▸ dx.dp r.fro _ _ (shaped_lay hs.1), hK ▸ dy.dp r.fro _ _ (shaped_lay hs.2), hs.1, hs.2, q _ H g (Xt.refl g) r (.bl _)⟩
  · unfold strsE at hz
    split at hz
    · cases dx; cases dy; cases hz
      obtain ⟨t, rfl⟩ := rx
      obtain ⟨t', rfl⟩ := ry
      exact PySem.P.ne_str ⟨.bl _, H, I, rfl, q _ H g (Xt.refl g) r (.bl _)⟩
    · cases hz
end
end Td

set_option Elab.async false
set_option linter.all false
set_option maxRecDepth 100000
set_option maxHeartbeats 4000000
namespace Td
open PySem L2
section
variable {X : Cx} {W : WX}
/-! ### in, not in -/
noncomputable def strIn (a b : Str) : Bool := match a.cps.toList with
  | [c] => decide (c ∈ b.cps.toList)
  | _ => !(Builtin.Str.occurrences b a 0 b.length 1).isEmpty
noncomputable def isIn (w : Ws) : PyData → PyData → Option Bool
  | .str a, .str b => some (strIn a b)
  | d, .tuple ds => if SeqAt.shaped d && SeqAt.shaped (.tuple ds) then some (ds.any fun z => PyData.eqv z d) else none
  | d, e => match lstOf w e with
    | some ds => if SeqAt.shaped d && SeqAt.shaped (.list ds) then some (ds.any fun z => PyData.eqv z d) else none
    | none => none
noncomputable def inD (w : Ws) (d e : PyData) : Option PyData := (isIn w d e).map .bool
theorem str_one {a : Str} {c : Nat} (h : a.cps.toList = [c]) : a = ⟨#[c]⟩ := by
  obtain ⟨cps⟩ := a
  have : cps = #[c] := by
    have h' : cps.toList = [c] := h
    rw [← Array.toList_inj]; exact h'
  rw [this]
theorem op_inX (hu : X.A.units + 65 < cLine) : OpR X (compareOp .In) (rD2 X.K inD) := by
  intro pins s σ H x y v u Q I rx ry ⟨g, w, d, e, z, hK, r, dx, dy, hz, q⟩
  obtain ⟨b, hb, rfl⟩ := Option.map_eq_some_iff.mp hz
  clear hz
  have q := q _ H g (Xt.refl g) r (.bl b)
  unfold isIn at hb
  split at hb
  · cases dx; cases dy
    cases hb
    unfold strIn at q
    split at q
    · rename_i c hc
      rw [str_one hc] at rx
      exact op_in_sign pins s σ H _ _ v u Q I rx ry ⟨c, _, rfl, rfl, q⟩
    · exact op_in_str pins s σ H _ _ v u Q I rx ry ⟨_, _, rfl, rfl, q⟩
  · split at hb
    · rename_i hs
      cases hb
      rw [Bool.and_eq_true] at hs
      obtain ⟨as, r1⟩ := Dp.reads I _ _ v (hK ▸ dx.dp r.fro _ _ (shaped_lay hs.1)) rx
      obtain ⟨bs, r2⟩ := Dp.reads I _ _ u (hK ▸ dy.dp r.fro _ _ (shaped_lay hs.2)) ry
      exact SeqAt.in_tuple_reads r2 r1 (SeqAt.canLay_of_shaped hs.2) (SeqAt.canLay_of_shaped hs.1) (PyProof.Rows.room_in_shaped hs.1 hu) ⟨.bl _, H, I, rfl, q⟩
    · cases hb
  · split at hb
    · rename_i ds hl
      split at hb
      · rename_i hs
        cases hb
        rw [Bool.and_eq_true] at hs
        obtain ⟨a, xs, rfl, sq, da⟩ := lstOf_ok r dy hl
        have lay : PyData.canLayAll0 ds = true := by simpa [PyData.canLay0] using shaped_lay hs.2
        exact op_inD hu pins s σ H _ _ v u Q I rx ry ⟨d, ds, hK ▸ dx.dp r.fro _ _ (shaped_lay hs.1), hK ▸ .lst sq (da.dp r.fro _ _ lay), hs.1, hs.2, q⟩
      · cases hb
    · cases hb
/-! ### xs[i] -/
noncomputable def ixD (w : Ws) : PyData → PyData → Option PyData
  | .str z, .int i => if szOk z.length then (atI z.cps.toList i).map fun c => .str ⟨#[c]⟩ else none
  | .tuple ds, .int i => atI ds i
  | d, .int i => match lstOf w d with
    | some ds => atI ds i
    | none => none
  | _, _ => none
theorem DqA.atI {g : Gd} {vs : List V} {ds : List PyData} (h : DqA g vs ds) {i : Int} {d : PyData} (e : L2.atI ds i = some d) : ∃ v, L2.atI vs i = some v ∧ Dq g v d := by
  unfold L2.atI at e ⊢
  rw [h.length]
  cases hx : ixN ds.length i with
  | none => rw [hx] at e; cases e
  | some j =>
    rw [hx] at e
    exact h.get e
theorem ix_D : IxR X (rD2 X.K ixD) := by
  intro vl sl pins s σ H x y v u Q I rx ry ⟨g, w, d, e, z, hK, r, dx, dy, hz, q⟩ hsb
  unfold ixD at hz
  split at hz
  · cases dx; cases dy
    split at hz
    · rename_i hs
      obtain ⟨c, hc, rfl⟩ := Option.map_eq_some_iff.mp hz
      exact ix_seq vl sl pins s σ H _ _ v u Q I rx ry (.inr (.inr ⟨_, _, c, rfl, rfl, of_decide_eq_true hs, hc, q _ H g (Xt.refl g) r (.str _)⟩)) hsb
    · cases hz
  · cases dx; cases dy
    rename_i a1 b1 s1 d1
    obtain ⟨v1, hv, dv⟩ := d1.atI hz
    exact ix_seq vl sl pins s σ H _ _ v u Q I rx ry (.inr (.inl ⟨_, _, _, v1, rfl, rfl, hK ▸ r.sqT s1, hv, q _ H g (Xt.refl g) r dv⟩)) hsb
  · cases dy
    split at hz
    · rename_i ds hl
      obtain ⟨a, xs, rfl, sq, da⟩ := lstOf_ok r dx hl
      obtain ⟨v1, hv, dv⟩ := da.atI hz
      exact ix_seq vl sl pins s σ H _ _ v u Q I rx ry (.inl ⟨_, _, _, v1, rfl, rfl, hK ▸ sq, hv, q _ H g (Xt.refl g) r dv⟩) hsb
    · cases hz
  · cases hz
theorem pf_ix {a b : Expr} {fa fb : FE} {pos : Pos} (ha : PF X W a fa) (hb : PF X W b fb) (hs : PlainIx b := by exact fun _ _ => rfl) : PF X W (.Subscript a b pos) (eB ixD fa fb) := pe_imp (pe_ix ix_D ha hb hs) tOp_of

/-! ### xs[lo:hi] -/
noncomputable abbrev FO := Ev → Ws → Oc (Option Int)
noncomputable abbrev lO (K : PySem.W.Frag) (W : WX) (f : FO) : TO := lX K W (fun _ (b c : Option Int) => b = c) f
theorem po_imp {o : Option Expr} {t t' : TO} (h : PO X o t) (i : ∀ σ H Q, t' σ H Q → t σ H Q) : PO X o t' := ⟨fun pins s σ H Q I q => h.run pins s σ H Q I (i σ H Q q)⟩
noncomputable def oN : FO := fun _ w => .ok none w
noncomputable def oS (f : FE) : FO := fun ρ w => (f ρ w).bind fun d w1 => match d with
  | .int i => .ok (some i) w1
  | _ => .no
theorem pof_none : PO X none (lO X.K W oN) := po_imp po_none fun σ H Q ⟨g, ρ, w, hK, r, e, q⟩ => q _ H g (Xt.refl g) r rfl
theorem pof_some {e : Expr} {f : FE} (h : PF X W e f) : PO X (some e) (lO X.K W (oS f)) := by
  refine po_imp (po_some h) fun σ H Q ⟨g, ρ, w, hK, r, e, q⟩ => ?_
  refine lX_bind hK r e q fun v H1 g1 d w1 x r1 e1 dv z => ?_
  cases dv with
  | int i => exact ⟨i, rfl, z _ _ _ (Xt.refl _) r1 rfl⟩
  | _ => exact z.elim
noncomputable def cutL {α : Type} (xs : List α) (lo hi : Option Int) : List α := (xs.drop (HT.sIx xs.length 0 lo)).take (HT.sIx xs.length xs.length hi - HT.sIx xs.length 0 lo)
noncomputable def cutD (w : Ws) (d : PyData) (lo hi : Option Int) : Option PyData := match d with
  | .str z => if szOk z.length then some (.str (cutS z lo hi)) else none
  | .tuple ds => some (.tuple (cutL ds lo hi))
  | d => match lstOf w d with
    | some ds => some (.list (cutL ds lo hi))
    | none => none
theorem DqA.cut {g : Gd} {vs : List V} {ds : List PyData} (h : DqA g vs ds) (lo hi : Option Int) : DqA g (cutV vs lo hi) (cutL ds lo hi) := by
  unfold cutV cutL
  rw [h.length]
  exact (h.drop _).take _
noncomputable def rCut (K : PySem.W.Frag) : V → Option Int → Option Int → Hp → VK → Prop := fun x lo hi H Q => ∃ g w d z, g.K = K ∧ Rp g H w ∧ Dq g x d ∧ cutD w d lo hi = some z ∧ ∀ v H' g', Xt g g' → Rp g' H' w → Dq g' v z → Q v H'
theorem sl_D : SlR X (rCut X.K) := by
  intro pins s σ H x v vl vu lo hi sl Q I rx hs pl pu ⟨g, w, d, z, hK, r, dx, hz, q⟩
  unfold cutD at hz
  split at hz
  · cases dx
    split at hz
    · rename_i hs'
      cases hz
      exact sl_str pins s σ H _ v vl vu lo hi sl Q I rx hs pl pu ⟨_, rfl, of_decide_eq_true hs', q _ H g (Xt.refl g) r (.str _)⟩
    · cases hz
  · cases dx
    cases hz
    rename_i a1 b1 s1 d1
    refine sl_tupV pins s σ H _ v vl vu lo hi sl Q I rx hs pl pu ⟨_, _, rfl, hK ▸ r.sqT s1, fun hw => ?_, fun _ p o ho hp => ?_⟩
    · refine q _ H g (Xt.refl g) r (.tup s1 ?_)
      rw [d1.length] at hw
      unfold cutL
      rw [hw.1, hw.2, List.drop_zero, Nat.sub_zero, List.take_length]
      exact d1
    · exact q _ _ _ (Xt.put (r.fnone hp)) (r.put hp) (newT r ho hp (d1.cut lo hi))
  · split at hz
    · rename_i ds hl
      cases hz
      obtain ⟨a, xs, rfl, sq, da⟩ := lstOf_ok r dx hl
      exact sl_list pins s σ H _ v vl vu lo hi sl Q I rx hs pl pu ⟨_, _, rfl, hK ▸ sq, fun p hp => q _ _ _ (Xt.put (r.fnone hp)) (r.put hp) (newL r hp (da.cut lo hi))⟩
    · cases hz
noncomputable def eSl (f : FE) (fl fh : FO) : FE := fun ρ w => (f ρ w).bind fun d w1 => (fl ρ w1).bind fun l w2 => (fh ρ w2).bind fun h w3 => Oc.of (cutD w3 d l h) w3
theorem pf_slice {e : Expr} {lo hi : Option Expr} {p2 pos : Pos} {f : FE} {fl fh : FO} (he : PF X W e f) (hl : PO X lo (lO X.K W fl)) (hh : PO X hi (lO X.K W fh)) : PF X W (.Subscript e (.Slice lo hi none p2) pos) (eSl f fl fh) := by
  refine pe_imp (pe_slice sl_D he hl hh) fun σ H Q ⟨g, ρ, w, hK, r, e, q⟩ => ?_
  refine lX_bind hK r e q fun v H1 g1 d w1 x r1 e1 dv z => ?_
  refine lX_bind (x.k.trans hK) r1 e1 z fun l H2 g2 l' w2 x2 r2 e2 hl2 z2 => ?_
  refine lX_bind (x2.k.trans (x.k.trans hK)) r2 e2 z2 fun h H3 g3 h' w3 x3 r3 e3 hh3 z3 => ?_
  subst hl2 hh3
  cases hz : cutD w3 d l h with
  | none => rw [hz] at z3; exact z3.elim
  | some y =>
    rw [hz] at z3
    exact ⟨g3, w3, d, y, x3.k.trans (x2.k.trans (x.k.trans hK)), r3, dv.mono (x2.trans x3) _ _, hz, z3⟩

/-! ### calls of what is built in -/
noncomputable def rDN (K : PySem.W.Frag) (f : Ws → List PyData → Option PyData) : List V → Hp → VK → Prop := fun vs H Q =>
  ∃ g w ds z, g.K = K ∧ Rp g H w ∧ DqA g vs ds ∧ f w ds = some z ∧ ∀ v H' g', Xt g g' → Rp g' H' w → Dq g' v z → Q v H'
noncomputable def eCb (f : Ws → List PyData → Option PyData) (fa : FA) : FE := fun ρ w => (fa ρ w).bind fun ds w1 => Oc.of (f w1 ds) w1
theorem tCB_of {f : Ws → List PyData → Option PyData} {fa : FA} {K : PySem.W.Frag} : ∀ σ H Q, lE K W (eCb f fa) σ H Q → tCB (rDN K f) (lA K W fa) σ H Q := fun σ H Q ⟨g, ρ, w, hK, r, e, q⟩ => by
  refine lX_bind hK r e q fun v H1 g1 d w1 x r1 e1 dv z => ?_
  cases hz : f w1 d with
  | none => rw [hz] at z; exact z.elim
  | some y =>
    rw [hz] at z
    exact ⟨g1, w1, d, y, x.k.trans hK, r1, dv, hz, z⟩
theorem pf_callB {f : Ws → List PyData → Option PyData} {id : String} {x : Str} {e : Expr} {es : List Expr} {fa : FA} {p pos : Pos} (hc : CallR X (.builtin id) (rDN X.K f)) (hg : Gl X x) (hm : X.mg x = none) (hv : bootBuiltins x = some (.builtin id)) (ha : PAf X W (e :: es) fa)
    (hn : x ≠ "__name__" := by decide) (hdb : (x == ("__debug__" : Str)) = false := by decide) (hs : starEach (e :: es) X.env = (false, eval e X.env) :: starEach es X.env := by rfl) (hpl : (backTo pos (starEach es X.env)).any (·.1) = false := by rfl) :
    PF X W (.Call (.Name x p) (e :: es) [] pos) (eCb f fa) := pe_imp (pe_callB hc hg hm hv ha hn hdb hs hpl) tCB_of
theorem pf_callTy {f : Ws → List PyData → Option PyData} {id : String} {x : Str} {e : Expr} {es : List Expr} {fa : FA} {p pos : Pos} (hc : CallR X (.type id) (rDN X.K f)) (hg : Gl X x) (hm : X.mg x = none) (hv : bootBuiltins x = some (.type id)) (ha : PAf X W (e :: es) fa)
    (hn : x ≠ "__name__" := by decide) (hdb : (x == ("__debug__" : Str)) = false := by decide) (hs : starEach (e :: es) X.env = (false, eval e X.env) :: starEach es X.env := by rfl) (hpl : (backTo pos (starEach es X.env)).any (·.1) = false := by rfl) :
    PF X W (.Call (.Name x p) (e :: es) [] pos) (eCb f fa) := pe_imp (pe_callTy hc hg hm hv ha hn hdb hs hpl) tCB_of

noncomputable def lenD (w : Ws) : List PyData → Option PyData
  | [.str z] => if szOk z.length then some (.int z.length) else none
  | [.tuple ds] => some (.int ds.length)
  | [d] => (lstOf w d).map fun ds => .int ds.length
  | _ => none
theorem call_lenX : CallR X (.builtin "len") (rDN X.K lenD) := by
  intro pins s σ H xs us Q I rv ⟨g, w, ds, z, hK, r, dx, hz, q⟩
  unfold lenD at hz
  split at hz
  · cases dx with
    | cons d0 dn =>
      cases dn; cases d0
      split at hz
      · rename_i hs
        cases hz
        exact call_len pins s σ H _ us Q I rv ⟨_, _, rfl, ⟨of_decide_eq_true hs, rfl⟩, q _ H g (Xt.refl g) r (.int _)⟩
      · cases hz
  · cases dx with
    | cons d0 dn =>
      cases dn
      cases d0 with
      | tup s1 d1 =>
        cases hz
        exact call_len pins s σ H _ us Q I rv ⟨_, _, rfl, .inr ⟨_, hK ▸ r.sqT s1, rfl⟩, by rw [d1.length]; exact q _ H g (Xt.refl g) r (.int _)⟩
  · cases dx with
    | cons d0 dn =>
      cases dn
      obtain ⟨l, hl, rfl⟩ := Option.map_eq_some_iff.mp hz
      obtain ⟨a, xs, rfl, sq, da⟩ := lstOf_ok r d0 hl
      exact call_len pins s σ H _ us Q I rv ⟨_, _, rfl, .inl ⟨_, hK ▸ sq, rfl⟩, by rw [da.length]; exact q _ H g (Xt.refl g) r (.int _)⟩
  · cases hz
/-- list(x), tuple(x) -/
noncomputable def listD (w : Ws) : List PyData → Option PyData
  | [.tuple ds] => some (.list ds)
  | [d] => (lstOf w d).map fun ds => .list ds
  | _ => none
theorem call_listX : CallR X (.type "list") (rDN X.K listD) := by
  intro pins s σ H xs us Q I rv ⟨g, w, ds, z, hK, r, dx, hz, q⟩
  unfold listD at hz
  split at hz
  · cases dx with
    | cons d0 dn =>
      cases dn
      cases d0 with
      | tup s1 d1 =>
        cases hz
        exact call_list_of pins s σ H _ us Q I rv ⟨_, _, rfl, .inr (hK ▸ r.sqT s1), fun p hp => q _ _ _ (Xt.put (r.fnone hp)) (r.put hp) (newL r hp d1)⟩
  · cases dx with
    | cons d0 dn =>
      cases dn
      obtain ⟨l, hl, rfl⟩ := Option.map_eq_some_iff.mp hz
      obtain ⟨a, xs, rfl, sq, da⟩ := lstOf_ok r d0 hl
      exact call_list_of pins s σ H _ us Q I rv ⟨_, _, rfl, .inl (hK ▸ sq), fun p hp => q _ _ _ (Xt.put (r.fnone hp)) (r.put hp) (newL r hp da)⟩
  · cases hz
noncomputable def tupleD (w : Ws) : List PyData → Option PyData
  | [.tuple ds] => some (.tuple ds)
  | [d] => (lstOf w d).map fun ds => .tuple ds
  | _ => none
theorem call_tupleX : CallR X (.type "tuple") (rDN X.K tupleD) := by
  intro pins s σ H xs us Q I rv ⟨g, w, ds, z, hK, r, dx, hz, q⟩
  unfold tupleD at hz
  split at hz
  · cases dx with
    | cons d0 dn =>
      cases dn
      cases d0 with
      | tup s1 d1 =>
        cases hz
        exact call_tuple_of pins s σ H _ us Q I rv ⟨_, _, rfl, .inr ⟨hK ▸ r.sqT s1, q _ H g (Xt.refl g) r (.tup s1 d1)⟩⟩
  · cases dx with
    | cons d0 dn =>
      cases dn
      obtain ⟨l, hl, rfl⟩ := Option.map_eq_some_iff.mp hz
      obtain ⟨a, xs, rfl, sq, da⟩ := lstOf_ok r d0 hl
      exact call_tuple_ofV pins s σ H _ us Q I rv ⟨_, _, rfl, hK ▸ sq, fun p o ho hp => q _ _ _ (Xt.put (r.fnone hp)) (r.put hp) (newT r ho hp da)⟩
  · cases hz
/-- int(n), str(n) -/
noncomputable def toInt (_ : Ws) : List PyData → Option PyData
  | [.int i] => some (.int i)
  | [.bool b] => some (.int (if b = true then 1 else 0))
  | _ => none
theorem call_intX : CallR X (.type "int") (rDN X.K toInt) := by
  intro pins s σ H xs us Q I rv ⟨g, w, ds, z, hK, r, dx, hz, q⟩
  unfold toInt at hz
  split at hz
  · cases dx with
    | cons d0 dn =>
      cases dn; cases d0; cases hz
      exact call_int1 pins s σ H _ us Q I rv (.inl ⟨_, rfl, q _ H g (Xt.refl g) r (.int _)⟩)
  · cases dx with
    | cons d0 dn =>
      cases dn; cases d0; cases hz
      exact call_int1 pins s σ H _ us Q I rv (.inr ⟨_, rfl, q _ H g (Xt.refl g) r (.int _)⟩)
  · cases hz
/-- isinstance(x, T), T built in -/
noncomputable def tyD (w : Ws) : PyData → Option String
  | .none => some "NoneType"
  | .bool _ => some "bool"
  | .int _ => some "int"
  | .str _ => some "str"
  | .list _ => some "list"
  | .tuple _ => some "tuple"
  | d => match dkOf w d with
    | some _ => some "dict"
    | none => (lstOf w d).map fun _ => "list"
theorem tyD_ok {g : Gd} {H : Hp} {w : Ws} (r : Rp g H w) {v : V} {d : PyData} (h : Dq g v d) {T : String} (e : tyD w d = some T) : TyX g.K H v (.type T) := by
  cases h with
  | non => cases e; exact .base (.non)
  | bl => cases e; exact .base (.bl _)
  | int => cases e; exact .base (.int _)
  | str => cases e; exact .base (.str _)
  | lst a da =>
    cases e
    rcases r.sqL a with (h | ⟨o, h⟩) | ⟨o, _, _, h, hc, _⟩
    · exact .base (.lst h)
    · exact .base (.frz h)
    · exact .kList h hc
  | tup a da =>
    cases e
    rcases r.sqT a with (h | ⟨o, h⟩) | ⟨o, _, _, h, hc, _⟩
    · exact .base (.tup h)
    · exact .fTuple h
    · exact .kTuple h hc
  | exc => cases e
  | fk => cases e
  | ft => cases e
  | fi => cases e
  | wt => cases e
  | @ref l hl =>
    unfold tyD at e
    split at e <;> (try (rename_i hq; cases hq; done))
    split at e
    · rename_i ks hk
      cases e
      obtain ⟨l', xs, e1, _, _, _, hH, _⟩ := dkOf_ok r (.ref hl) hk
      rw [e1]
      exact .base (.dK hH)
    · obtain ⟨l2, hl2, rfl⟩ := Option.map_eq_some_iff.mp e
      obtain ⟨a, xs, e1, sq, da⟩ := lstOf_ok r (.ref hl) hl2
      rw [e1]
      rcases sq with (h | ⟨o, h⟩) | ⟨o, _, _, h, hc, _⟩
      · exact .base (.lst h)
      · exact .base (.frz h)
      · exact .kList h hc
noncomputable def eIsi (T : String) (fa : FE) : FE := fun ρ w => (fa ρ w).bind fun d w1 => match (tyD w1 d).bind fun t => kitB t T with
  | some b => .ok (.bool b) w1
  | none => .no
theorem pf_isi {T : String} {x : Str} {a : Expr} {fa : FE} {p p2 pos : Pos} (ha : PF X W a fa) (hg : Gl X "isinstance") (hm : X.mg "isinstance" = none) (hgT : Gl X x) (hmT : X.mg x = none) (hv : bootBuiltins x = some (.type T)) (hn : x ≠ "__name__" := by decide) (hd : (x == ("__debug__" : Str)) = false := by decide)
    (hs1 : starEach [a, .Name x p2] X.env = (false, eval a X.env) :: starEach [.Name x p2] X.env := by rfl) (hs2 : starEach [.Name x p2] X.env = (false, eval (.Name x p2) X.env) :: starEach [] X.env := by rfl) (hpl : (backTo pos (starEach [.Name x p2] X.env)).any (·.1) = false := by rfl) :
    PF X W (.Call (.Name "isinstance" p) [a, .Name x p2] [] pos) (eIsi T fa) := by
  refine pe_imp (pe_callB call_isi hg hm (by decide +kernel) (pa_cons ha (pa_cons (pe_bltn (v := .ty T) hgT hmT hv rfl hn hd) pa_nil hs2) hs1) (by decide) (by decide) hs1 hpl) fun σ H Q ⟨g, ρ, w, hK, r, e, q⟩ => ?_
  refine lX_bind hK r e q fun v H1 g1 d w1 y r1 e1 dv z => ?_
  split at z
  · rename_i b hb
    obtain ⟨t, ht, hk⟩ := Option.bind_eq_some_iff.mp hb
    exact ⟨v, .ty T, .type t, .type T, b, rfl, .ty T, hK ▸ y.k ▸ tyD_ok r1 dv ht, kit_ty hk, z _ _ _ (Xt.refl _) r1 (.bl _)⟩
  · exact z.elim
end
end Td

set_option Elab.async false
set_option linter.all false
set_option maxRecDepth 100000
set_option maxHeartbeats 4000000
namespace Td
open PySem L2
/-! ### statements -/
noncomputable def oSt (W : WX) (g : Gd) (D : Ends) : Os → Prop
  | .nx ρ w => ∀ σ H g', Xt g g' → Rp g' H w → EnR g' σ ρ → D.nx σ H
  | .rt d w => ∀ v H g', Xt g g' → Rp g' H w → Dq g' v d → D.rt v H
  | .bk ρ w => ∀ σ H g', Xt g g' → Rp g' H w → EnR g' σ ρ → D.bk σ H
  | .ct ρ w => ∀ σ H g', Xt g g' → Rp g' H w → EnR g' σ ρ → D.ct σ H
  | .ex ρ c fs w => ∀ cv dd σ H g', ClsV g.K c cv → Xt g g' → Rp g' H w → EnR g' σ ρ → XdR g' H fs dd → W cv dd σ H
  | .no => False
noncomputable def lS (K : PySem.W.Frag) (W : WX) (f : FS) : TS := fun D σ H => ∃ g ρ w, g.K = K ∧ Rp g H w ∧ EnR g σ ρ ∧ oSt W g D (f ρ w)
noncomputable abbrev PSf (X : Cx) (W : WX) (st : Stmt) (f : FS) : Prop := PS X st (lS X.K W f)
noncomputable abbrev PSsf (X : Cx) (W : WX) (st : List Stmt) (f : FS) : Prop := PSs X st (lS X.K W f)
theorem oSt.mono {W : WX} {g g' : Gd} {D : Ends} (x : Xt g g') : ∀ {o : Os}, oSt W g D o → oSt W g' D o
  | .nx _ _, h => fun σ H g2 y r e => h σ H g2 (x.trans y) r e
  | .rt _ _, h => fun σ H g2 y r e => h σ H g2 (x.trans y) r e
  | .bk _ _, h => fun σ H g2 y r e => h σ H g2 (x.trans y) r e
  | .ct _ _, h => fun σ H g2 y r e => h σ H g2 (x.trans y) r e
  | .ex _ _ _ _, h => fun cv d σ H g2 hc y r e q => h cv d σ H g2 (x.k ▸ hc) (x.trans y) r e q
  | .no, h => h
/-- an expression first -/
noncomputable def Oc.thenS {α : Type} (x : Oc α) (ρ : Ev) (k : α → Ws → Os) : Os := match x with
  | .ok a w => k a w
  | .ex c fs w => .ex ρ c fs w
  | .no => .no
theorem lX_then {α β : Type} {W : WX} {R : Gd → β → α → Prop} {f : Ev → Ws → Oc α} {k : α → Ws → Os} {σ : St} {H : Hp} {g : Gd} {ρ : Ev} {w : Ws} {D : Ends} {T : β → Hp → Prop}
    {K : PySem.W.Frag} (hK : g.K = K) (r : Rp g H w) (e : EnR g σ ρ) (h : oSt W g D ((f ρ w).thenS ρ k))
    (hT : ∀ v H1 g1 d w1, Xt g g1 → Rp g1 H1 w1 → EnR g1 σ ρ → R g1 v d → oSt W g1 D (k d w1) → T v H1) : lX K W R f σ H T := by
  refine ⟨g, ρ, w, hK, r, e, ?_⟩
  cases q : f ρ w with
  | ok d w1 =>
    rw [q] at h
    exact fun v H1 g1 x r1 z => hT v H1 g1 d w1 x r1 (e.mono x) z (oSt.mono x h)
  | ex c fs w1 =>
    rw [q] at h
    exact fun cv dd H1 g1 hc x r1 z => h cv dd σ H1 g1 hc x r1 (e.mono x) z
  | no =>
    rw [q] at h
    exact h
section
variable {X : Cx} {W : WX}
noncomputable def sNil : FS := fun ρ w => .nx ρ w
noncomputable def sSeq (f k : FS) : FS := fun ρ w => match f ρ w with
  | .nx ρ1 w1 => k ρ1 w1
  | o => o
theorem pssf_nil : PSsf X W [] sNil := pss_imp pss_nil fun D σ H ⟨g, ρ, w, hK, r, e, q⟩ => q σ H g (Xt.refl g) r e
theorem pssf_cons {st : Stmt} {rest : List Stmt} {f k : FS} (h1 : PSf X W st f) (h2 : PSsf X W rest k) : PSsf X W (st :: rest) (sSeq f k) := by
  refine pss_imp (pss_cons h1 h2) fun D σ H ⟨g, ρ, w, hK, r, e, q⟩ => ?_
  refine ⟨g, ρ, w, hK, r, e, ?_⟩
  unfold sSeq at q
  cases z : f ρ w with
  | nx ρ1 w1 =>
    rw [z] at q
    exact fun σ' H' g' x r' e' => ⟨g', ρ1, w1, x.k.trans hK, r', e', oSt.mono x q⟩
  | rt d w1 => rw [z] at q; exact q
  | bk ρ1 w1 => rw [z] at q; exact q
  | ct ρ1 w1 => rw [z] at q; exact q
  | ex ρ1 c fs w1 => rw [z] at q; exact q
  | no => rw [z] at q; exact q
theorem pssf_one {st : Stmt} {f : FS} (h1 : PSf X W st f) : PSsf X W [st] f := pss_one h1
noncomputable def sRet (f : FE) : FS := fun ρ w => (f ρ w).thenS ρ fun d w1 => .rt d w1
theorem psf_ret {e : Expr} {pos : Pos} {f : FE} (he : PF X W e f) : PSf X W (.Return (some e) pos) (sRet f) := by
  refine ps_imp (ps_ret he) fun D σ H ⟨g, ρ, w, hK, r, e, q⟩ => ?_
  exact lX_then hK r e q fun v H1 g1 d w1 x r1 e1 dv z => z v H1 g1 (Xt.refl _) r1 dv
noncomputable def sExp (f : FE) : FS := fun ρ w => (f ρ w).thenS ρ fun _ w1 => .nx ρ w1
theorem psf_expr {e : Expr} {pos : Pos} {f : FE} (he : PF X W e f) (hs : swapsWith e none pos.line X.env = pure false := by rfl) : PSf X W (.Expr e pos) (sExp f) := by
  refine ps_imp (ps_expr he hs) fun D σ H ⟨g, ρ, w, hK, r, e, q⟩ => ?_
  exact lX_then hK r e q fun v H1 g1 d w1 x r1 e1 dv z => z σ H1 g1 (Xt.refl _) r1 e1
noncomputable def sIf (t : FT) (f k : FS) : FS := fun ρ w => (t ρ w).thenS ρ fun b w1 => cond b (f ρ w1) (k ρ w1)
theorem psf_if {c : Expr} {a b : List Stmt} {pos : Pos} {t : FT} {f k : FS} (hc : PTf X W c t) (ha : PSsf X W a f) (hb : PSsf X W b k) : PSf X W (.If c a b pos) (sIf t f k) := by
  refine ps_imp (ps_if hc ha hb) fun D σ H ⟨g, ρ, w, hK, r, e, q⟩ => ?_
  refine lX_then hK r e q fun v H1 g1 d w1 x r1 e1 dv z => ?_
  subst dv
  cases v with
  | true => exact iteT ⟨g1, ρ, w1, x.k.trans hK, r1, e1, z⟩
  | false => exact iteF ⟨g1, ρ, w1, x.k.trans hK, r1, e1, z⟩

/-! ### targets -/
noncomputable abbrev FG := PyData → Ev → Ws → Oc Ev
noncomputable def Sm (is : List Nat) (σ σ' : St) : Prop := σ'.length = σ.length ∧ ∀ j, j ∉ is → σ'[j]? = σ[j]?
theorem Sm.refl (is : List Nat) (σ : St) : Sm is σ σ := ⟨rfl, fun _ _ => rfl⟩
theorem Sm.trans {is js : List Nat} {σ σ1 σ2 : St} (a : Sm is σ σ1) (b : Sm js σ1 σ2) : Sm (is ++ js) σ σ2 :=
  ⟨b.1.trans a.1, fun j h => (b.2 j fun z => h (List.mem_append_right _ z)).trans (a.2 j fun z => h (List.mem_append_left _ z))⟩
noncomputable def lG (K : PySem.W.Frag) (is : List Nat) (f : FG) : TG := fun v σ H Q => ∃ g ρ w d, g.K = K ∧ Rp g H w ∧ EnR g σ ρ ∧ Dq g v d ∧ match f d ρ w with
  | .ok ρ' w' => ∀ σ' H' g', Xt g g' → Rp g' H' w' → EnR g' σ' ρ' → Sm is σ σ' → Q σ' H'
  | _ => False
theorem pg_imp {e : Expr} {t t' : TG} (h : PG X e t) (i : ∀ v σ H Q, t' v σ H Q → t v σ H Q) : PG X e t' := ⟨fun pins s σ H v u Q I r q => h.run pins s σ H v u Q I r (i v σ H Q q)⟩
noncomputable abbrev PGf (X : Cx) (is : List Nat) (tg : Expr) (f : FG) : Prop := PG X tg (lG X.K is f)
noncomputable def gN (i : Nat) : FG := fun d ρ w => .ok (ρ.set i (some d)) w
theorem pgf_name {i : Nat} {x : Str} {pos : Pos} (hN : X.N.Nodup) (hi : X.N[i]? = some x) (hx : Loc X.env.scope x) (hf : X.fn x = true ∨ X.env.scope.names.lookup x = some .local := by first | exact .inl rfl | exact .inr rfl) : PGf X [i] (.Name x pos) (gN i) := by
  refine pg_imp (pg_name hN hi hx hf) fun v σ H Q ⟨g, ρ, w, d, hK, r, e, dv, q⟩ => ?_
  refine q _ H g (Xt.refl g) r (e.set i dv) ⟨List.length_set, fun j hj => ?_⟩
  rw [List.getElem?_set_ne]
  exact fun z => hj (by rw [z]; exact List.mem_singleton.mpr rfl)
/-- a, b = .. : a tuple taken apart -/
noncomputable abbrev FGs := List PyData → Ev → Ws → Oc Ev
noncomputable def lGs (K : PySem.W.Frag) (is : List Nat) (f : FGs) : TGs := fun vs σ H Q => ∃ g ρ w ds, g.K = K ∧ Rp g H w ∧ EnR g σ ρ ∧ DqA g vs ds ∧ match f ds ρ w with
  | .ok ρ' w' => ∀ σ' H' g', Xt g g' → Rp g' H' w' → EnR g' σ' ρ' → Sm is σ σ' → Q σ' H'
  | _ => False
noncomputable def gZ : FGs := fun ds ρ w => match ds with
  | [] => .ok ρ w
  | _ => .no
noncomputable def gC (f : FG) (k : FGs) : FGs := fun ds ρ w => match ds with
  | d :: r => (f d ρ w).bind fun ρ1 w1 => k r ρ1 w1
  | [] => .no
noncomputable def gT (n : Nat) (f : FGs) : FG := fun d ρ w => match d with
  | .tuple ds => if ds.length = n then f ds ρ w else .no
  | .dict [(.bool true, .bool true), (.none, .tuple ds)] => if ds.length = n then f ds ρ w else .no
  | _ => .no
theorem pgs_imp {e : List Expr} {t t' : TGs} (h : PGs X e t) (i : ∀ v σ H Q, t' v σ H Q → t v σ H Q) : PGs X e t' := ⟨fun pins s σ H v u Q I r q => h.run pins s σ H v u Q I r (i v σ H Q q)⟩

theorem pgsf_nil : PGs X [] (lGs X.K [] gZ) := by
  refine pgs_imp pgs_nil fun vs σ H Q ⟨g, ρ, w, ds, hK, r, e, dv, q⟩ => ?_
  cases dv with
  | nil => exact ⟨rfl, q σ H g (Xt.refl g) r e (Sm.refl _ _)⟩
  | cons a b => exact q.elim
theorem pgsf_cons {e : Expr} {es : List Expr} {is js : List Nat} {f : FG} {k : FGs} (h1 : PGf X is e f) (h2 : PGs X es (lGs X.K js k))
    (hs : List.map (fun x => x.snd) (assignEach (e :: es) X.env) = assign e X.env :: List.map (fun x => x.snd) (assignEach es X.env) := by rfl) : PGs X (e :: es) (lGs X.K (is ++ js) (gC f k)) := by
  refine pgs_imp (pgs_cons h1 h2 hs) fun vs σ H Q ⟨g, ρ, w, ds, hK, r, e, dv, q⟩ => ?_
  cases dv with
  | nil => exact q.elim
  | @cons v vs d ds a b =>
    refine ⟨v, vs, rfl, g, ρ, w, d, hK, r, e, a, ?_⟩
    simp only [gC] at q
    cases z : f d ρ w with
    | ok ρ1 w1 =>
      rw [z] at q
      refine fun σ' H' g' x r' e' sm => ⟨g', ρ1, w1, ds, x.k.trans hK, r', e', b.mono x _ _, ?_⟩
      have q : (match k ds ρ1 w1 with
        | .ok ρ' w' => ∀ σ' H' g', Xt g g' → Rp g' H' w' → EnR g' σ' ρ' → Sm (is ++ js) σ σ' → Q σ' H'
        | _ => False) := q
      split at q
      · exact fun σ2 H2 g2 x2 r2 e2 sm2 => q σ2 H2 g2 (x.trans x2) r2 e2 (sm.trans sm2)
      · exact q.elim
    | ex c fs w1 => rw [z] at q; exact q.elim
    | no => rw [z] at q; exact q.elim
theorem pgf_tup {es : List Expr} {k n : Nat} {pos : Pos} {is : List Nat} {f : FGs} (hc : X.calm = true) (h : PGs X es (lGs X.K is f)) (hl : (assignEach es X.env).length = n := by rfl) (hf : List.findIdx? (fun x => x.fst) (assignEach es X.env) = none := by rfl) : PGf X is (.Tuple es k pos) (gT n f) := by
  refine pg_imp (pg_tup hc h hl hf) fun v σ H Q ⟨g, ρ, w, d, hK, r, e, dv, q⟩ => ?_
  unfold gT at q
  cases dv with
  | @tup a xs ds sq da =>
    by_cases hn : ds.length = n
    · simp only [if_pos hn] at q
      exact ⟨_, _, rfl, hK ▸ r.sqT sq, by rw [da.length]; exact hn, g, ρ, w, _, hK, r, e, da, q⟩
    · simp only [if_neg hn] at q
  | @wt a xs ds sq da =>
    by_cases hn : ds.length = n
    · simp only [if_pos hn] at q
      exact ⟨_, _, rfl, .inl (.inl (r.fro _ _ sq)), by rw [da.length]; exact hn, g, ρ, w, _, hK, r, e, da, q⟩
    · simp only [if_neg hn] at q
  | _ => exact q.elim
/-! ### assignments -/
noncomputable def sAsg (f : FE) (gt : FG) : FS := fun ρ w => (f ρ w).thenS ρ fun d w1 => match gt d ρ w1 with
  | .ok ρ' w' => .nx ρ' w'
  | _ => .no
theorem asg_of {f : FE} {gt : FG} {is : List Nat} {K : PySem.W.Frag} : ∀ D σ H, lS K W (sAsg f gt) D σ H → tAsg (lE K W f) (lG K is gt) D σ H := fun D σ H ⟨g, ρ, w, hK, r, e, q⟩ => by
  refine lX_then hK r e q fun v H1 g1 d w1 x r1 e1 dv z => ?_
  refine ⟨g1, ρ, w1, d, x.k.trans hK, r1, e1, dv, ?_⟩
  cases y : gt d ρ w1 with
  | ok ρ' w' =>
    rw [y] at z
    exact fun σ' H' g' x' r' e' _ => z σ' H' g' x' r' e'
  | ex c fs w2 => rw [y] at z; exact z.elim
  | no => rw [y] at z; exact z.elim
theorem psf_asg {tg e : Expr} {pos : Pos} {f : FE} {gt : FG} {is : List Nat} (he : PF X W e f) (hg : PGf X is tg gt) (hs : swapsWithSole [tg] e pos.line X.env = pure false := by rfl) (hw : swappedStores [tg] e X.env = pure none := by rfl) (h1 : (assignEach [tg] X.env).map (·.2) = [assign tg X.env] := by rfl) : PSf X W (.Assign [tg] e pos) (sAsg f gt) :=
  ps_imp (ps_asg he hg hs hw h1) asg_of
theorem psf_set {i : Nat} {x : Str} {e : Expr} {pos' pos : Pos} {f : FE} (hN : X.N.Nodup) (hi : X.N[i]? = some x) (hx : Loc X.env.scope x) (he : PF X W e f) (hs : swapsWith e (some (.Name x pos')) pos.line X.env = pure false := by rfl) (hf : X.fn x = true ∨ X.env.scope.names.lookup x = some .local := by first | exact .inl rfl | exact .inr rfl) :
    PSf X W (.Assign [.Name x pos'] e pos) (sAsg f (gN i)) := by
  refine ps_imp (ps_set hN hi hx he hs hf) fun D σ H ⟨g, ρ, w, hK, r, e, q⟩ => ?_
  exact lX_then hK r e q fun v H1 g1 d w1 x r1 e1 dv z => z _ H1 g1 (Xt.refl _) r1 (e1.set i dv)
/-! ### what is walked -/
structure WkD (J : It) (g : Gd) (ds : List PyData) : Prop where
  stop : ∀ g' H w, Xt0 g g' → Rp g' H w → J.stop ds.length H
  go : ∀ g' H w i, Xt0 g g' → Rp g' H w → i < ds.length → J.go i H
  yld : ∀ g' H w i x H2, Xt0 g g' → Rp g' H w → i < ds.length → J.yld i H x H2 → ∃ g2 d, ds[i]? = some d ∧ Xt g' g2 ∧ Rp g2 H2 w ∧ Dq g2 x d
theorem WkD.mono {J : It} {g g' : Gd} {ds : List PyData} (k : WkD J g ds) (x : Xt0 g g') : WkD J g' ds :=
  ⟨fun a b c y r => k.stop a b c (x.trans y) r, fun a b c i y r h => k.go a b c i (x.trans y) r h, fun a b c i v d y r h z => k.yld a b c i v d (x.trans y) r h z⟩
noncomputable def lI (K : PySem.W.Frag) (W : WX) (f : FA) : TI := lX K W (fun g J ds => WkD J g ds) f
theorem pi_imp {tg e : Expr} {t t' : TI} (h : PI X tg e t) (i : ∀ σ H R, t' σ H R → t σ H R) : PI X tg e t' := ⟨fun pins s σ H R I q => h.run pins s σ H R I (i σ H R q)⟩
noncomputable abbrev PIf (X : Cx) (W : WX) (tg e : Expr) (f : FA) : Prop := PI X tg e (lI X.K W f)
theorem wk_list {g : Gd} {a : Addr} {xs : List V} {ds : List PyData} (h : SqL g.K g.F a xs) (d : DqA g xs ds) : WkD (Itl g.K a) g ds where
  stop := fun g' H w x r => ⟨xs, x.k ▸ r.sqL (x.sqL h), by rw [d.length]; exact Nat.le_refl _⟩
  go := fun g' H w i x r hi => by
    have hi' : i < xs.length := by rw [d.length]; exact hi
    exact ⟨xs, xs[i], x.k ▸ r.sqL (x.sqL h), List.getElem?_eq_getElem hi'⟩
  yld := fun g' H w i v H2 x r hi y => by
    obtain ⟨e, y⟩ := y
    subst e
    have hv := y xs (x.k ▸ r.sqL (x.sqL h))
    obtain ⟨v', h1, h2⟩ := d.get (List.getElem?_eq_getElem hi)
    rw [hv] at h1
    cases h1
    exact ⟨g', ds[i], List.getElem?_eq_getElem hi, Xt.refl _, r, h2.mono x _ _⟩
theorem wk_tup {g : Gd} {a : Addr} {xs : List V} {ds : List PyData} (h : PlT g.F a xs) (d : DqA g xs ds) : WkD (Itt g.K a) g ds where
  stop := fun g' H w x r => ⟨xs, x.k ▸ r.sqT (x.sqT h), by rw [d.length]; exact Nat.le_refl _⟩
  go := fun g' H w i x r hi => by
    have hi' : i < xs.length := by rw [d.length]; exact hi
    exact ⟨xs, xs[i], x.k ▸ r.sqT (x.sqT h), List.getElem?_eq_getElem hi'⟩
  yld := fun g' H w i v H2 x r hi y => by
    obtain ⟨e, y⟩ := y
    subst e
    have hv := y xs (x.k ▸ r.sqT (x.sqT h))
    obtain ⟨v', h1, h2⟩ := d.get (List.getElem?_eq_getElem hi)
    rw [hv] at h1
    cases h1
    exact ⟨g', ds[i], List.getElem?_eq_getElem hi, Xt.refl _, r, h2.mono x _ _⟩
noncomputable def chD (z : Str) : List PyData := z.cps.toList.map fun c => .str ⟨#[c]⟩
theorem wk_str {g : Gd} {z : Str} : WkD (Its z) g (chD z) where
  stop := fun g' H w x r => by show z.cps.size ≤ _; simp [chD]
  go := fun g' H w i x r hi => by show i < z.cps.size; simpa [chD] using hi
  yld := fun g' H w i v H2 x r hi y => by
    obtain ⟨e, c, hc, rfl⟩ := y
    subst e
    exact ⟨g', .str ⟨#[c]⟩, by simp [chD, hc], Xt.refl _, r, .str _⟩
/-- for x in e: a list, a tuple, a text -/
noncomputable def itD : PyData → Option (List PyData)
  | .list ds => some ds
  | .tuple ds => some ds
  | .str z => some (chD z)
  | _ => none
noncomputable def iE (f : FE) : FA := fun ρ w => (f ρ w).bind fun d w1 => Oc.of (itD d) w1
noncomputable def iAny (K : PySem.W.Frag) (te : TE) : TI := fun σ H R => te σ H fun x H1 => (∃ a xs, x = .ref a ∧ SqL K H1 a xs ∧ R (Itl K a) H1) ∨ (∃ a xs, x = .ref a ∧ SqT K H1 a xs ∧ R (Itt K a) H1) ∨ ∃ z, x = .str z ∧ R (Its z) H1
theorem pi_any {tg e : Expr} {te : TE} (he : PE X e te) : PI X tg e (iAny X.K te) := by
  refine ⟨fun pins s σ H R I h => thn (he.run pins s σ H _ I h) fun v s1 ⟨y, H1, I1, r1, q⟩ => ?_⟩
  rcases q with ⟨a, xs, rfl, sq, q⟩ | ⟨a, xs, rfl, sq, q⟩ | ⟨z, rfl, q⟩
  · cases r1
    obtain ⟨its, _, pl, _⟩ := I1.list sq
    exact wpAny_pyIter_list pl.isList (pi_one (tk := s1.toks) I1 _ (turn_list a _) ⟨_, Heap.get?_push_size _ rfl, rfl, rfl⟩ q)
  · cases r1
    obtain ⟨its, _, pl, _⟩ := I1.tuple sq
    exact wpAny_pyIter_tuple pl (pi_one (tk := s1.toks) I1 _ (turn_tuple a _) ⟨_, Heap.get?_push_size _ rfl, rfl, rfl⟩ q)
  · obtain ⟨t, rfl⟩ := r1
    cases hq : z.cps.all fun c => c < 128 with
    | false => exact wpAny_pyIter_wide hq (pi_one (tk := s1.toks) I1 _ (turn_str _ z t "str_iterator" (Or.inr rfl)) ⟨_, Heap.get?_push_size _ rfl, rfl, rfl⟩ q)
    | true => exact wpAny_pyIter_ascii hq (pi_one (tk := s1.toks) I1 _ (turn_str _ z t "str_ascii_iterator" (Or.inl rfl)) ⟨_, Heap.get?_push_size _ rfl, rfl, rfl⟩ q)
theorem pif_any {tg e : Expr} {f : FE} (he : PF X W e f) : PIf X W tg e (iE f) := by
  refine pi_imp (pi_any he) fun σ H R ⟨g, ρ, w, hK, r, e, q⟩ => ?_
  refine lX_bind hK r e q fun v H1 g1 d w1 x r1 e1 dv z => ?_
  have hK1 := x.k.trans hK
  cases dv with
  | lst sq da => exact .inl ⟨_, _, rfl, hK1 ▸ r1.sqL sq, hK1 ▸ z _ H1 g1 (Xt.refl _) r1 (wk_list sq da)⟩
  | tup sq da => exact .inr (.inl ⟨_, _, rfl, hK1 ▸ r1.sqT sq, hK1 ▸ z _ H1 g1 (Xt.refl _) r1 (wk_tup sq da)⟩)
  | str y => exact .inr (.inr ⟨_, rfl, z _ H1 g1 (Xt.refl _) r1 wk_str⟩)
  | _ => exact z.elim
/-- range(n), range(a, b) -/
noncomputable def rgD (lo hi : Int) : List PyData := (List.range (hi - lo).toNat).map fun i => .int (lo + (i : Nat))
theorem wk_rng {g : Gd} {lo hi : Int} : WkD (Itr lo (hi - lo).toNat) g (rgD lo hi) where
  stop := fun g' H w x r => by show (hi - lo).toNat ≤ _; simp [rgD]
  go := fun g' H w i x r hi' => by show i < (hi - lo).toNat; simpa [rgD] using hi'
  yld := fun g' H w i v H2 x r hi' y => by
    obtain ⟨e, rfl⟩ := y
    subst e
    have hi2 : i < (hi - lo).toNat := by simpa [rgD] using hi'
    exact ⟨g', .int (lo + (i : Nat)), by simp [rgD, hi2], Xt.refl _, r, .int _⟩
noncomputable def c62 (i : Int) : Bool := decide (i.natAbs < 2 ^ 61)
noncomputable def iR1 (fa : FA) : FA := fun ρ w => (fa ρ w).bind fun ds w1 => match ds with
  | [.int j] => Oc.on (c62 j) (.ok (rgD 0 j) w1)
  | _ => .no
noncomputable def iR2 (fa : FA) : FA := fun ρ w => (fa ρ w).bind fun ds w1 => match ds with
  | [.int i, .int j] => Oc.on (c62 i && c62 j) (.ok (rgD i j) w1)
  | _ => .no
theorem pif_range1 {tg a : Expr} {fa : FA} {p pos : Pos} (hg : Gl X "range") (hm : X.mg "range" = none) (ha : PAf X W [a] fa) (hs : starEach [a] X.env = [(false, eval a X.env)] := by rfl) : PIf X W tg (.Call (.Name "range" p) [a] [] pos) (iR1 fa) := by
  refine pi_imp (pi_range1 hg hm ha hs) fun σ H R ⟨g, ρ, w, hK, r, e, q⟩ => ?_
  refine lX_bind hK r e q fun v H1 g1 d w1 x r1 e1 dv z => ?_
  split at z
  · cases dv with
    | cons d0 dn =>
      cases dn; cases d0
      obtain ⟨hb, z⟩ := z.on
      have hb := of_decide_eq_true hb
      refine ⟨_, rfl, by omega, by omega, ?_⟩
      have := z _ H1 g1 (Xt.refl _) r1 (wk_rng (lo := 0))
      rw [Int.sub_zero] at this
      exact this
  · exact z.elim
/-- zip(xs, ys): two lists, two tuples -/
noncomputable def zipD : List PyData → List PyData → List PyData
  | a :: as, b :: bs => wtD [a, b] :: zipD as bs
  | _, _ => []
noncomputable def iZ (fa : FA) : FA := fun ρ w => (fa ρ w).bind fun ds w1 => match ds with
  | [.list as, .list bs] => .ok (zipD as bs) w1
  | [.tuple as, .tuple bs] => .ok (zipD as bs) w1
  | _ => .no
/-! ### for -/
noncomputable def forL (gt : FG) (body : FS) : List PyData → Ev → Ws → Os
  | [], ρ, w => .nx ρ w
  | d :: ds, ρ, w => match gt d ρ w with
    | .ok ρ1 w1 => match body ρ1 w1 with
      | .nx ρ2 w2 => forL gt body ds ρ2 w2
      | .ct ρ2 w2 => forL gt body ds ρ2 w2
      | .bk ρ2 w2 => .nx ρ2 w2
      | o => o
    | _ => .no
noncomputable def sFor (fi : FA) (gt : FG) (body : FS) : FS := fun ρ w => (fi ρ w).thenS ρ fun ds w1 => forL gt body ds ρ w1
theorem psf_for {tg iter : Expr} {body : List Stmt} {pos : Pos} {fi : FA} {gt : FG} {is : List Nat} {fb : FS} (hp : PassesOwn (model X.prog X.w) X.A X.env X.xe) (hc : X.calm = true) (hi : PIf X W tg iter fi) (hg : PGf X is tg gt) (hb : PSsf X W body fb)
    (hs : ∀ x, foldedSetIterable iter X.env x = pure x := by intro _; rfl) : PSf X W (.For tg iter body [] pos) (sFor fi gt fb) := by
  refine ps_imp (ps_for hp hc hi hg hb hs) fun D σ H ⟨g, ρ, w, hK, r, e, q⟩ => ?_
  refine lX_then hK r e q fun J H1 g1 ds w1 x r1 e1 wk z => ?_
  refine ⟨fun i m σ' H' => m = ds.length - i ∧ i ≤ ds.length ∧ ∃ g' ρ' w', Xt g1 g' ∧ Rp g' H' w' ∧ EnR g' σ' ρ' ∧ oSt W g' D (forL gt fb (ds.drop i) ρ' w'), ⟨ds.length, by simp, Nat.zero_le _, g1, ρ, w1, Xt.refl _, r1, e1, z⟩, ?_⟩
  rintro i m σ' H' ⟨rfl, hi, g', ρ', w', x', r', e', z'⟩
  by_cases hlt : i < ds.length
  · refine .inr ⟨wk.go g' H' w' i x'.toXt0 r' hlt, fun σ2 H2 => i + 1 ≤ ds.length ∧ ∃ g2 ρ2 w2, Xt g1 g2 ∧ Rp g2 H2 w2 ∧ EnR g2 σ2 ρ2 ∧ oSt W g2 D (forL gt fb (ds.drop (i + 1)) ρ2 w2), fun σ2 H2 n => ⟨ds.length - (i + 1), by omega, rfl, n⟩, fun v H2 y => ?_⟩
    obtain ⟨g2, d, hd, x2, r2, dv⟩ := wk.yld g' H' w' i v H2 x'.toXt0 r' hlt y
    have ed : ds.drop i = d :: ds.drop (i + 1) := by
      rw [List.drop_eq_getElem_cons hlt]
      rw [List.getElem?_eq_getElem hlt] at hd
      rw [Option.some.inj hd]
    rw [ed, forL] at z'
    refine ⟨g2, ρ', w', d, x2.k.trans (x'.k.trans (x.k.trans hK)), r2, e'.mono x2, dv, ?_⟩
    cases hgt : gt d ρ' w' with
    | ok ρ1 w1' =>
      rw [hgt] at z'
      refine fun σ3 H3 g3 x3 r3 e3 _ => ⟨g3, ρ1, w1', x3.k.trans (x2.k.trans (x'.k.trans (x.k.trans hK))), r3, e3, ?_⟩
      have z' := oSt.mono (x2.trans x3) z'
      have up : Xt g1 g3 := x'.trans (x2.trans x3)
      simp only at z'
      cases hb' : fb ρ1 w1' with
      | nx ρ2 w2 =>
        rw [hb'] at z'
        exact fun σ4 H4 g4 x4 r4 e4 => ⟨hlt, g4, ρ2, w2, up.trans x4, r4, e4, oSt.mono x4 z'⟩
      | ct ρ2 w2 =>
        rw [hb'] at z'
        exact fun σ4 H4 g4 x4 r4 e4 => ⟨hlt, g4, ρ2, w2, up.trans x4, r4, e4, oSt.mono x4 z'⟩
      | bk ρ2 w2 => rw [hb'] at z'; exact z'
      | rt d w2 => rw [hb'] at z'; exact z'
      | ex ρ2 c fs w2 => rw [hb'] at z'; exact z'
      | no => rw [hb'] at z'; exact z'
    | ex c fs w2 => rw [hgt] at z'; exact z'.elim
    | no => rw [hgt] at z'; exact z'.elim
  · have ei : i = ds.length := by omega
    subst ei
    rw [List.drop_length, forL] at z'
    exact .inl ⟨wk.stop g' H' w' x'.toXt0 r', z' σ' H' g' (Xt.refl _) r' e'⟩
end
end Td

set_option Elab.async false
set_option linter.all false
set_option maxRecDepth 100000
set_option maxHeartbeats 4000000
namespace Td
open PySem L2
/-! ### comprehensions -/
noncomputable def wipeE (ρ : Ev) : List Nat → Ev
  | [] => ρ
  | v :: vs => (wipeE ρ vs).set v none
theorem wipeE_len (ρ : Ev) : ∀ vs, (wipeE ρ vs).length = ρ.length
  | [] => rfl
  | v :: vs => by unfold wipeE; rw [List.length_set, wipeE_len ρ vs]
theorem wipe_get (σ : St) (j : Nat) : ∀ vs, j ∉ vs → (wipe σ vs)[j]? = σ[j]?
  | [], _ => rfl
  | v :: vs, h => by
    unfold wipe
    rw [List.getElem?_set_ne (fun e => h (by rw [e]; exact List.mem_cons_self))]
    exact wipe_get σ j vs fun z => h (List.mem_cons_of_mem _ z)
theorem wipe_at (σ : St) (j : Nat) : ∀ vs, j ∈ vs → j < σ.length → (wipe σ vs)[j]? = some none
  | v :: vs, h, hl => by
    unfold wipe
    by_cases e : v = j
    · subst e
      rw [List.getElem?_set_self (by rw [wipe_length]; exact hl)]
    · rw [List.getElem?_set_ne e]
      rcases List.mem_cons.mp h with z | z
      · exact absurd z.symm e
      · exact wipe_at σ j vs z hl
theorem EnR.wipe {g : Gd} {σ : St} {ρ : Ev} (e : EnR g σ ρ) : ∀ vs, EnR g (wipe σ vs) (wipeE ρ vs)
  | [] => e
  | v :: vs => by
    have h := EnR.wipe e vs
    refine ⟨by unfold L2.wipe wipeE; rw [List.length_set, List.length_set]; exact h.len, fun j c hj => ?_⟩
    unfold wipeE at hj
    by_cases q : v = j
    · subst q
      by_cases z : v < (wipeE ρ vs).length
      · rw [List.getElem?_set_self z] at hj; cases hj
      · rw [List.getElem?_eq_none (by rw [List.length_set]; omega)] at hj; cases hj
    · rw [List.getElem?_set_ne q] at hj
      unfold L2.wipe
      rw [List.getElem?_set_ne q]
      exact h.at_ j c hj
theorem wipe_of_sm {is vs : List Nat} {σ σ' : St} (h : Sm is (wipe σ vs) σ') (hs : ∀ i ∈ is, i ∈ vs) : wipe σ' vs = wipe σ vs := by
  have hl : σ'.length = σ.length := h.1.trans (wipe_length σ vs)
  refine List.ext_getElem? fun j => ?_
  by_cases hj : j ∈ vs
  · by_cases hb : j < σ.length
    · rw [wipe_at σ' j vs hj (by omega), wipe_at σ j vs hj hb]
    · rw [List.getElem?_eq_none (by rw [wipe_length]; omega), List.getElem?_eq_none (by rw [wipe_length]; omega)]
  · rw [wipe_get σ' j vs hj, h.2 j fun z => hj (hs j z)]
noncomputable def lcL (gt : FG) (tt : FT) (fe : FE) (ρ : Ev) : List PyData → Ws → List PyData → Oc (List PyData)
  | [], w, acc => .ok acc w
  | d :: ds, w, acc => match gt d ρ w with
    | .ok ρ1 w1 => match tt ρ1 w1 with
      | .ok true w2 => match fe ρ1 w2 with
        | .ok y w3 => if acc.length < sizeLine then lcL gt tt fe ρ ds w3 (acc ++ [y]) else .no
        | _ => .no
      | .ok false w2 => lcL gt tt fe ρ ds w2 acc
      | _ => .no
    | _ => .no
noncomputable def eLc (fi : FA) (gt : FG) (tt : FT) (fe : FE) (vs : List Nat) : FE := fun ρ w => (fi ρ w).bind fun ds w1 => (lcL gt tt fe (wipeE ρ vs) ds w1 []).bind fun acc w2 => .ok (.list acc) w2
noncomputable def W0 : WX := fun _ _ _ _ => False
noncomputable def Gd.pn (g : Gd) (P : Hp) : Gd := { g with P := P }
theorem Gd.pn_xt (g : Gd) (P : Hp) : Xt0 g (g.pn P) := ⟨rfl, fun _ _ h => h, fun _ _ => rfl, Nat.le_refl _, rfl⟩
theorem tests_imp {X : Cx} {e : List Expr} {t t' : TT} (h : PTs X e t) (i : ∀ σ H Q, t' σ H Q → t σ H Q) : PTs X e t' := ⟨fun pins s σ H Q I q => h.run pins s σ H Q I (i σ H Q q)⟩
noncomputable def tYs : FT := fun _ w => .ok true w
section
variable {X : Cx} {W : WX}
theorem ptsf_nil : PTs X [] (lT X.K W tYs) := tests_imp pts_nil fun σ H Q ⟨g, ρ, w, hK, r, e, q⟩ => q true H g (Xt.refl g) r rfl
theorem ptsf_one {e : Expr} {t : FT} (h : PTf X W e t) : PTs X [e] (lT X.K W t) := pts_one h
/-- the new list at D, which others hold -/
theorem pin_new {g : Gd} {H : Hp} {w : Ws} (r : Rp g H w) {D : Addr} (hD : H D = none) (o : HO) : Rp (g.pn (upd g.P D o)) (upd H D o) w where
  fro := fun a u e => by
    have e : g.F a = some u := e
    rw [upd_ne (ne_of_none e (r.fnone hD))]
    exact r.fro a u e
  len := r.len
  cell := fun l ob e => (r.cell l ob e).new (g.pn_xt _) fun b hb => by
    have nb : b ≠ D := fun z => by subst z; rw [hD] at hb; cases hb
    exact ⟨rfl, upd_ne nb⟩
  inj := r.inj
  pin := fun a u e => by
    have e : upd g.P D o a = some u := e
    by_cases q : a = D
    · subst q
      rw [upd_same] at e ⊢
      refine ⟨e, r.fnone hD, fun l hl z => ?_⟩
      have hlw : l < w.length := by rw [← r.len]; exact hl
      obtain ⟨o', ho⟩ := (r.cell l _ (List.getElem?_eq_getElem hlw)).there
      have z : g.μ l = a := z
      rw [z, hD] at ho
      cases ho
    · rw [upd_ne q] at e ⊢
      exact r.pin a u e
  tab := fun p hp => by
    obtain ⟨t1, t2, t3⟩ := r.tab p hp
    have ne := r.tab.ne0 hp hD
    exact ⟨t1.up (fun _ _ e => e) (upd_ne ne), t2, (upd_ne ne).trans t3⟩
/-- it grows -/
theorem pin_set {g : Gd} {H : Hp} {w : Ws} {P : Hp} {D : Addr} {o o' : HO} (r : Rp g H w) (hP : g.P = upd P D o) (hno : ∀ a, o ≠ .own a) : Rp (g.pn (upd P D o')) (upd H D o') w := by
  obtain ⟨h1, h2, h3⟩ := r.pin D o (by rw [hP]; exact upd_same)
  refine ⟨fun a u e => ?_, r.len, fun l ob e => ?_, r.inj, fun a u e => ?_, fun p hp => by
    obtain ⟨t1, t2, t3⟩ := r.tab p hp
    have ne : p.1 ≠ D := fun z => by rw [hP, z, upd_same] at t3; cases t3
    rw [hP, upd_ne ne] at t3
    exact ⟨t1.up (fun _ _ e => e) (upd_ne ne), t2, (upd_ne ne).trans t3⟩⟩
  · have e : g.F a = some u := e
    rw [upd_ne (ne_of_none e h2)]
    exact r.fro a u e
  · have hl : l < g.n := by rw [r.len]; exact (List.getElem?_eq_some_iff.mp e).1
    have nD := h3 l hl
    have c := r.cell l ob e
    cases ob with
    | lst ds =>
      obtain ⟨hn, xs, h, d⟩ := c
      exact ⟨hn, xs, (upd_ne nD).trans h, d.mono (g.pn_xt _) _ _⟩
    | dK kvs =>
      obtain ⟨hn, ks, h, d⟩ := c
      exact ⟨hn, ks, (upd_ne nD).trans h, d.mono (g.pn_xt _)⟩
    | ins C fs =>
      obtain ⟨hn, dx, gs, ⟨C', hC, h⟩, hd, hn2, d⟩ := c
      have nx : dx ≠ D := fun z => by rw [z, h1] at hd; exact hno _ (Option.some.inj hd)
      exact ⟨hn, dx, gs, ⟨C', hC, (upd_ne nD).trans h⟩, (upd_ne nx).trans hd, hn2, d.mono (g.pn_xt _)⟩
    | dead =>
      obtain ⟨o2, h⟩ := c
      exact ⟨o2, (upd_ne nD).trans h⟩
  · have e : upd P D o' a = some u := e
    by_cases q : a = D
    · subst q
      rw [upd_same] at e ⊢
      exact ⟨e, h2, h3⟩
    · rw [upd_ne q] at e ⊢
      exact r.pin a u (by rw [hP, upd_ne q]; exact e)
/-- it is given out -/
theorem pin_out {g : Gd} {H : Hp} {w : Ws} {P : Hp} {D : Addr} {o : HO} (r : Rp g H w) (hP : g.P = upd P D o) (hno : ∀ a, o ≠ .own a) (hD : P D = none) : Rp { g with P := P, F := upd g.F D o } H w := by
  obtain ⟨h1, h2, h3⟩ := r.pin D o (by rw [hP]; exact upd_same)
  have x : Xt0 g { g with P := P, F := upd g.F D o } := ⟨rfl, fun a u e => (upd_ne (ne_of_none e h2)).trans e, fun _ _ => rfl, Nat.le_refl _, rfl⟩
  refine ⟨fun a u e => ?_, r.len, fun l ob e => ?_, r.inj, fun a u e => ?_, fun p hp => by
    obtain ⟨t1, t2, t3⟩ := r.tab p hp
    have ne : p.1 ≠ D := fun z => by rw [hP, z, upd_same] at t3; cases t3
    rw [hP, upd_ne ne] at t3
    exact ⟨t1.up x.ex rfl, (upd_ne ne).trans t2, t3⟩⟩
  · have e : upd g.F D o a = some u := e
    by_cases q : a = D
    · subst q
      rw [upd_same] at e
      exact h1.trans e
    · rw [upd_ne q] at e
      exact r.fro a u e
  · have hl : l < g.n := by rw [r.len]; exact (List.getElem?_eq_some_iff.mp e).1
    have nD := h3 l hl
    have c := r.cell l ob e
    cases ob with
    | lst ds =>
      obtain ⟨hn, xs, h, d⟩ := c
      exact ⟨(upd_ne nD).trans hn, xs, h, d.mono x _ _⟩
    | dK kvs =>
      obtain ⟨hn, ks, h, d⟩ := c
      exact ⟨(upd_ne nD).trans hn, ks, h, d.mono x⟩
    | ins C fs =>
      obtain ⟨hn, dx, gs, ⟨C', hC, h⟩, hd, hn2, d⟩ := c
      have nx : dx ≠ D := fun z => by rw [z, h1] at hd; exact hno _ (Option.some.inj hd)
      exact ⟨(upd_ne nD).trans hn, dx, gs, ⟨C', hC, h⟩, hd, (upd_ne nx).trans hn2, d.mono x⟩
    | dead =>
      obtain ⟨o2, h⟩ := c
      exact ⟨o2, h⟩
  · have e : P a = some u := e
    have na : a ≠ D := fun z => by rw [z, hD] at e; cases e
    obtain ⟨q1, q2, q3⟩ := r.pin a u (by rw [hP, upd_ne na]; exact e)
    exact ⟨q1, (upd_ne na).trans q2, q3⟩
theorem lc_of {fi : FA} {gt : FG} {tt : FT} {fe : FE} {vs is : List Nat} {K : PySem.W.Frag} (hs : ∀ i ∈ is, i ∈ vs) : ∀ σ H Q, lE K W (eLc fi gt tt fe vs) σ H Q → tLc (lI K W fi) (lG K is gt) (lT K W0 tt) (lE K W0 fe) vs σ H Q := fun σ H Q ⟨g, ρ, w, hK, r, e, q⟩ => by
  refine lX_bind hK r e q fun J H1 g1 ds w1 x r1 e1 wk z => ?_
  intro D hD
  have hK1 := x.k.trans hK
  have pD : g1.P D = none := by
    cases h : g1.P D with
    | none => rfl
    | some o => rw [(r1.pin D o h).1] at hD; cases hD
  have r0 := pin_new r1 hD (.lst [])
  refine ⟨fun i m H' => m = ds.length - i ∧ i ≤ ds.length ∧ ∃ g' w' acc dacc, Xt0 g1 g' ∧ g'.P = upd g1.P D (.lst acc) ∧ Rp g' H' w' ∧ DqA g' acc dacc ∧ lcL gt tt fe (wipeE ρ vs) (ds.drop i) w' dacc = lcL gt tt fe (wipeE ρ vs) ds w1 [],
    ⟨ds.length, by simp, Nat.zero_le _, _, w1, [], [], g1.pn_xt _, rfl, r0, .nil, rfl⟩, ?_⟩
  rintro i m H' ⟨rfl, hi, g', w', acc, dacc, x', hP, r', da, z'⟩
  by_cases hlt : i < ds.length
  · refine .inr ⟨wk.go g' H' w' i x' r' hlt, fun H2 => i + 1 ≤ ds.length ∧ ∃ g' w' acc dacc, Xt0 g1 g' ∧ g'.P = upd g1.P D (.lst acc) ∧ Rp g' H2 w' ∧ DqA g' acc dacc ∧ lcL gt tt fe (wipeE ρ vs) (ds.drop (i + 1)) w' dacc = lcL gt tt fe (wipeE ρ vs) ds w1 [],
      fun H2 n => ⟨ds.length - (i + 1), by omega, rfl, n⟩, fun v H2 y => ?_⟩
    obtain ⟨g2, d, hd, x2, r2, dv⟩ := wk.yld g' H' w' i v H2 x' r' hlt y
    have ed : ds.drop i = d :: ds.drop (i + 1) := by
      rw [List.drop_eq_getElem_cons hlt]
      rw [List.getElem?_eq_getElem hlt] at hd
      rw [Option.some.inj hd]
    rw [ed, lcL] at z'
    rw [← z'] at z
    refine ⟨g2, wipeE ρ vs, w', d, x2.k.trans (x'.k.trans hK1), r2, (e1.mono (x'.trans x2.toXt0)).wipe vs, dv, ?_⟩
    cases hgt : gt d (wipeE ρ vs) w' with
    | ok ρ1 w1' =>
      rw [hgt] at z z'
      refine fun σ3 H3 g3 x3 r3 e3 sm => ⟨wipe_of_sm sm hs, g3, ρ1, w1', x3.k.trans (x2.k.trans (x'.k.trans hK1)), r3, e3, ?_⟩
      simp only at z z'
      cases htt : tt ρ1 w1' with
      | ok b w2 =>
        rw [htt] at z z'
        intro b' H4 g4 x4 r4 eb
        subst eb
        have P4 : g4.P = upd g1.P D (.lst acc) := x4.p.trans (x3.p.trans (x2.p.trans hP))
        have y4 : Xt0 g1 g4 := x'.trans (x2.toXt0.trans (x3.toXt0.trans x4.toXt0))
        have da4 : DqA g4 acc dacc := da.mono (x2.toXt0.trans (x3.toXt0.trans x4.toXt0)) _ _
        cases b' with
        | false => exact iteF ⟨hlt, g4, w2, acc, dacc, y4, P4, r4, da4, z'⟩
        | true =>
          refine iteT ⟨g4, ρ1, w2, y4.k.trans hK1, r4, e3.mono x4.toXt0, ?_⟩
          simp only at z z'
          cases hfe : fe ρ1 w2 with
          | ok d5 w3 =>
            rw [hfe] at z z'
            intro v5 H5 g5 x5 r5 dv5
            simp only at z z'
            have P5 : g5.P = upd g1.P D (.lst acc) := x5.p.trans P4
            by_cases hsz : dacc.length < sizeLine
            · rw [if_pos hsz] at z'
              have pD5 := r5.pin D (.lst acc) (by rw [P5]; exact upd_same)
              refine ⟨acc, pD5.1, by rw [da.length]; exact hsz, hlt, g5.pn (upd g1.P D (.lst (acc ++ [v5]))), w3, acc ++ [v5], dacc ++ [d5], (y4.trans x5.toXt0).trans (g5.pn_xt _), rfl, pin_set r5 P5 (fun a z => nomatch z), ?_, z'⟩
              exact (da4.mono (x5.toXt0.trans (g5.pn_xt _)) _ _).append (.cons (dv5.mono (g5.pn_xt _) _ _) .nil)
            · rw [if_neg hsz] at z
              exact z.elim
          | ex c fs w3 => rw [hfe] at z; exact z.elim
          | no => rw [hfe] at z; exact z.elim
      | ex c fs w2 => rw [htt] at z; exact z.elim
      | no => rw [htt] at z; exact z.elim
    | ex c fs w2 => rw [hgt] at z; exact z.elim
    | no => rw [hgt] at z; exact z.elim
  · have ei : i = ds.length := by omega
    subst ei
    rw [List.drop_length, lcL] at z'
    rw [← z'] at z
    refine .inl ⟨wk.stop g' H' w' x' r', ?_⟩
    have pD' := r'.pin D (.lst acc) (by rw [hP]; exact upd_same)
    have xo : Xt0 g' { g' with P := g1.P, F := upd g'.F D (.lst acc) } := ⟨rfl, fun a u e => (upd_ne (ne_of_none e pD'.2.1)).trans e, fun _ _ => rfl, Nat.le_refl _, rfl⟩
    exact z _ H' { g' with P := g1.P, F := upd g'.F D (.lst acc) } ⟨x'.trans xo, rfl⟩ (pin_out r' hP (fun a z => nomatch z) pD) (.lst (SqL.of upd_same) (da.mono xo _ _))
theorem pf_lc {elt tg iter : Expr} {ifs : List Expr} {scope : Scope} {own : List (Str × Nat)} {pos : Pos} {fi : FA} {gt : FG} {tt : FT} {fe : FE} {is : List Nat} (hc : X.calm = true) (hN : X.N.Nodup) (hi : PIf X W tg iter fi) (ok : BlkOk X.N X.env.scope scope own)
    (hg : ∀ (s : Shared) (H : Hp) (C : Addr) (cl : List (Str × Addr)) (fp : List Addr), PGf (X.blk s H scope (compEnvC scope cl C X.env) fp) is tg gt)
    (ht : ∀ (s : Shared) (H : Hp) (C : Addr) (cl : List (Str × Addr)) (fp : List Addr), PTs (X.blk s H scope (compEnvC scope cl C X.env) fp) ifs (lT X.K W0 tt))
    (he : ∀ (s : Shared) (H : Hp) (C : Addr) (cl : List (Str × Addr)) (fp : List Addr), PF (X.blk s H scope (compEnvC scope cl C X.env) fp) W0 elt fe)
    (hs : ∀ x, foldedSetIterable iter X.env x = pure x := by intro _; rfl) (his : ∀ i ∈ is, i ∈ own.map (·.2) := by decide) :
    PF X W (.ListComp elt [⟨tg, iter, ifs, 0⟩] scope pos) (eLc fi gt tt fe (own.map (·.2))) := pe_imp (pe_lc hc hN hi ok hg ht he hs) (lc_of his)
theorem psf_setLc {i : Nat} {y : Str} {py : Pos} {elt tg iter : Expr} {ifs : List Expr} {scope : Scope} {own : List (Str × Nat)} {pos spos : Pos} {fi : FA} {gt : FG} {tt : FT} {fe : FE} {is : List Nat} (hc : X.calm = true) (hN : X.N.Nodup) (hy : X.N[i]? = some y) (hyl : X.env.scope.names.lookup y = some .local)
    (hsw : swapsWith (.ListComp elt [⟨tg, iter, ifs, 0⟩] scope pos) (some (.Name y py)) spos.line X.env = pure true) (hi : PIf X W tg iter fi) (ok : BlkOk X.N X.env.scope scope own)
    (hg : ∀ (s : Shared) (H : Hp) (C : Addr) (cl : List (Str × Addr)) (fp : List Addr), PGf (X.blk s H scope (compEnvC scope cl C X.env) fp) is tg gt)
    (ht : ∀ (s : Shared) (H : Hp) (C : Addr) (cl : List (Str × Addr)) (fp : List Addr), PTs (X.blk s H scope (compEnvC scope cl C X.env) fp) ifs (lT X.K W0 tt))
    (he : ∀ (s : Shared) (H : Hp) (C : Addr) (cl : List (Str × Addr)) (fp : List Addr), PF (X.blk s H scope (compEnvC scope cl C X.env) fp) W0 elt fe)
    (hs : ∀ x, foldedSetIterable iter X.env x = pure x := by intro _; rfl) (his : ∀ i ∈ is, i ∈ own.map (·.2) := by decide) :
    PSf X W (.Assign [.Name y py] (.ListComp elt [⟨tg, iter, ifs, 0⟩] scope pos) spos) (sAsg (eLc fi gt tt fe (own.map (·.2))) (gN i)) := by
  refine ps_imp (ps_setLc (g := lG X.K is gt) (tt := lT X.K W0 tt) (te := lE X.K W0 fe) hc hN hy hyl hsw hi ok hg ht he hs) fun D σ H q => ?_
  obtain ⟨g, ρ, w, hK, r, e, q⟩ := q
  refine lc_of (W := W) his σ H _ ?_
  exact lX_then hK r e q fun v H1 g1 d w1 x r1 e1 dv z => z _ H1 g1 (Xt.refl _) r1 (e1.set i dv)
end
end Td

set_option Elab.async false
set_option linter.all false
set_option maxRecDepth 100000
set_option maxHeartbeats 4000000
namespace Td
open PySem L2
/-! ### dicts of the store -/
noncomputable def valD (kvs : List (Key × PyData)) (k : Key) : Option PyData := (kvs.find? fun kv => decide (kv.1 = k)).map (·.2)
noncomputable def putD (kvs : List (Key × PyData)) (k : Key) (v : PyData) : List (Key × PyData) :=
  if (kvs.any fun kv => decide (kv.1 = k)) = true then kvs.map (fun kv => if kv.1 = k then (kv.1, v) else kv) else kvs ++ [(k, v)]
noncomputable def mergeD (kvs more : List (Key × PyData)) : List (Key × PyData) := more.foldl (fun acc kv => putD acc kv.1 kv.2) kvs
noncomputable def keyD : PyData → Option Key
  | .int i => some (.inl i)
  | .str x => some (.inr x)
  | _ => none
theorem keyD_ok {g : Gd} {v : V} {d : PyData} (h : Dq g v d) {k : Key} (e : keyD d = some k) : v = kV k := by
  cases h <;> cases e <;> rfl
theorem KvR.val {g : Gd} : ∀ {ks : List (Key × V)} {kvs : List (Key × PyData)} {k : Key} {d : PyData}, KvR g ks kvs → valD kvs k = some d → ∃ v, valV ks k = some v ∧ Dq g v d
  | _, _, _, _, .nil, e => by simp [valD] at e
  | p :: ks, q :: kvs, k, d, .cons h t, e => by
    have hk : p.1 = q.1 := h.1
    by_cases z : q.1 = k
    · have e' : some q.2 = some d := by simpa [valD, List.find?_cons, z] using e
      cases e'
      exact ⟨p.2, valV_pos (hk.trans z), h.2⟩
    · have e' : valD kvs k = some d := by simpa [valD, List.find?_cons, z] using e
      obtain ⟨v, h1, h2⟩ := KvR.val t e'
      exact ⟨v, by rw [valV_neg (by rw [hk]; exact z)]; exact h1, h2⟩
theorem KvR.any {g : Gd} {k : Key} : ∀ {ks : List (Key × V)} {kvs : List (Key × PyData)}, KvR g ks kvs → (ks.any fun kv => decide (kv.1 = k)) = kvs.any fun kv => decide (kv.1 = k)
  | _, _, .nil => rfl
  | _, _, .cons h t => by rw [List.any_cons, List.any_cons, h.1, KvR.any t]
theorem KvR.map_set {g : Gd} {k : Key} {v : V} {d : PyData} (hd : Dq g v d) : ∀ {ks : List (Key × V)} {kvs : List (Key × PyData)}, KvR g ks kvs → KvR g (ks.map (fun kv => if kv.1 = k then (kv.1, v) else kv)) (kvs.map (fun kv => if kv.1 = k then (kv.1, d) else kv))
  | _, _, .nil => .nil
  | p :: ks, q :: kvs, .cons h t => by
    refine .cons ?_ (KvR.map_set hd t)
    have hk : p.1 = q.1 := h.1
    dsimp only
    by_cases z : q.1 = k
    · rw [if_pos (hk.trans z), if_pos z]; exact ⟨hk, hd⟩
    · rw [if_neg (by rw [hk]; exact z), if_neg z]; exact h
theorem KvR.append {g : Gd} {κ : Type} : ∀ {ks ls : List (κ × V)} {kvs lvs : List (κ × PyData)}, KvR g ks kvs → KvR g ls lvs → KvR g (ks ++ ls) (kvs ++ lvs)
  | _, _, _, _, .nil, s => s
  | _, _, _, _, .cons h t, s => .cons h (KvR.append t s)
theorem KvR.length {g : Gd} {κ : Type} {ks : List (κ × V)} {kvs : List (κ × PyData)} (h : KvR g ks kvs) : ks.length = kvs.length := Paired.length h
theorem KvR.put {g : Gd} {k : Key} {v : V} {d : PyData} {ks : List (Key × V)} {kvs : List (Key × PyData)} (h : KvR g ks kvs) (hd : Dq g v d) : KvR g (putK ks k v) (putD kvs k d) := by
  unfold putK putD
  rw [h.any]
  split
  · exact h.map_set hd
  · exact h.append (.cons ⟨rfl, hd⟩ .nil)
theorem KvR.merge {g : Gd} : ∀ {more : List (Key × V)} {mores : List (Key × PyData)} {ks : List (Key × V)} {kvs : List (Key × PyData)}, KvR g more mores → KvR g ks kvs → KvR g (mergeK ks more) (mergeD kvs mores)
  | _, _, _, _, .nil, s => s
  | p :: _, q :: _, _, _, .cons h t, s => by
    unfold mergeK mergeD
    rw [List.foldl_cons, List.foldl_cons]
    have hk : p.1 = q.1 := h.1
    rw [hk]
    exact KvR.merge t (s.put h.2)
section
variable {X : Cx} {W : WX}
noncomputable def eDg (fa fb : FE) : FE := fun ρ w => (fa ρ w).bind fun d w1 => (fb ρ w1).bind fun e w2 => Oc.of ((dkOf w2 d).bind fun kvs => (keyD e).bind fun k => valD kvs k) w2
theorem pf_dget {o i : Expr} {pos : Pos} {fa fb : FE} (hu : X.A.units + 1 < cLine) (ho : PF X W o fa) (hi : PF X W i fb) (hs : NoSl i := by exact fun _ _ => rfl) : PF X W (.Subscript o i pos) (eDg fa fb) := by
  refine pe_imp (pe_dget hu ho hi hs) fun σ H Q ⟨g, ρ, w, hK, r, e, q⟩ => ?_
  refine lX_bind hK r e q fun v H1 g1 d w1 x r1 e1 dv z => ?_
  refine lX_bind (x.k.trans hK) r1 e1 z fun u H2 g2 c w2 x2 r2 e2 du z2 => ?_
  cases hz : (dkOf w2 d).bind fun kvs => (keyD c).bind fun k => valD kvs k with
  | none => rw [hz] at z2; exact z2.elim
  | some y =>
    rw [hz] at z2
    obtain ⟨kvs, h1, hz⟩ := Option.bind_eq_some_iff.mp hz
    obtain ⟨k, h2, h3⟩ := Option.bind_eq_some_iff.mp hz
    obtain ⟨l, xs, rfl, _, _, _, hH, kv⟩ := dkOf_ok r2 (dv.mono x2.toXt0 _ _) h1
    obtain ⟨v', h4, h5⟩ := kv.val h3
    have ek := keyD_ok du h2
    subst ek
    refine ⟨_, v', rfl, ?_, z2 _ H2 g2 (Xt.refl _) r2 h5⟩
    rw [← h4]
    exact DGet.k hH
/-- the store's cell l is written -/
theorem Rp.write {g : Gd} {H : Hp} {w : Ws} (r : Rp g H w) {l : Nat} {ob ob' : Ob} {o : HO} (hl : w[l]? = some ob) (hn : g.F (g.μ l) = none) (hno : ∀ a b, H (g.μ l) = some b → b ≠ .own a) (ho : ObR g (upd H (g.μ l) o) (g.μ l) ob') (hob : ob ≠ .dead := by intro z; cases z) : Rp g (upd H (g.μ l) o) (w.set l ob') := by
  have hlt : l < g.n := by rw [r.len]; exact (List.getElem?_eq_some_iff.mp hl).1
  obtain ⟨o0, h0⟩ := (r.cell l ob hl).there
  refine ⟨fun a u e => ?_, by rw [List.length_set]; exact r.len, fun m ob2 e => ?_, r.inj, fun a u e => ?_, fun p hp => by
    obtain ⟨t1, t2, t3⟩ := r.tab p hp
    exact ⟨t1.up (fun _ _ e => e) (upd_ne (r.tab.ne hp ((r.cell l ob hl).notab hob))), t2, t3⟩⟩
  · rw [upd_ne (ne_of_none e hn)]
    exact r.fro a u e
  · by_cases q : l = m
    · subst q
      rw [List.getElem?_set_self (by rw [← r.len]; exact hlt)] at e
      cases e
      exact ho
    · rw [List.getElem?_set_ne q] at e
      have hm : m < g.n := by rw [r.len]; exact (List.getElem?_eq_some_iff.mp e).1
      have nm : g.μ m ≠ g.μ l := fun z => q (r.inj m l hm hlt z).symm
      have c := r.cell m ob2 e
      cases ob2 with
      | lst ds =>
        obtain ⟨hn, xs, h, d⟩ := c
        exact ⟨hn, xs, (upd_ne nm).trans h, d⟩
      | dK kvs =>
        obtain ⟨hn, ks, h, d⟩ := c
        exact ⟨hn, ks, (upd_ne nm).trans h, d⟩
      | ins C fs =>
        obtain ⟨hn, dx, gs, ⟨C', hC, h⟩, hd, hn2, d⟩ := c
        have nx : dx ≠ g.μ l := fun z => by rw [z] at hd; exact hno _ _ hd rfl
        exact ⟨hn, dx, gs, ⟨C', hC, (upd_ne nm).trans h⟩, (upd_ne nx).trans hd, hn2, d⟩
      | dead =>
        obtain ⟨o2, h⟩ := c
        exact ⟨o2, (upd_ne nm).trans h⟩
  · obtain ⟨q1, q2, q3⟩ := r.pin a u e
    exact ⟨(upd_ne (fun z => q3 l hlt z.symm)).trans q1, q2, q3⟩
/-- d[k] = v -/
noncomputable def locOf : PyData → Option Nat
  | .dict [(.int l, .none)] => some l.toNat
  | _ => none
noncomputable def sDp (fa fb fv : FE) : FS := fun ρ w => (fv ρ w).thenS ρ fun v w1 => (fa ρ w1).thenS ρ fun d w2 => (fb ρ w2).thenS ρ fun e w3 =>
  match dkOf w3 d, keyD e, locOf d with
  | some kvs, some k, some l => if kvs.length < sizeLine then .nx ρ (w3.set l (.dK (putD kvs k v))) else .no
  | _, _, _ => .no
theorem psf_dput {o i value : Expr} {pos pos' : Pos} {fa fb fv : FE} (hu : X.A.units + 1 < cLine) (ho : PF X W o fa) (hi : PF X W i fb) (hv : PF X W value fv) (hs : swapsWith value (some (.Subscript o i pos')) pos.line X.env = pure false := by rfl) : PSf X W (.Assign [.Subscript o i pos'] value pos) (sDp fa fb fv) := by
  refine ps_imp (ps_dput hu ho hi hv hs) fun D σ H ⟨g, ρ, w, hK, r, e, q⟩ => ?_
  refine lX_then hK r e q fun v H1 g1 dv w1 x r1 e1 hv' z => ?_
  refine lX_then (x.k.trans hK) r1 e1 z fun a H2 g2 d w2 x2 r2 e2 hd z2 => ?_
  refine lX_then (x2.k.trans (x.k.trans hK)) r2 e2 z2 fun u H3 g3 c w3 x3 r3 e3 hc z3 => ?_
  split at z3
  · rename_i kvs k l h1 h2 h3
    split at z3
    · rename_i hsz
      obtain ⟨l', xs, rfl, hd', hw, hn, hH, kv⟩ := dkOf_ok r3 (hd.mono x3.toXt0 _ _) h1
      have el : l = l' := by rw [hd'] at h3; simp [locOf] at h3; exact h3.symm
      subst el
      have ek := keyD_ok hc h2
      subst ek
      have kv2 := kv.put (k := k) (hv'.mono (x2.toXt0.trans x3.toXt0) _ _)
      refine ⟨_, _, rfl, DPut.k hH (by rw [kv.length]; exact hsz), ?_⟩
      refine z3 σ _ g3 (Xt.refl _) (r3.write hw hn (fun a b hb z => ?_) ⟨hn, _, upd_same, kv2⟩) e3
      rw [hH] at hb
      cases hb
      cases z
    · exact z3.elim
  · exact z3.elim
end
end Td

set_option Elab.async false
set_option linter.all false
set_option maxRecDepth 100000
set_option maxHeartbeats 4000000
namespace Td
open PySem L2
theorem lX_w0 {α β : Type} {K : PySem.W.Frag} {W : WX} {R : Gd → β → α → Prop} {f : Ev → Ws → Oc α} : ∀ σ H Q, lX K W0 R f σ H Q → lX K W R f σ H Q := fun σ H Q ⟨g, ρ, w, hK, r, e, q⟩ => by
  refine ⟨g, ρ, w, hK, r, e, ?_⟩
  cases z : f ρ w with
  | ok d w1 => rw [z] at q; exact q
  | ex c fs w1 =>
    rw [z] at q
    intro cv dd H1 g1 hc x r1 y
    exact (q cv dd H1 g1 hc x r1 y).elim
  | no => rw [z] at q; exact q.elim
theorem pf_w0 {X : Cx} {W : WX} {e : Expr} {f : FE} (h : PF X W e f) : PF X W0 e f := pe_imp h lX_w0
/-- what others hold goes into the store -/
theorem pin_alloc {g : Gd} {H : Hp} {w : Ws} {P : Hp} {D : Addr} {o o' : HO} {ob : Ob} (r : Rp g H w) (hP : g.P = upd P D o) (hno : ∀ a, o ≠ .own a) (hD : P D = none)
    (ho : ObR { g with P := P, μ := fun l => if l = g.n then D else g.μ l, n := g.n + 1 } (upd H D o') D ob) :
    Rp { g with P := P, μ := fun l => if l = g.n then D else g.μ l, n := g.n + 1 } (upd H D o') (w ++ [ob]) := by
  obtain ⟨h1, h2, h3⟩ := r.pin D o (by rw [hP]; exact upd_same)
  have x : Xt0 g { g with P := P, μ := fun l => if l = g.n then D else g.μ l, n := g.n + 1 } := ⟨rfl, fun a u e => e, fun l hl => if_neg (by omega), Nat.le_succ _, rfl⟩
  refine ⟨fun a u e => ?_, ?_, fun l ob2 e => ?_, fun l m hl hm e => ?_, fun a u e => ?_, fun p hp => by
    obtain ⟨t1, t2, t3⟩ := r.tab p hp
    have ne : p.1 ≠ D := fun z => by rw [hP, z, upd_same] at t3; cases t3
    rw [hP, upd_ne ne] at t3
    exact ⟨t1.up (fun _ _ e => e) (upd_ne ne), t2, t3⟩⟩
  · rw [upd_ne (ne_of_none e h2)]
    exact r.fro a u e
  · show g.n + 1 = _
    rw [List.length_append, r.len]
    rfl
  · by_cases q : l = g.n
    · subst q
      rw [List.getElem?_append_right (by rw [r.len]; exact Nat.le_refl _), r.len, Nat.sub_self] at e
      cases e
      show ObR _ _ (if g.n = g.n then D else g.μ g.n) ob
      rw [if_pos rfl]
      exact ho
    · have hl : l < w.length := by
        have := (List.getElem?_eq_some_iff.mp e).1
        rw [List.length_append, List.length_singleton] at this
        rw [← r.len] at this ⊢
        omega
      rw [List.getElem?_append_left hl] at e
      have c := r.cell l ob2 e
      have nD := h3 l (by rw [r.len]; exact hl)
      show ObR _ _ (if l = g.n then D else g.μ l) ob2
      rw [if_neg q]
      cases ob2 with
      | lst ds =>
        obtain ⟨hn, xs, h, d⟩ := c
        exact ⟨hn, xs, (upd_ne nD).trans h, d.mono x _ _⟩
      | dK kvs =>
        obtain ⟨hn, ks, h, d⟩ := c
        exact ⟨hn, ks, (upd_ne nD).trans h, d.mono x⟩
      | ins C fs =>
        obtain ⟨hn, dx, gs, ⟨C', hC, h⟩, hd, hn2, d⟩ := c
        have nx : dx ≠ D := fun z => by rw [z, h1] at hd; exact hno _ (Option.some.inj hd)
        exact ⟨hn, dx, gs, ⟨C', hC, (upd_ne nD).trans h⟩, (upd_ne nx).trans hd, hn2, d.mono x⟩
      | dead =>
        obtain ⟨o2, h⟩ := c
        exact ⟨o2, (upd_ne nD).trans h⟩
  · have hl : l < g.n + 1 := hl
    have hm : m < g.n + 1 := hm
    have e : (if l = g.n then D else g.μ l) = (if m = g.n then D else g.μ m) := e
    by_cases q1 : l = g.n
    · by_cases q2 : m = g.n
      · rw [q1, q2]
      · rw [if_pos q1, if_neg q2] at e
        exact absurd e.symm (h3 m (by omega))
    · by_cases q2 : m = g.n
      · rw [if_neg q1, if_pos q2] at e
        exact absurd e (h3 l (by omega))
      · rw [if_neg q1, if_neg q2] at e
        exact r.inj l m (by omega) (by omega) e
  · have e : P a = some u := e
    have na : a ≠ D := fun z => by rw [z, hD] at e; cases e
    obtain ⟨q1, q2, q3⟩ := r.pin a u (by rw [hP, upd_ne na]; exact e)
    refine ⟨(upd_ne na).trans q1, q2, fun l hl z => ?_⟩
    have hl : l < g.n + 1 := hl
    have z : (if l = g.n then D else g.μ l) = a := z
    by_cases q : l = g.n
    · rw [if_pos q] at z
      exact na z.symm
    · rw [if_neg q] at z
      exact q3 l (by omega) z
theorem alloc_xt {g : Gd} {P : Hp} {D : Addr} : Xt0 g { g with P := P, μ := fun l => if l = g.n then D else g.μ l, n := g.n + 1 } := ⟨rfl, fun a u e => e, fun l hl => if_neg (by omega), Nat.le_succ _, rfl⟩
theorem alloc_ref {g : Gd} {P : Hp} {D : Addr} : Dq { g with P := P, μ := fun l => if l = g.n then D else g.μ l, n := g.n + 1 } (.ref D) (rf g.n) := by
  have h : Dq { g with P := P, μ := fun l => if l = g.n then D else g.μ l, n := g.n + 1 } (.ref ((fun l => if l = g.n then D else g.μ l) g.n)) (rf g.n) := .ref (Nat.lt_succ_self _)
  simpa using h
/-! ### {k: v, ..} -/
noncomputable def pairsF : List (FE × FE) → Ev → Ws → Oc (List (PyData × PyData))
  | [], _, w => .ok [] w
  | (fk, fv) :: r, ρ, w => (fk ρ w).bind fun k w1 => (fv ρ w1).bind fun v w2 => (pairsF r ρ w2).bind fun ps w3 => .ok ((k, v) :: ps) w3
noncomputable def PrR (g : Gd) : List (V × V) → List (PyData × PyData) → Prop := Paired fun p q => Dq g p.1 q.1 ∧ Dq g p.2 q.2
theorem PrR.mono {g g' : Gd} (x : Xt0 g g') : ∀ {ps : List (V × V)} {qs : List (PyData × PyData)}, PrR g ps qs → PrR g' ps qs
  | _, _, .nil => .nil
  | _, _, .cons h t => .cons ⟨h.1.mono x _ _, h.2.mono x _ _⟩ (PrR.mono x t)
theorem pairs_of {K : PySem.W.Frag} {W : WX} : ∀ (fps : List (FE × FE)) σ H Q, lX K W PrR (pairsF fps) σ H Q → tPairs (fps.map fun p => (lE K W p.1, lE K W p.2)) σ H Q
  | [], σ, H, Q, ⟨g, ρ, w, hK, r, e, q⟩ => q [] H g (Xt.refl g) r .nil
  | (fk, fv) :: rest, σ, H, Q, ⟨g, ρ, w, hK, r, e, q⟩ => by
    refine lX_bind hK r e q fun k H1 g1 dk w1 x1 r1 e1 hk z1 => ?_
    refine lX_bind (x1.k.trans hK) r1 e1 z1 fun v H2 g2 dv w2 x2 r2 e2 hv z2 => ?_
    refine pairs_of rest σ H2 _ ?_
    refine lX_bind (x2.k.trans (x1.k.trans hK)) r2 e2 z2 fun ps H3 g3 dps w3 x3 r3 e3 hps z3 => ?_
    exact z3 _ H3 g3 (Xt.refl _) r3 (.cons ⟨hk.mono (x2.toXt0.trans x3.toXt0) _ _, hv.mono x3.toXt0 _ _⟩ hps)
noncomputable def keysOf : List (PyData × PyData) → Option (List (Key × PyData))
  | [] => some []
  | (k, v) :: r => match keyD k, keysOf r with
    | some k, some kvs => some ((k, v) :: kvs)
    | _, _ => none
theorem keysOf_ok {g : Gd} : ∀ {ps : List (V × V)} {qs : List (PyData × PyData)} {kvs : List (Key × PyData)}, PrR g ps qs → keysOf qs = some kvs → ∃ ks : List (Key × V), ps = ks.map (fun kv => (kV kv.1, kv.2)) ∧ KvR g ks kvs
  | _, _, _, .nil, e => by cases e; exact ⟨[], rfl, .nil⟩
  | (a, b) :: _, (c, d) :: _, _, .cons h t, e => by
    unfold keysOf at e
    split at e
    · rename_i k kvs h1 h2
      cases e
      obtain ⟨ks, rfl, hk⟩ := keysOf_ok t h2
      have ek := keyD_ok h.1 h1
      have ek : a = kV k := ek
      subst ek
      exact ⟨(k, b) :: ks, rfl, .cons ⟨rfl, h.2⟩ hk⟩
    · cases e
noncomputable def eDisp (fps : List (FE × FE)) : FE := fun ρ w => match pairsF fps ρ w with
  | .ok ps w1 => match keysOf ps with
    | some kvs => if kvs.length ≤ 15 then .ok (rf w1.length) (w1 ++ [.dK (mergeD [] kvs)]) else .no
    | none => .no
  | _ => .no
theorem pf_disp {X : Cx} {W : WX} {pos : Pos} {keys : List (Option Expr)} {values : List Expr} {fps : List (FE × FE)} (h : PPs X pos keys values (fps.map fun p => (lE X.K W0 p.1, lE X.K W0 p.2))) (hall : keys.all (·.isSome) = true := by rfl) (hl : keys.length = values.length := by rfl) (h0 : keys ≠ [] := by exact fun z => by cases z)
    (h15 : keys.length ≤ 15 := by decide) : PF X W (.Dict keys values pos) (eDisp fps) := by
  refine pe_imp (pe_disp h hall hl h0 h15) fun σ H Q ⟨g, ρ, w, hK, r, e, q⟩ => ?_
  intro p hp
  have pP : g.P p = none := by
    cases h : g.P p with
    | none => rfl
    | some o => rw [(r.pin p o h).1] at hp; cases hp
  have r0 := pin_new r hp (.dK [])
  refine pairs_of fps σ _ _ ⟨g.pn (upd g.P p (.dK [])), ρ, w, hK, r0, e.mono (g.pn_xt _), ?_⟩
  unfold eDisp at q
  cases hz : pairsF fps ρ w with
  | ok ps w1 =>
    rw [hz] at q
    intro vs H1 g1 x r1 hps
    simp only at q
    split at q
    · rename_i kvs hk
      split at q
      · rename_i hlen
        obtain ⟨ks, rfl, kv⟩ := keysOf_ok hps hk
        have hP1 : g1.P = upd g.P p (.dK []) := x.p
        refine ⟨(r1.pin p _ (by rw [hP1]; exact upd_same)).1, ks, rfl, by rw [kv.length]; exact hlen, ?_⟩
        have hn := (r1.pin p _ (by rw [hP1]; exact upd_same)).2.1
        have ra := pin_alloc (o' := .dK (mergeK [] ks)) (ob := .dK (mergeD [] kvs)) r1 hP1 (fun a z => nomatch z) pP ⟨hn, _, upd_same, (KvR.merge kv .nil).mono alloc_xt⟩
        refine q _ _ _ ⟨((g.pn_xt _).trans x.toXt0).trans alloc_xt, rfl⟩ ra ?_
        rw [← r1.len]
        exact alloc_ref
      · exact q.elim
    · exact q.elim
  | ex c fs w1 => rw [hz] at q; exact q.elim
  | no => rw [hz] at q; exact q.elim
theorem ppsf_nil {X : Cx} {pos : Pos} : PPs X pos [] [] (([] : List (FE × FE)).map fun p => (lE X.K W0 p.1, lE X.K W0 p.2)) := pps_nil
theorem ppsf_cons {X : Cx} {pos : Pos} {k v : Expr} {ks : List (Option Expr)} {vs : List Expr} {fk fv : FE} {fps : List (FE × FE)} (hk : PF X W0 k fk) (hv : PF X W0 v fv) (hr : PPs X pos ks vs (fps.map fun p => (lE X.K W0 p.1, lE X.K W0 p.2))) :
    PPs X pos (some k :: ks) (v :: vs) (((fk, fv) :: fps).map fun p => (lE X.K W0 p.1, lE X.K W0 p.2)) := pps_cons hk hv hr

/-! ### repr -/
section
variable {X : Cx} {W : WX}
noncomputable def reprD (_ : Ws) : List PyData → Option PyData
  | [d] => if SeqAt.shaped d && d.showable && szOk d.shown.length then some (.str d.shown) else none
  | _ => none
theorem call_reprX (hg : X.A.guards = some []) (hu : X.A.units + 70 < cLine) : CallR X (.builtin "repr") (rDN X.K reprD) := by
  intro pins s σ H xs us Q I rv ⟨g, w, ds, z, hK, r, dx, hz, q⟩
  unfold reprD at hz
  split at hz
  · rename_i d
    split at hz
    · rename_i hs
      cases hz
      rw [Bool.and_eq_true, Bool.and_eq_true] at hs
      obtain ⟨⟨h1, h2⟩, h3⟩ := hs
      have h3 := of_decide_eq_true h3
      cases dx with
      | cons d0 dn =>
        cases dn
        cases rv with
        | cons rv0 rvn =>
          cases rvn
          have fin : ∀ t tk, EP X pins σ Q (.str d.shown t) { s with toks := tk } := fun t tk => ⟨.str d.shown, H, I.tok tk, ⟨t, rfl⟩, q _ H g (Xt.refl g) r (.str _)⟩
          cases d0 with
          | non => cases rv0; exact PySem.P.repr_of_none (fin _ _)
          | bl b => cases rv0; exact PySem.P.repr_of_bool (fin _ _)
          | int i =>
            obtain ⟨t, rfl⟩ := rv0
            exact PySem.P.repr_of_int (by simpa [PyData.showable] using h2) (fin _ _)
          | str y =>
            obtain ⟨t, rfl⟩ := rv0
            exact PySem.P.repr_of_str (fin _ _) h3
          | lst sq da =>
            obtain ⟨as, rd⟩ := Dp.reads I _ _ _ (hK ▸ (Dq.lst sq da).dp r.fro _ _ (shaped_lay h1)) rv0
            cases rv0
            have hdep : PyData.depth _ ≤ 64 := of_decide_eq_true ((Bool.and_eq_true _ _).mp h1).2
            refine repr_of_reads' rd h2 (PyData.noDict_hsm (PyData.hasDict_of_canLay _ (shaped_lay h1))) hg (by omega) (fun _ _ e => e) (fun h' u tk hk => ?_) h3
            exact ⟨.str _, H, I.kept hk, ⟨u, rfl⟩, q _ H g (Xt.refl g) r (.str _)⟩
          | tup sq da =>
            obtain ⟨as, rd⟩ := Dp.reads I _ _ _ (hK ▸ (Dq.tup sq da).dp r.fro _ _ (shaped_lay h1)) rv0
            cases rv0
            have hdep : PyData.depth _ ≤ 64 := of_decide_eq_true ((Bool.and_eq_true _ _).mp h1).2
            refine repr_of_reads' rd h2 (PyData.noDict_hsm (PyData.hasDict_of_canLay _ (shaped_lay h1))) hg (by omega) (fun _ _ e => e) (fun h' u tk hk => ?_) h3
            exact ⟨.str _, H, I.kept hk, ⟨u, rfl⟩, q _ H g (Xt.refl g) r (.str _)⟩
          | ref hl =>
            have := shaped_lay h1
            simp [PyData.canLay0] at this
          | exc hl =>
            have := shaped_lay h1
            simp [PyData.canLay0] at this
          | fk hl =>
            have := shaped_lay h1
            simp [PyData.canLay0] at this
          | ft hl =>
            have := shaped_lay h1
            simp [PyData.canLay0] at this
          | fi hl =>
            have := shaped_lay h1
            simp [PyData.canLay0] at this
          | wt hl =>
            have := shaped_lay h1
            simp [PyData.canLay0] at this
    · cases hz
  · cases hz
end
end Td

set_option Elab.async false
set_option linter.all false
set_option maxRecDepth 100000
set_option maxHeartbeats 4000000
namespace Td
open PySem L2 PySem.Spec PyProof.Rows
/-! ### what leaves a call: objects that nobody sees any more are dropped -/
mutual
noncomputable def bnd (n : Nat) : PyData → Bool
  | .list xs => bndA n xs
  | .tuple xs => bndA n xs
  | .dict kvs => bndK n kvs
  | _ => true
noncomputable def bndA (n : Nat) : List PyData → Bool
  | [] => true
  | x :: xs => bnd n x && bndA n xs
noncomputable def bndK (n : Nat) : List (PyData × PyData) → Bool
  | [(.int l, .none)] => decide (l < n)
  | [(.none, .none), (.tuple _, .tuple ds)] => bndA n ds
  | [(.none, .str _), (.tuple _, .tuple ds)] => bndA n ds
  | _ => false
end
noncomputable def bndO (n : Nat) : Ob → Bool
  | .lst xs => bndA n xs
  | .dK kvs => bndA n (kvs.map (·.2))
  | .ins _ fs => bndA n (fs.map (·.2))
  | .dead => true
noncomputable def Gd.cut (g : Gd) (n : Nat) : Gd := { g with n := n }
mutual
theorem Dq.cut {g : Gd} {n : Nat} : ∀ (d : PyData) (v : V), bnd n d = true → Dq g v d → Dq (g.cut n) v d
  | .none, _, _, h => by cases h; exact .non
  | .bool _, _, _, h => by cases h; exact .bl _
  | .int _, _, _, h => by cases h; exact .int _
  | .str _, _, _, h => by cases h; exact .str _
  | .list ds, _, c, h => by
    cases h with
    | lst a b => exact .lst a (DqA.cutA ds _ (by simpa [bnd] using c) b)
  | .tuple ds, _, c, h => by
    cases h with
    | tup a b => exact .tup a (DqA.cutA ds _ (by simpa [bnd] using c) b)
  | .dict _, _, c, h => by
    cases h with
    | @ref l hl =>
      have : l < n := by simpa [bnd, bndK] using c
      exact Dq.ref (g := g.cut n) this
    | exc _ _ => simp [bnd, bndK] at c
    | fk h q => exact .fk h (DqA.cutA _ _ (by simpa [bnd, bndK] using c) q)
    | ft _ _ => simp [bnd, bndK] at c
    | fi h n q => exact .fi h n (DqA.cutA _ _ (by simpa [bnd, bndK] using c) q)
    | wt _ _ => simp [bnd, bndK] at c
theorem DqA.cutA {g : Gd} {n : Nat} : ∀ (ds : List PyData) (vs : List V), bndA n ds = true → DqA g vs ds → DqA (g.cut n) vs ds
  | [], _, _, h => by cases h; exact .nil
  | d :: ds, _, c, h => by
    have c' : bnd n d = true ∧ bndA n ds = true := by simpa [bndA] using c
    cases h with
    | cons a b => exact .cons (Dq.cut d _ c'.1 a) (DqA.cutA ds _ c'.2 b)
end
theorem KvR.cut {κ : Type} {g : Gd} {n : Nat} : ∀ {ks : List (κ × V)} {kvs : List (κ × PyData)}, bndA n (kvs.map (·.2)) = true → KvR g ks kvs → KvR (g.cut n) ks kvs
  | _, _, _, .nil => .nil
  | _, _, c, .cons h t => by
    have c' := c
    simp only [List.map_cons, bndA, Bool.and_eq_true] at c'
    exact .cons ⟨h.1, h.2.cut _ _ c'.1⟩ (KvR.cut c'.2 t)
theorem ObR.cut {g : Gd} {n : Nat} {H : Hp} {a : Addr} {ob : Ob} (c : bndO n ob = true) (h : ObR g H a ob) : ObR (g.cut n) H a ob := by
  cases ob with
  | lst ds =>
    obtain ⟨hn, xs, h, d⟩ := h
    exact ⟨hn, xs, h, d.cutA _ _ c⟩
  | dK kvs =>
    obtain ⟨hn, ks, h, d⟩ := h
    exact ⟨hn, ks, h, d.cut c⟩
  | ins C fs =>
    obtain ⟨hn, dx, gs, h, hd, hn2, d⟩ := h
    exact ⟨hn, dx, gs, h, hd, hn2, d.cut c⟩
  | dead => exact h
theorem Rp.cut {g : Gd} {H : Hp} {w : Ws} {n : Nat} (r : Rp g H w) (hn : n ≤ w.length) (c : (w.take n).all (bndO n) = true) : Rp (g.cut n) H (w.take n) where
  fro := r.fro
  len := by show n = _; rw [List.length_take]; omega
  cell := fun l ob e => by
    have hl : l < n := by
      have := (List.getElem?_eq_some_iff.mp e).1
      rw [List.length_take] at this
      omega
    have e' := e
    rw [List.getElem?_take_of_lt hl] at e
    exact (r.cell l ob e).cut (List.all_eq_true.mp c ob (List.mem_of_getElem? e'))
  inj := fun l m hl hm e => r.inj l m (by rw [r.len]; exact Nat.lt_of_lt_of_le hl hn) (by rw [r.len]; exact Nat.lt_of_lt_of_le hm hn) e
  pin := fun a u e => let ⟨h1, h2, h3⟩ := r.pin a u e; ⟨h1, h2, fun l hl => h3 l (by rw [r.len]; exact Nat.lt_of_lt_of_le hl hn)⟩
  tab := r.tab
noncomputable abbrev FF := List PyData → Ws → Oc PyData
noncomputable def trimW (n : Nat) (w : Ws) : Bool := decide (n ≤ w.length) && (w.take n).all (bndO n)
noncomputable def leave (n : Nat) : Os → Oc PyData
  | .nx _ w => if trimW n w then .ok .none (w.take n) else .ok .none w
  | .rt d w => if trimW n w && bnd n d then .ok d (w.take n) else .ok d w
  | .ex _ c fs w => if trimW n w && bndA n (fs.map (·.2)) then .ex c fs (w.take n) else .ex c fs w
  | _ => .no
noncomputable def startE (m : Nat) (ds : List PyData) : Ev := ds.map some ++ List.replicate (m - ds.length) none
noncomputable def defF (m : Nat) (n : Nat) (bf : FS) : FF := fun ds w => if ds.length = n then leave w.length (bf (startE m ds) w) else .no

/-! ### what a def promises -/
noncomputable def oF (g : Gd) (Q : VK) (E : XK) : Oc PyData → Prop
  | .ok d w => ∀ v H g', Xt g g' → Rp g' H w → Dq g' v d → Q v H
  | .ex c fs w => ∀ cv dd H g', ClsV g.K c cv → Xt g g' → Rp g' H w → XdR g' H fs dd → E cv dd H
  | .no => False
noncomputable def spF (K : PySem.W.Frag) (n : Nat) (gf : FF) : Sp := fun vs H Q E => ∃ g w ds, g.K = K ∧ Rp g H w ∧ DqA g vs ds ∧ vs.length = n ∧ oF g Q E (gf ds w)
structure FnG (P : Program) (w : World) (K : PySem.W.Frag) (mg : Str → Option Value) (base : Heap) (k : Nat) (f : Addr) (fd : FuncData) (ps : List Str) (gf : FF) : Prop where
  run : ∀ (A : Around) (outer : List Env) (s : Shared) (H : Hp) (args : Args) (us : List Value) (vs : List V) (Q : VK) (E : XK), Room k A → A.guards = some [] → Env0 P w K mg base A outer s H → BindsTo s fd args (ps.zip us) → Vals vs us → spF K ps.length gf vs H Q E →
    codeAny (model P w) A (.call (.ref f) args) (CR (L2N.CX P w) outer P w H s Q E) s
theorem FnG.mono {P : Program} {w : World} {K : PySem.W.Frag} {mg : Str → Option Value} {base : Heap} {j k : Nat} {f : Addr} {fd : FuncData} {ps : List Str} {gf : FF} (F : FnG P w K mg base j f fd ps gf) (h : j ≤ k) : FnG P w K mg base k f fd ps gf :=
  ⟨fun A outer s H args us vs Q E hr => F.run A outer s H args us vs Q E (hr.mono h)⟩
theorem FnG.eq {P : Program} {w : World} {K : PySem.W.Frag} {mg : Str → Option Value} {base : Heap} {k : Nat} {f : Addr} {fd : FuncData} {ps : List Str} {gf gf' : FF} (F : FnG P w K mg base k f fd ps gf) (h : ∀ ds w, gf' ds w = .no ∨ gf ds w = gf' ds w) : FnG P w K mg base k f fd ps gf' :=
  ⟨fun A outer s H args us vs Q E hr hg e0 hb hv ⟨g, w', ds, hK, r, da, hl, q⟩ => F.run A outer s H args us vs Q E hr hg e0 hb hv ⟨g, w', ds, hK, r, da, hl, by
    rcases h ds w' with h | h
    · rw [h] at q; exact q.elim
    · rw [h]; exact q⟩⟩
theorem EnR.begin {g : Gd} {N : List Str} {vs : List V} {ds : List PyData} (h : DqA g vs ds) : EnR g (L2.start N vs) (startE N.length ds) := by
  refine ⟨by unfold L2.start startE; simp [h.length], fun i d e => ?_⟩
  unfold startE at e
  unfold L2.start
  by_cases hi : i < ds.length
  · rw [List.getElem?_append_left (by simpa using hi), List.getElem?_map] at e
    obtain ⟨d', h1, h2⟩ := Option.map_eq_some_iff.mp e
    cases h2
    obtain ⟨v, h3, h4⟩ := h.get h1
    exact ⟨v, by rw [List.getElem?_append_left (by simpa [h.length] using hi), List.getElem?_map, h3]; rfl, h4⟩
  · rw [List.getElem?_append_right (by simpa using hi), List.getElem?_replicate] at e
    split at e <;> cases e
theorem XdR.cut {g : Gd} {n : Nat} {H : Hp} {fs : List (Str × PyData)} {dd : Option Addr} (hn : n ≤ g.n) (c : bndA n (fs.map (·.2)) = true) (h : XdR g H fs dd) : XdR (g.cut n) H fs dd := by
  cases dd with
  | none => exact h
  | some d =>
    obtain ⟨h1, h0, h2, gs, h3, h4⟩ := h
    exact ⟨h1, h0, fun l hl => h2 l (Nat.lt_of_lt_of_le hl hn), gs, h3, h4.cut c⟩
theorem Xt.cut {g g' : Gd} (x : Xt g g') : Xt g (g'.cut g.n) := ⟨⟨x.k, x.ex, x.at_, Nat.le_refl _, x.t⟩, x.p⟩
section
variable {P : Program} {w : World} {K : PySem.W.Frag} {mg : Str → Option Value} {base : Heap}
theorem leave_ok {g : Gd} {Q : VK} {E : XK} {H : Hp} {ws : Ws} (r : Rp g H ws) {o : Os} (h : oF g Q E (leave ws.length o)) : oSt (fun c d _ H => E c d H) g { nx := fun _ H' => Q .non H', rt := Q } o := by
  have hn := r.len
  cases o with
  | nx ρ w' =>
    intro σ H' g' x r' e'
    simp only [leave] at h
    split at h
    · rename_i ht
      rw [trimW, Bool.and_eq_true] at ht
      have := h .non H' (g'.cut g.n) x.cut (by rw [hn]; exact r'.cut (of_decide_eq_true ht.1) ht.2) .non
      exact this
    · exact h .non H' g' x r' .non
  | rt d w' =>
    intro v H' g' x r' dv
    simp only [leave] at h
    split at h
    · rename_i ht
      rw [trimW, Bool.and_eq_true, Bool.and_eq_true] at ht
      exact h v H' (g'.cut g.n) x.cut (by rw [hn]; exact r'.cut (of_decide_eq_true ht.1.1) ht.1.2) (by rw [hn]; exact dv.cut _ _ ht.2)
    · exact h v H' g' x r' dv
  | ex ρ c fs w' =>
    intro cv dd σ H' g' hc x r' e' xd
    simp only [leave] at h
    split at h
    · rename_i ht
      rw [trimW, Bool.and_eq_true, Bool.and_eq_true] at ht
      exact h cv dd H' (g'.cut g.n) hc x.cut (by rw [hn]; exact r'.cut (of_decide_eq_true ht.1.1) ht.1.2) (by rw [hn]; exact xd.cut (by rw [← hn]; exact x.le) ht.2)
    · exact h cv dd H' g' hc x r' xd
  | bk ρ w' => exact h.elim
  | ct ρ w' => exact h.elim
  | no => exact h.elim
/-- THE RULE for a def, by its body -/
theorem fnG_ofT {x qual : Str} {st : Stmt} {f : Addr} {fd : FuncData} {N ps : List Str} {k : Nat} {bf : FS} (F : Fun K x qual st f fd) (S : FnScope N ps (defScope st))
    (hbody : ∀ (cdv : Value), fd.code = cdv → ∀ (A : Around) (outer : List Env) (s : Shared) (H : Hp) (E : XK), Room k (A.deeper (envOfC qual (defScope st) s.heap.objs.size f cdv)) → A.guards = some [] →
      PSsf (cxOf (L2N.CX P w) P w K mg base N qual (defScope st) f cdv A outer s H E) (fun c d _ H => E c d H) (defBody st) bf) : FnG P w K mg base (k + 1) f fd ps (defF N.length ps.length bf) := by
  obtain ⟨oc, od, kV, doc, pm, an, cdv, ct, osl, rfl, lk, hcd⟩ := F.ex
  refine ⟨fun A outer s H args us vs Q E hr hg e0 hb hv hsp => ?_⟩
  obtain ⟨g, ws, ds, hK, r, da, hl, q⟩ := hsp
  have inK : K.In s.heap := e0.mod.kin.keeps fun b ob z => (e0.bs b ob z).1
  have noLim : s.heap.NoLimit := e0.mod.nolimit.keeps fun b ob z => (e0.bs b ob z).1
  have kinds : ∀ y ∈ ps.zip us, (defScope st).names.lookup y.1 = some .local ∨ ((defScope st).names.lookup y.1 = some .cell ∧ ((cellsFrom (s.heap.objs.size + 1) (defScope st).names []).lookup y.1).isSome = true) := by
    rintro ⟨nm, vl⟩ hy
    rcases S.par nm (List.of_mem_zip hy).1 with z | z
    · exact Or.inl z
    · exact Or.inr ⟨z, PySem.W.cellsFrom_some _ _ _ (Or.inl z)⟩
  refine codeAny_call_function hr.depth (inK _ _ lk) rfl S.co S.gen rfl (PySem.W.codeRec_of inK hcd) (hb _ _ _ _ ?_)
  refine wpAny_newFunctionEnv_cells S.kind kinds ?_
  rintro env rfl s1 nw
  refine ⟨noLim.keeps nw.toInCall.keep, codeAny_func ?_⟩
  have body := hbody cdv rfl A outer s H E (hr.deeper _) hg
  have J0 : Inv (cxOf (L2N.CX P w) P w K mg base N qual (defScope st) f cdv A outer s H E) [] (L2.start N vs) H s1 := inv_start S hr.hd e0 hl hv nw
  have want : lS K (fun c d _ H => E c d H) bf { nx := fun _ H' => Q .non H', rt := Q } (L2.start N vs) H := by
    refine ⟨g, startE N.length ds, ws, hK, r, EnR.begin da, leave_ok r ?_⟩
    have hd : ds.length = ps.length := by rw [← da.length]; exact hl
    rw [defF, if_pos hd] at q
    exact q
  refine wpAny_mono (body.run [] s1 _ H _ J0 want) ?_ fun _ _ z => z
  intro fl s' hs
  cases fl with
  | brk => exact hs.elim fun _ z => z.elim fun _ z => z.2.elim
  | cont => exact hs.elim fun _ z => z.elim fun _ z => z.2.elim
  | next =>
    obtain ⟨_, H', J, z⟩ := hs
    exact ⟨.non, H', J.os, J.bare, J.base, J.hok, rfl, z⟩
  | ret u =>
    obtain ⟨v, _, H', J, rv, z⟩ := hs
    exact ⟨v, H', J.os, J.bare, J.base, J.hok, rv, z⟩
theorem fnG_of {x qual : Str} {st : Stmt} {f : Addr} {fd : FuncData} {N ps : List Str} {k : Nat} {bf : FS} (F : Fun K x qual st f fd) (S : FnScope N ps (defScope st))
    (hbody : ∀ (cdv : Value) (A : Around) (outer : List Env) (s : Shared) (H : Hp) (E : XK), Room k (A.deeper (envOfC qual (defScope st) s.heap.objs.size f cdv)) → A.guards = some [] →
      PSsf (cxOf (L2N.CX P w) P w K mg base N qual (defScope st) f cdv A outer s H E) (fun c d _ H => E c d H) (defBody st) bf) : FnG P w K mg base (k + 1) f fd ps (defF N.length ps.length bf) :=
  fnG_ofT F S fun cdv _ => hbody cdv
end
end Td

set_option Elab.async false
set_option linter.all false
set_option maxRecDepth 100000
set_option maxHeartbeats 4000000
namespace Td
open PySem L2 PySem.Spec PyProof.Rows
section
variable {X : Cx} {W : WX} {k : Nat} {f : Addr} {fd : FuncData} {ps : List Str} {gf : FF} {ds : List Value} {dvs : List V} {des : List PyData}
/-- the callee runs -/
theorem run_G {pins : List (Addr × Obj)} {σ : L2.St} {H : Hp} {s : Shared} {Q : VK} {us : List Value} {vs : List V} (F : FnG X.prog X.w X.K X.mg X.base k f fd ps gf) (hr : Room k X.A) (hgu : X.A.guards = some []) (hb : Binds X.K fd ps ds) (hd : Vals dvs ds) (tk : L2N.Takes X W)
    (I : Inv X pins σ H s) (r : Vals vs us) (h : spF X.K ps.length gf (vs ++ dvs) H Q (fun c d H' => W c d σ H')) : wpAny (model X.prog X.w) X.A (call (.ref f) us) (EP X pins σ Q) X.xe s := by
  have all : Vals (vs ++ dvs) (us ++ ds) := r.append hd
  have many : (us ++ ds).length = ps.length := by
    obtain ⟨_, _, _, _, _, _, hl, _⟩ := h
    rw [← all.length]
    exact hl
  refine wpAny_call (codeAny_mono (F.run X.A X.stack s H ⟨us, []⟩ _ _ Q _ hr hgu I.env0 (hb s us I.kIn many) all h) ?_)
  intro res s' hq
  match res, hq with
  | .error e, hq => exact tk e s' (L2N.XE.of_call I (fun _ _ _ z => z) hq)
  | .ok (.ret u), hq => exact I.after hq
noncomputable def eCall (gf : FF) (des : List PyData) (fa : FA) : FE := fun ρ w => (fa ρ w).bind fun as w1 => gf (as ++ des) w1
theorem call_want {σ : L2.St} {H : Hp} {Q : VK} {fa : FA} {K : PySem.W.Frag} {n : Nat} (hdd : ∀ g : Gd, DqA g dvs des) (hlen : ∀ as : List PyData, (as ++ des).length = n ∨ ∀ w, gf (as ++ des) w = .no) (h : lE K W (eCall gf des fa) σ H Q) :
    lA K W fa σ H fun vs H1 => spF K n gf (vs ++ dvs) H1 Q (fun c d H' => W c d σ H') := by
  obtain ⟨g, ρ, w, hK, r, e, q⟩ := h
  refine lX_bind hK r e q fun vs H1 g1 as w1 x r1 e1 dv z => ?_
  have dal : DqA g1 (vs ++ dvs) (as ++ des) := dv.append (hdd g1)
  refine ⟨g1, w1, as ++ des, x.k.trans hK, r1, dal, ?_, ?_⟩
  · rw [dal.length]
    rcases hlen as with h | h
    · exact h
    · rw [h] at z; exact z.elim
  · cases hz : gf (as ++ des) w1 with
    | ok d w2 => rw [hz] at z; exact z
    | ex c fs w2 => rw [hz] at z; exact z
    | no => rw [hz] at z; exact z
/-- f(a, ..), the defaults dvs behind -/
theorem pf_callD {x : Str} {p pos : Pos} {e : Expr} {es : List Expr} {fa : FA} (F : FnG X.prog X.w X.K X.mg X.base k f fd ps gf) (hr : Room k X.A) (hgu : X.A.guards = some []) (hg : Gl X x) (hm : X.mg x = some (.ref f)) (hk : PySem.W.keepIn X.K (.ref f) = true) (hb : Binds X.K fd ps ds) (hd : Vals dvs ds) (hdd : ∀ g : Gd, DqA g dvs des)
    (hlen : ∀ as : List PyData, (as ++ des).length = ps.length ∨ ∀ w, gf (as ++ des) w = .no) (tk : L2N.Takes X W) (ha : PAf X W (e :: es) fa) (hdb : (x == ("__debug__" : Str)) = false := by decide) (he : starEach (e :: es) X.env = (false, eval e X.env) :: starEach es X.env := by rfl) (hpl : (backTo pos (starEach es X.env)).any (·.1) = false := by rfl) :
    PF X W (.Call (.Name x p) (e :: es) [] pos) (eCall gf des fa) := by
  refine ⟨fun pins s σ H Q I h => ?_⟩
  have want := call_want hdd hlen h
  refine wpAny_Call_Name_kw (ld_glob I hg hm ?_ hdb)
  refine PySem.W.callWith_K (h₀ := X.base) I.ok.mod.kin hk ?_ he hpl
  exact thn (ha.run pos pins s σ H _ I want) fun us s1 ⟨vs, H1, I1, rv, q⟩ => ⟨I1.kIn, run_G F hr hgu hb hd tk I1 rv q⟩
end
end Td

set_option Elab.async false
set_option linter.all false
set_option maxRecDepth 100000
set_option maxHeartbeats 4000000
namespace Td
open PySem L2 PySem.Spec PyProof.Rows
/-! ### the law's own call -/
noncomputable def intsD (ns : List Int) : PyData := .list (ns.map .int)
theorem dqa_ints {g : Gd} : ∀ ns : List Int, DqA g (ns.map V.int) (ns.map PyData.int)
  | [] => .nil
  | n :: ns => .cons (.int n) (dqa_ints ns)
/-- the abstract heap at the law's entry: the script, as it stands, if it is none of the module's own -/
noncomputable def H00 (K : PySem.W.Frag) (a : Addr) (o : Obj) (ns : List Int) : Hp := fun b => if b = a ∧ K.lookup a = none then some (.frz o (.lst (ns.map V.int))) else none
theorem H00_some {K : PySem.W.Frag} {a b : Addr} {o : Obj} {ns : List Int} {u : HO} (h : H00 K a o ns b = some u) : b = a ∧ K.lookup a = none ∧ u = .frz o (.lst (ns.map V.int)) := by
  unfold H00 at h
  split at h
  · rename_i c
    exact ⟨c.1, c.2, (Option.some.inj h).symm⟩
  · cases h
end Td

set_option Elab.async false
set_option linter.all false
set_option maxRecDepth 100000
set_option maxHeartbeats 4000000
namespace Td
open PySem L2 PySem.Spec PyProof.Rows
theorem hu1 {k : Nat} {A : Around} (hr : Room k A) : A.units + 1 < cLine := by have := hr.un; omega
theorem hu64 {k : Nat} {A : Around} (hr : Room k A) : A.units + 64 < cLine := by have := hr.un; omega
theorem hu65 {k : Nat} {A : Around} (hr : Room k A) : A.units + 65 < cLine := by have := hr.un; omega
theorem hu70 {k : Nat} {A : Around} (hr : Room k A) : A.units + 70 < cLine := by have := hr.un; omega
theorem takesW0 {X : Cx} : L2N.Takes X W0 := fun _ _ x => by
  obtain ⟨_, _, _, _, _, _, _, _, _, _, _, _, _, _, _, _, z⟩ := x
  exact z.elim
set_option genInjectivity false in
set_option genSizeOf false in
/-- a def of the text, where it stands -/
structure DefAt (K : PySem.W.Frag) (mg : Str → Option Value) (x : Str) (st : Stmt) (ps : List Str) where
  f : Addr
  fd : FuncData
  fn : Fun K x x st f fd
  at_ : mg x = some (.ref f)
  bd : Binds K fd ps []
structure Gx (P : Program) (w : World) (K : PySem.W.Frag) (mg : Str → Option Value) (base : Heap) (k : Nat) {x : Str} {st : Stmt} {ps : List Str} (D : DefAt K mg x st ps) (gf : FF) : Prop where
  fn : FnG P w K mg base k D.f D.fd ps gf
  len : ∀ as w, as.length ≠ ps.length → gf as w = .no
section
variable {X : Cx} {W : WX} {k : Nat} {ps : List Str} {gf : FF} {x : Str} {st : Stmt} {p pos : Pos}
theorem pf_callR {D : DefAt X.K X.mg x st ps} {e : Expr} {es : List Expr} {fa : FA} (G : Gx X.prog X.w X.K X.mg X.base k D gf) (hr : Room k X.A) (hgu : X.A.guards = some []) (hgl : Gl X x) (tk : L2N.Takes X W) (ha : PAf X W (e :: es) fa)
    (hdb : (x == ("__debug__" : Str)) = false := by decide) (he : starEach (e :: es) X.env = (false, eval e X.env) :: starEach es X.env := by rfl) (hpl : (backTo pos (starEach es X.env)).any (·.1) = false := by rfl) :
    PF X W (.Call (.Name x p) (e :: es) [] pos) (eCall gf [] fa) :=
  pf_callD G.fn hr hgu hgl D.at_ D.fn.kp D.bd .nil (fun _ => .nil) (fun as => by
    by_cases h : (as ++ []).length = ps.length
    · exact Or.inl h
    · exact Or.inr fun w => G.len _ w h) tk ha hdb he hpl
theorem pf_callR0 {D : DefAt X.K X.mg x st ps} (G : Gx X.prog X.w X.K X.mg X.base k D gf) (hr : Room k X.A) (hgu : X.A.guards = some []) (hgl : Gl X x) (tk : L2N.Takes X W)
    (hdb : (x == ("__debug__" : Str)) = false := by decide) : PF X W (.Call (.Name x p) [] [] pos) (eCall gf [] aN) := by
  refine ⟨fun pins s σ H Q I h => ?_⟩
  have want := call_want (dvs := []) (des := []) (n := ps.length) (fun _ => .nil) (fun as => by
    by_cases h : (as ++ []).length = ps.length
    · exact Or.inl h
    · exact Or.inr fun w => G.len _ w h) h
  refine wpAny_Call_Name_kw (ld_glob I hgl D.at_ ?_ hdb)
  obtain ⟨g, ρ, w, hK, r, e, q⟩ := want
  exact PySem.W.callWith_K0 I.kIn D.fn.kp (run_G (us := []) (vs := []) G.fn hr hgu D.bd .nil tk I .nil (q [] H g (Xt.refl g) r .nil))
/-- s.upper() -/
noncomputable def upD (_ : Ws) : PyData → Option PyData
  | .str a => if decide (a.length ≤ 5592405) then some (.str (Txt.upper a)) else none
  | _ => none
end
section
variable {P : Program} {w : World} {K : PySem.W.Frag} {mg : Str → Option Value} {base : Heap}
/-- a def by its body -/
theorem gx_of {x : Str} {st : Stmt} {N ps : List Str} {k : Nat} {bf : FS} (D : DefAt K mg x st ps) (S : FnScope N ps (defScope st))
    (hbody : ∀ (cdv : Value) (A : Around) (outer : List Env) (s : Shared) (H : Hp) (E : XK), Room k (A.deeper (envOfC x (defScope st) s.heap.objs.size D.f cdv)) → A.guards = some [] →
      PSsf (cxOf (L2N.CX P w) P w K mg base N x (defScope st) D.f cdv A outer s H E) (fun c d _ H => E c d H) (defBody st) bf) : Gx P w K mg base (k + 1) D (defF N.length ps.length bf) :=
  ⟨fnG_of D.fn S hbody, fun as w h => if_neg h⟩
theorem Gx.mono {x : Str} {st : Stmt} {ps : List Str} {j k : Nat} {D : DefAt K mg x st ps} {gf : FF} (G : Gx P w K mg base j D gf) (h : j ≤ k) : Gx P w K mg base k D gf := ⟨G.fn.mono h, G.len⟩
theorem gx_no {x : Str} {st : Stmt} {ps : List Str} {k : Nat} (D : DefAt K mg x st ps) : Gx P w K mg base k D (fun _ _ => .no) :=
  ⟨⟨fun A outer s H args us vs Q E hr hg e0 hb hv ⟨g, w', ds, hK, r, da, hl, q⟩ => q.elim⟩, fun _ _ _ => rfl⟩
theorem tkX {x : Str} {st : Stmt} {N : List Str} {f : Addr} {cdv : Value} {A : Around} {outer : List Env} {s : Shared} {H : Hp} {E : XK} : L2N.Takes (cxOf (L2N.CX P w) P w K mg base N x (defScope st) f cdv A outer s H E) (fun c d _ H => E c d H) := L2N.takes_of rfl rfl rfl rfl
theorem poX {x : Str} {st : Stmt} {N : List Str} {f : Addr} {cdv : Value} {A : Around} {outer : List Env} {s : Shared} {H : Hp} {E : XK} : PassesOwn (model P w) (cxOf (L2N.CX P w) P w K mg base N x (defScope st) f cdv A outer s H E).A (cxOf (L2N.CX P w) P w K mg base N x (defScope st) f cdv A outer s H E).env (cxOf (L2N.CX P w) P w K mg base N x (defScope st) f cdv A outer s H E).xe := passes_of rfl
noncomputable def defAt_mk {h : Heap} {x : Str} {st : Stmt} {ps : List Str} {f : Addr} {oc : Value} {od an : Option Addr} {osl : Array (Option Value)} {kV doc pm cdv ct : Value} (X : K.In h) (G : h.Ns mainGlobals mg) (a : PySem.W.nsIn K mainGlobals x = some (some (.ref f)))
    (l : K.lookup f = some ⟨oc, od, .func (PySem.W.fnOf x x (defArgs st) (defBody st) (defScope st) .none kV doc pm an cdv ct), osl⟩) (c : PySem.W.codeIn K cdv x = true) (k : PySem.W.keepIn K (.ref f) = true)
    (hb : ∀ (kV doc pm : Value) (an : Option Addr) (cdv ct : Value) (us : List Value), us.length = ps.length → bindArgs (PySem.W.fnOf x x (defArgs st) (defBody st) (defScope st) .none kV doc pm an cdv ct) ⟨us, []⟩ = pure (ps.zip us)) : DefAt K mg x st ps :=
  ⟨f, _, fun_mk l c k, PySem.W.mg_of X G a, (fun_mk l c k).binds hb⟩
end
end Td

set_option Elab.async false
set_option linter.all false
set_option maxRecDepth 100000
set_option maxHeartbeats 4000000
namespace Td
open PySem L2 PyProof.Rows
/-! ### texts: rising, each once -/
noncomputable def leS (a b : Str) : Bool := !(PySem.Spec.ltCps b.cps.toList a.cps.toList)
noncomputable def putS (x : Str) : List Str → List Str
  | [] => [x]
  | y :: l => cond (leS x y) (x :: y :: l) (y :: putS x l)
noncomputable def srtS (xs : List Str) : List Str := xs.foldr putS []
theorem leS_iff {a b : Str} : leS a b = true ↔ a.cps.toList ≤ b.cps.toList := by
  unfold leS
  rw [ltCps_eq, Bool.not_eq_true', decide_eq_false_iff_not]
  exact Iff.rfl
theorem leS_tot (a b : Str) : leS a b = true ∨ leS b a = true := by
  rw [leS_iff, leS_iff]
  exact List.le_total ..
theorem leS_tr {a b c : Str} (h1 : leS a b = true) (h2 : leS b c = true) : leS a c = true := by
  rw [leS_iff] at *
  exact List.le_trans h1 h2
theorem leS_anti {a b : Str} (h1 : leS a b = true) (h2 : leS b a = true) : a = b := by
  rw [leS_iff] at *
  have e := List.le_antisymm h1 h2
  obtain ⟨⟨x⟩⟩ := a
  obtain ⟨⟨y⟩⟩ := b
  cases e
  rfl
theorem putS_perm (x : Str) : ∀ l, (putS x l).Perm (x :: l)
  | [] => List.Perm.refl _
  | y :: l => by
    unfold putS
    cases leS x y with
    | true => exact List.Perm.refl _
    | false => exact ((putS_perm x l).cons y).trans (List.Perm.swap x y l)
theorem putS_srt (x : Str) : ∀ l, l.Pairwise (leS · · = true) → (putS x l).Pairwise (leS · · = true)
  | [], _ => List.pairwise_singleton ..
  | y :: l, h => by
    obtain ⟨h1, h2⟩ := List.pairwise_cons.mp h
    unfold putS
    cases c : leS x y with
    | true =>
      refine List.pairwise_cons.mpr ⟨fun z hz => ?_, h⟩
      rcases List.mem_cons.mp hz with rfl | hz
      · exact c
      · exact leS_tr c (h1 z hz)
    | false =>
      refine List.pairwise_cons.mpr ⟨fun z hz => ?_, putS_srt x l h2⟩
      rcases List.mem_cons.mp ((putS_perm x l).mem_iff.mp hz) with rfl | hz
      · rcases leS_tot z y with q | q
        · rw [c] at q; cases q
        · exact q
      · exact h1 z hz
theorem srtS_perm : ∀ l, (srtS l).Perm l
  | [] => List.Perm.refl _
  | x :: l => (putS_perm x (srtS l)).trans ((srtS_perm l).cons x)
theorem srtS_srt : ∀ l, (srtS l).Pairwise (leS · · = true)
  | [] => List.Pairwise.nil
  | x :: l => putS_srt x _ (srtS_srt l)
theorem pw_of_risingS : ∀ (p : Str) (l : List Str), risingS p l = true → (p :: l).Pairwise (leS · · = true)
  | p, [], _ => List.pairwise_singleton ..
  | p, x :: r, h => by
    have h' : (!PySem.Spec.ltCps x.cps.toList p.cps.toList && risingS x r) = true := h
    rw [Bool.and_eq_true] at h'
    have ih := pw_of_risingS x r h'.2
    refine List.pairwise_cons.mpr ⟨fun z hz => ?_, ih⟩
    rcases List.mem_cons.mp hz with rfl | hz
    · exact h'.1
    · exact leS_tr h'.1 ((List.pairwise_cons.mp ih).1 z hz)
theorem srtS_one {ys xs : List Str} (hp : ys.Perm xs) (hs : sortedS ys = true) : ys = srtS xs := by
  have h1 : ys.Pairwise (leS · · = true) := by
    cases ys with
    | nil => exact List.Pairwise.nil
    | cons p l => exact pw_of_risingS p l hs
  exact List.Perm.eq_of_pairwise (fun a b _ _ => leS_anti) h1 (srtS_srt xs) (hp.trans (srtS_perm xs).symm)
/-! ### the set of texts in the heap -/
noncomputable def keyT (e : Int × Value) : Str := strOf e.2
noncomputable def Tx1 (w : World) (e : Int × Value) : Prop := ∃ k u, e = (hashStr w k, Value.str k u)
structure TxS (w : World) (h : Heap) (a : Addr) (L : List Str) : Prop where
  ex : ∃ o es ep t, h.get? a = some o ∧ o.ExactSet ∧ o.data = .set es ep t ∧ (∀ e ∈ es.toList, Tx1 w e) ∧ (es.toList.map keyT).Perm L ∧ L.Nodup ∧ es.size < scanBound ∧ t.fits es.size = true ∧ Ris t.place.toList ∧ (w.params.followText "set-order" = true ∨ t.led = true)
theorem TxS.at {w : World} {h h' : Heap} {a : Addr} {L : List Str} (R : TxS w h a L) (k : ∀ o, h.get? a = some o → h'.get? a = some o) : TxS w h' a L := by
  obtain ⟨o, es, ep, t, ho, r⟩ := R.ex
  exact ⟨⟨o, es, ep, t, k o ho, r⟩⟩
theorem TxS.new {w : World} {h : Heap} {a : Addr} (ho : h.get? a = some { cls := .type "set", dict := none, data := .set #[] 0 (.fresh 0 0 (!w.params.followText "set-order")) }) : TxS w h a [] :=
  ⟨⟨_, #[], 0, _, ho, ⟨rfl, rfl, rfl⟩, rfl, (fun e he => by simp at he), .nil, .nil, (by decide), (by rfl), List.Pairwise.nil, by
    show _ ∨ (!w.params.followText "set-order") = true
    cases w.params.followText "set-order"
    · exact .inr rfl
    · exact .inl rfl⟩⟩
section
variable {P : Program} {w : World} {A : Around} {E : Value → Shared → Prop} {s : Shared} {a : Addr} {L : List Str}
end
end Td

set_option Elab.async false
set_option linter.all false
set_option maxRecDepth 100000
set_option maxHeartbeats 4000000
namespace Td
open PySem L2 PySem.Spec PyProof.Rows
/-! ### t[::-1] -/
section
variable {prog : Program} {w : World} {A : Around} {E : Value → Shared → Prop} {s : Shared}
end
section
variable {X : Cx} {W : WX}
noncomputable def strsD : List PyData → Option (List Str)
  | [] => some []
  | .str x :: r => (strsD r).map (x :: ·)
  | _ => none
theorem strsD_ok {g : Gd} : ∀ {vs : List V} {ds : List PyData} {xs : List Str}, DqA g vs ds → strsD ds = some xs → vs = xs.map V.str
  | _, _, _, .nil, h => by cases h; rfl
  | _, _, _, .cons d0 dr, h => by
    cases d0 with
    | str x =>
      simp only [strsD] at h
      cases e : strsD _ with
      | none => rw [e] at h; cases h
      | some ys =>
        rw [e] at h
        cases h
        rw [strsD_ok dr e]
        rfl
    | _ => simp [strsD] at h
theorem dqA_strs {g : Gd} : ∀ xs : List Str, DqA g (xs.map V.str) (xs.map PyData.str)
  | [] => .nil
  | x :: xs => .cons (.str x) (dqA_strs xs)
end
end Td

set_option Elab.async false
set_option linter.all false
set_option maxRecDepth 100000
set_option maxHeartbeats 4000000
namespace Td
open PySem L2
/-! ### what a reading comes to: a small logic -/
inductive wO {α : Type} (Q : α → Ws → Prop) : Oc α → Prop
  | mk {a : α} {w : Ws} (h : Q a w) : wO Q (.ok a w)
/-- N: goes on, R: returns -/
inductive wS (N : Ev → Ws → Prop) (R : PyData → Ws → Prop) : Os → Prop
  | nx {ρ : Ev} {w : Ws} (h : N ρ w) : wS N R (.nx ρ w)
  | rt {d : PyData} {w : Ws} (h : R d w) : wS N R (.rt d w)
theorem wO_ok {α : Type} {Q : α → Ws → Prop} {a : α} {w : Ws} : wO Q (.ok a w) = Q a w := propext ⟨fun h => by cases h; assumption, .mk⟩
theorem wO_xc {α : Type} {Q : α → Ws → Prop} {c : Value} {fs : List (Str × PyData)} {w : Ws} : wO Q (.ex c fs w) = False := propext ⟨fun h => (by cases h), False.elim⟩
theorem wO_no {α : Type} {Q : α → Ws → Prop} : wO Q .no = False := propext ⟨fun h => (by cases h), False.elim⟩
theorem wS_nx {N : Ev → Ws → Prop} {R : PyData → Ws → Prop} {ρ : Ev} {w : Ws} : wS N R (.nx ρ w) = N ρ w := propext ⟨fun h => by cases h; assumption, .nx⟩
theorem wS_rt {N : Ev → Ws → Prop} {R : PyData → Ws → Prop} {d : PyData} {w : Ws} : wS N R (.rt d w) = R d w := propext ⟨fun h => by cases h; assumption, .rt⟩
theorem wS_xc {N : Ev → Ws → Prop} {R : PyData → Ws → Prop} {ρ : Ev} {c : Value} {fs : List (Str × PyData)} {w : Ws} : wS N R (.ex ρ c fs w) = False := propext ⟨fun h => (by cases h), False.elim⟩
theorem wS_no {N : Ev → Ws → Prop} {R : PyData → Ws → Prop} : wS N R .no = False := propext ⟨fun h => (by cases h), False.elim⟩
theorem wO_bind {α β : Type} {Q : β → Ws → Prop} {x : Oc α} {f : α → Ws → Oc β} : wO Q (x.bind f) = wO (fun a w => wO Q (f a w)) x := by cases x <;> simp only [Oc.bind, wO_ok, wO_xc, wO_no]
theorem wO_mono {α : Type} {Q Q' : α → Ws → Prop} {x : Oc α} (h : wO Q x) (i : ∀ a w, Q a w → Q' a w) : wO Q' x := by
  cases h with
  | mk h => exact .mk (i _ _ h)
theorem wO_some {α : Type} {Q : α → Ws → Prop} {a : α} {w : Ws} : wO Q (Oc.of (some a) w) = Q a w := wO_ok
theorem wO_ex {α : Type} {Q : α → Ws → Prop} {x : Oc α} : wO Q x ↔ ∃ a w, x = .ok a w ∧ Q a w := by
  exact ⟨fun h => by cases h with | mk h => exact ⟨_, _, rfl, h⟩, fun ⟨_, _, e, q⟩ => by subst e; exact .mk q⟩
variable {Q : PyData → Ws → Prop} {QA : List PyData → Ws → Prop} {QT : Bool → Ws → Prop} {N : Ev → Ws → Prop} {R : PyData → Ws → Prop} {ρ : Ev} {w : Ws}
theorem wS_then {α : Type} {x : Oc α} {k : α → Ws → Os} : wS N R (x.thenS ρ k) = wO (fun a w1 => wS N R (k a w1)) x := by cases x <;> simp only [Oc.thenS, wO_ok, wO_xc, wO_no, wS_xc, wS_no]
theorem wS_Seq {f k : FS} (h : wS (fun ρ1 w1 => wS N R (k ρ1 w1)) R (f ρ w)) : wS N R (sSeq f k ρ w) := by
  unfold sSeq
  cases e : f ρ w with
  | nx ρ1 w1 => rw [e, wS_nx] at h; exact h
  | rt d w1 => rw [e, wS_rt] at h; exact .rt h
  | _ => rw [e] at h; cases h
theorem wS_Asg {f : FE} {i : Nat} : wS N R (sAsg f (gN i) ρ w) = wO (fun d w1 => N (ρ.set i (some d)) w1) (f ρ w) := by simp only [sAsg, wS_then, gN, wS_nx]
/-- a for loop, by what holds before each round -/
theorem wS_forL {gt : FG} {body : FS} (J : Nat → Ev → Ws → Prop) : ∀ (ds : List PyData) (i : Nat) (ρ : Ev) (w : Ws), J i ρ w →
    (∀ j d ρ w, ds[j]? = some d → J (i + j) ρ w → wO (fun ρ1 w1 => wS (J (i + j + 1)) R (body ρ1 w1)) (gt d ρ w)) →
    (∀ ρ w, J (i + ds.length) ρ w → N ρ w) → wS N R (forL gt body ds ρ w)
  | [], i, ρ, w, hJ, _, hN => by unfold forL; exact .nx (hN ρ w hJ)
  | d :: ds, i, ρ, w, hJ, hs, hN => by
    have h0 := hs 0 d ρ w rfl hJ
    unfold forL
    cases e : gt d ρ w with
    | ok ρ1 w1 =>
      rw [e, wO_ok] at h0
      have h0 : wS (J (i + 0 + 1)) R (body ρ1 w1) := h0
      have ih : ∀ ρ2 w2, J (i + 1) ρ2 w2 → wS N R (forL gt body ds ρ2 w2) := fun ρ2 w2 hj => wS_forL J ds (i + 1) ρ2 w2 hj
        (fun j d' ρ' w' hd hj' => by
          have := hs (j + 1) d' ρ' w' hd (by rw [show i + (j + 1) = i + 1 + j by omega]; exact hj')
          rw [show i + (j + 1) + 1 = i + 1 + j + 1 by omega] at this
          exact this)
        (fun ρ' w' hj' => hN ρ' w' (by rw [List.length_cons, show i + (ds.length + 1) = i + 1 + ds.length by omega]; exact hj'))
      cases e2 : body ρ1 w1 with
      | nx ρ2 w2 => rw [e2, wS_nx] at h0; simp only [e2]; exact ih ρ2 w2 h0
      | rt d w2 => rw [e2, wS_rt] at h0; simp only [e2]; exact .rt h0
      | _ => rw [e2] at h0; cases h0
    | _ => rw [e] at h0; cases h0
/-- a comprehension, by what holds of what is gathered -/
theorem wA_lcL {gt : FG} {tt : FT} {fe : FE} (J : Nat → List PyData → Ws → Prop) : ∀ (ds : List PyData) (i : Nat) (w : Ws) (acc : List PyData), acc.length + ds.length ≤ sizeLine → J i acc w →
    (∀ j d acc w, ds[j]? = some d → J (i + j) acc w → wO (fun ρ1 w1 => wO (fun b w2 => cond b (wO (fun y w3 => J (i + j + 1) (acc ++ [y]) w3) (fe ρ1 w2)) (J (i + j + 1) acc w2)) (tt ρ1 w1)) (gt d ρ w)) →
    (∀ acc w, J (i + ds.length) acc w → QA acc w) → wO QA (lcL gt tt fe ρ ds w acc)
  | [], i, w, acc, _, hJ, _, hN => .mk (hN acc w hJ)
  | d :: ds, i, w, acc, hz, hJ, hs, hN => by
    have h0 := hs 0 d acc w rfl hJ
    have hz' : acc.length + (ds.length + 1) ≤ sizeLine := hz
    have ih : ∀ acc2 w2, acc2.length ≤ acc.length + 1 → J (i + 1) acc2 w2 → wO QA (lcL gt tt fe ρ ds w2 acc2) := fun acc2 w2 hl hj => wA_lcL J ds (i + 1) w2 acc2 (by omega) hj
      (fun j d' a' w' hd hj' => by
        have := hs (j + 1) d' a' w' hd (by rw [show i + (j + 1) = i + 1 + j by omega]; exact hj')
        rw [show i + (j + 1) + 1 = i + 1 + j + 1 by omega] at this
        exact this)
      (fun a' w' hj' => hN a' w' (by rw [List.length_cons, show i + (ds.length + 1) = i + 1 + ds.length by omega]; exact hj'))
    unfold lcL
    cases e : gt d ρ w with
    | ok ρ1 w1 =>
      rw [e, wO_ok] at h0
      have h0 : wO (fun b w2 => cond b (wO (fun y w3 => J (i + 1) (acc ++ [y]) w3) (fe ρ1 w2)) (J (i + 1) acc w2)) (tt ρ1 w1) := h0
      cases e2 : tt ρ1 w1 with
      | ok b w2 =>
        rw [e2, wO_ok] at h0
        cases b with
        | true =>
          have h0 : wO (fun y w3 => J (i + 1) (acc ++ [y]) w3) (fe ρ1 w2) := h0
          cases e3 : fe ρ1 w2 with
          | ok y w3 =>
            rw [e3, wO_ok] at h0
            simp only [e2, e3]
            rw [if_pos (by omega)]
            exact ih _ _ (by rw [List.length_append]; exact Nat.le_refl _) h0
          | _ => rw [e3] at h0; cases h0
        | false =>
          simp only [e2]
          exact ih _ _ (by omega) h0
      | _ => rw [e2] at h0; cases h0
    | _ => rw [e] at h0; cases h0
end Td

set_option Elab.async false
set_option linter.all false
set_option maxRecDepth 100000
set_option maxHeartbeats 4000000
namespace Td
open PySem L2
/-! ### the store grows, a cell is given out -/
noncomputable def Gd.al (g : Gd) (D : Addr) : Gd := { g with μ := fun l => if l = g.n then D else g.μ l, n := g.n + 1 }
theorem Gd.al_xt {g : Gd} {D : Addr} : Xt g (g.al D) := ⟨alloc_xt (P := g.P), rfl⟩
theorem Gd.al_ref {g : Gd} {D : Addr} : Dq (g.al D) (.ref D) (rf g.n) := alloc_ref (P := g.P)
theorem Rp.pnone {g : Gd} {H : Hp} {w : Ws} (r : Rp g H w) {D : Addr} (hD : H D = none) : g.P D = none := by
  cases h : g.P D with
  | none => rfl
  | some o => rw [(r.pin D o h).1] at hD; cases hD
theorem Rp.alloc {g : Gd} {H : Hp} {w : Ws} (r : Rp g H w) {D : Addr} {o : HO} {ob : Ob} (hD : H D = none) (hno : ∀ a, o ≠ .own a) (ho : ObR (g.al D) (upd H D o) D ob) : Rp (g.al D) (upd H D o) (w ++ [ob]) := by
  have z := pin_alloc (P := g.P) (o' := o) (ob := ob) (pin_new r hD o) rfl hno (r.pnone hD) (by rw [upd_upd]; exact ho)
  rw [upd_upd] at z
  exact z
/-- an object that is not tracked -/
theorem Rp.skip {g : Gd} {H : Hp} {w : Ws} (r : Rp g H w) {p : Addr} {o : HO} (h : H p = none) : Rp g (upd H p o) w where
  fro := fun a u e => by rw [upd_ne (ne_of_none e (r.fnone h))]; exact r.fro a u e
  len := r.len
  cell := fun l ob e => (r.cell l ob e).new (Xt.refl g).toXt0 fun b hb => by
    have nb : b ≠ p := fun z => by subst z; rw [h] at hb; cases hb
    exact ⟨rfl, upd_ne nb⟩
  inj := r.inj
  pin := fun a u e => by
    obtain ⟨h1, h2, h3⟩ := r.pin a u e
    have na : a ≠ p := fun z => by subst z; rw [h] at h1; cases h1
    exact ⟨by rw [upd_ne na]; exact h1, h2, h3⟩
  tab := fun q hq => by
    obtain ⟨t1, t2, t3⟩ := r.tab q hq
    exact ⟨t1.up (fun _ _ e => e) (upd_ne (r.tab.ne0 hq h)), t2, t3⟩
noncomputable def Gd.fz (g : Gd) (p : Addr) (o : HO) : Gd := { g with F := upd g.F p o }
theorem Rp.freeze {g : Gd} {H : Hp} {w : Ws} (r : Rp g H w) {l : Nat} {ds : List PyData} (hl : w[l]? = some (.lst ds)) :
    ∃ g', Xt g g' ∧ Rp g' H (w.set l .dead) ∧ Dq g' (.ref (g.μ l)) (.list ds) := by
  obtain ⟨hn, xs, hx, dx⟩ := r.cell l _ hl
  have hlt : l < g.n := by rw [r.len]; exact (List.getElem?_eq_some_iff.mp hl).1
  have X : Xt g (g.fz (g.μ l) (.lst xs)) := Xt.put hn
  refine ⟨_, X, ⟨fun a u e => ?_, by rw [List.length_set]; exact r.len, fun m ob e => ?_, r.inj, fun a u e => ?_, fun p hp => by
    obtain ⟨t1, t2, t3⟩ := r.tab p hp
    have ne := r.tab.ne hp fun ps z => by rw [hx] at z; cases z
    exact ⟨t1.up X.ex rfl, (upd_ne ne).trans t2, t3⟩⟩, .lst (SqL.of upd_same) (dx.mono X.toXt0 _ _)⟩
  · have e : upd g.F (g.μ l) (.lst xs) a = some u := e
    by_cases q : a = g.μ l
    · subst q; rw [upd_same] at e; exact hx.trans e
    · rw [upd_ne q] at e; exact r.fro a u e
  · by_cases q : l = m
    · subst q
      rw [List.getElem?_set_self (by rw [← r.len]; exact hlt)] at e
      cases e
      exact ⟨_, hx⟩
    · rw [List.getElem?_set_ne q] at e
      have hm : m < g.n := by rw [r.len]; exact (List.getElem?_eq_some_iff.mp e).1
      have nm : g.μ m ≠ g.μ l := fun z => q (r.inj m l hm hlt z).symm
      have c := r.cell m ob e
      cases ob with
      | lst es => obtain ⟨a, b, c, d⟩ := c; exact ⟨(upd_ne nm).trans a, b, c, d.mono X.toXt0 _ _⟩
      | dK es => obtain ⟨a, b, c, d⟩ := c; exact ⟨(upd_ne nm).trans a, b, c, d.mono X.toXt0⟩
      | ins k es =>
        obtain ⟨a, dx', gs, ⟨C', hC, h⟩, hd, hn2, d⟩ := c
        have nx : dx' ≠ g.μ l := fun z => by rw [z, hx] at hd; cases hd
        exact ⟨(upd_ne nm).trans a, dx', gs, ⟨C', hC, h⟩, hd, (upd_ne nx).trans hn2, d.mono X.toXt0⟩
      | dead => exact c
  · obtain ⟨q1, q2, q3⟩ := r.pin a u e
    exact ⟨q1, (upd_ne (fun z => q3 l hlt z.symm)).trans q2, q3⟩
/-- slot i: the list of the store is one of data from now on -/
noncomputable def fzD (w : Ws) (d : PyData) : Option (PyData × Ws) := match locOf d with
  | some l => match w[l]? with
    | some (.lst ds) => some (.list ds, w.set l .dead)
    | _ => none
  | none => none
theorem locOf_ok {g : Gd} {v : V} {d : PyData} {l : Nat} (h : Dq g v d) (e : locOf d = some l) : v = .ref (g.μ l) ∧ d = rf l ∧ l < g.n := by
  cases h with
  | @ref m hm =>
    have : m = l := by simpa [locOf] using e
    subst this
    exact ⟨rfl, rfl, hm⟩
  | _ => cases e
theorem fzD_ok {g : Gd} {H : Hp} {w w' : Ws} {v : V} {d d' : PyData} (r : Rp g H w) (h : Dq g v d) (e : fzD w d = some (d', w')) : ∃ g', Xt g g' ∧ Rp g' H w' ∧ Dq g' v d' := by
  unfold fzD at e
  split at e
  · rename_i l hl
    split at e
    · rename_i ds hd
      cases e
      obtain ⟨rfl, rfl, _⟩ := locOf_ok h hl
      exact r.freeze hd
    · cases e
  · cases e
noncomputable def sFz (i : Nat) : FS := fun ρ w => match ρ[i]? with
  | some (some d) => match fzD w d with
    | some (d', w') => .nx (ρ.set i (some d')) w'
    | none => .no
  | _ => .no
section
variable {X : Cx} {W : WX}
theorem sFz_nx {i : Nat} {ρ : Ev} {w : Ws} : sFz i ρ w = .no ∨ ∃ d d' w', ρ[i]? = some (some d) ∧ fzD w d = some (d', w') ∧ sFz i ρ w = .nx (ρ.set i (some d')) w' := by
  unfold sFz
  split
  · rename_i d hd
    split
    · rename_i d' w' hf
      exact .inr ⟨d, d', w', hd, hf, rfl⟩
    · exact .inl rfl
  · exact .inl rfl
theorem pssf_fz {i : Nat} {rest : List Stmt} {k : FS} (h : PSsf X W rest k) : PSsf X W rest (sSeq (sFz i) k) := by
  refine pss_imp h fun D σ H ⟨g, ρ, w, hK, r, e, q⟩ => ?_
  unfold sSeq at q
  rcases sFz_nx (i := i) (ρ := ρ) (w := w) with z | ⟨d, d', w', hd, hf, z⟩
  · rw [z] at q; exact q.elim
  · rw [z] at q
    obtain ⟨v, hv, dv⟩ := e.at_ i d hd
    obtain ⟨g', x, r', dv'⟩ := fzD_ok r dv hf
    refine ⟨g', _, _, x.k.trans hK, r', ?_, oSt.mono x q⟩
    have e' := (e.mono x.toXt0).set i dv'
    have es : σ.set i (some v) = σ := by
      refine List.ext_getElem? fun j => ?_
      by_cases hj : i = j
      · subst hj
        have hi : i < σ.length := (List.getElem?_eq_some_iff.mp hv).1
        rw [List.getElem?_set_self hi, hv]
      · rw [List.getElem?_set_ne hj]
    rw [es] at e'
    exact e'
/-- an expression whose list of the store is given out as data -/
noncomputable def eFz (f : FE) : FE := fun ρ w => (f ρ w).bind fun d w1 => match fzD w1 d with
  | some (d', w') => .ok d' w'
  | none => .no
theorem pf_fz {e : Expr} {f : FE} (h : PF X W e f) : PF X W e (eFz f) := by
  refine pe_imp h fun σ H Q ⟨g, ρ, w, hK, r, e, q⟩ => ?_
  refine lX_bind hK r e q fun v H1 g1 d w1 x r1 e1 dv z => ?_
  split at z
  · rename_i d' w' hf
    obtain ⟨g', x', r', dv'⟩ := fzD_ok r1 dv hf
    exact z v H1 g' x' r' dv'
  · exact z.elim

/-! ### new lists of the store -/
noncomputable def eLstS (fa : FA) : FE := fun ρ w => (fa ρ w).bind fun ds w1 => Oc.on (szOk ds.length) (.ok (rf w1.length) (w1 ++ [.lst ds]))
theorem newS {g : Gd} {H : Hp} {w : Ws} {vs : List V} {ds : List PyData} (r : Rp g H w) {p : Addr} (hp : H p = none) (d : DqA g vs ds) : Rp (g.al p) (upd H p (.lst vs)) (w ++ [.lst ds]) ∧ Dq (g.al p) (.ref p) (rf w.length) := by
  refine ⟨r.alloc hp (fun a z => nomatch z) ⟨r.fnone hp, vs, upd_same, d.mono Gd.al_xt.toXt0 _ _⟩, ?_⟩
  rw [← r.len]
  exact Gd.al_ref
theorem pf_lstS {es : List Expr} {fa : FA} {pos : Pos} (h : PAf X W es fa) : PF X W (.List es pos) (eLstS fa) := by
  refine pe_imp (pe_lst h) fun σ H Q ⟨g, ρ, w, hK, r, e, q⟩ => ?_
  refine lX_bind hK r e q fun vs H1 g1 ds w1 x r1 e1 d z => ?_
  obtain ⟨hb, z⟩ := z.on
  refine ⟨by rw [d.length]; exact of_decide_eq_true hb, fun p hp => ?_⟩
  obtain ⟨h1, h2⟩ := newS r1 hp d
  exact z _ _ _ Gd.al_xt h1 h2

/-! ### a list of the store is changed -/
noncomputable def updL (w : Ws) (o : PyData) (k : List PyData → Option (PyData × List PyData)) : Option (PyData × Ws) := match locOf o with
  | some l => match w[l]? with
    | some (.lst xs) => match k xs with
      | some (d, ys) => some (d, w.set l (.lst ys))
      | none => none
    | _ => none
  | none => none
theorem updL_ok {g : Gd} {H : Hp} {w w' : Ws} {v : V} {o d : PyData} {k : List PyData → Option (PyData × List PyData)} (r : Rp g H w) (h : Dq g v o) (e : updL w o k = some (d, w')) :
    ∃ p xs ds ys, v = .ref p ∧ H p = some (.lst xs) ∧ DqA g xs ds ∧ k ds = some (d, ys) ∧ ∀ ys', DqA g ys' ys → Rp g (upd H p (.lst ys')) w' := by
  unfold updL at e
  split at e
  · rename_i l hl
    split at e
    · rename_i ds hd
      split at e
      · rename_i d' ys hk
        cases e
        obtain ⟨rfl, rfl, _⟩ := locOf_ok h hl
        obtain ⟨hn, xs, hx, dx⟩ := r.cell l _ hd
        refine ⟨_, xs, ds, ys, rfl, hx, dx, hk, fun ys' dy => r.write hd hn (fun a b hb z => ?_) ⟨hn, _, upd_same, dy⟩⟩
        rw [hx] at hb; cases hb; cases z
      · cases e
    · cases e
  · cases e
/-- a method of lists: what it gives, the list behind it -/
noncomputable def MtL (X : Cx) (id : String) (r : List PyData → List PyData → Option (PyData × List PyData)) : Prop :=
  ∃ rr, MtM X id rr ∧ ∀ (g : Gd) (xs vs : List V) (ds as ys : List PyData) (d : PyData), DqA g xs ds → DqA g vs as → r ds as = some (d, ys) →
    ∃ v ys', Dq g v d ∧ DqA g ys' ys ∧ ∀ (H : Hp) (p : Addr) (Q : VK), H p = some (.lst xs) → Q v (upd H p (.lst ys')) → rr (.ref p) vs H Q
noncomputable def eLm (r : List PyData → List PyData → Option (PyData × List PyData)) (fo : FE) (fa : FA) : FE := fun ρ w => (fo ρ w).bind fun o w1 => Oc.on (lstOf w1 o).isSome ((fa ρ w1).bind fun as w2 => match updL w2 o (fun xs => r xs as) with
  | some (d, w3) => .ok d w3
  | none => .no)
theorem pf_lm {id : String} {name : Str} {r : List PyData → List PyData → Option (PyData × List PyData)} {o e : Expr} {es : List Expr} {fo : FE} {fa : FA} {apos cpos : Pos} (slot : Slot "list" name id) (hty : typeOf (.builtin id) = pure (.type "method_descriptor")) (hm : MtL X id r) (ho : PF X W o fo) (ha : PAf X W (e :: es) fa)
    (hbase : attributeBase o name X.env (eval o X.env) = eval o X.env := by rfl) (hfew : ((backTo cpos (starEach (e :: es) X.env)).all (fun x => !x.1) && (backToKw cpos (keywordEach [] X.env)).all (fun x => x.1.isSome) && decide ((e :: es).length + ([] : List Keyword).length + (if ([] : List Keyword).isEmpty then 0 else 1) < 30)) = true := by rfl)
    (hline : (apos.endLine == cpos.line) = true := by rfl) (hs : starEach (e :: es) X.env = (false, eval e X.env) :: starEach es X.env := by rfl)
    (hplain : (backTo cpos (starEach es X.env)).any (·.1) = false := by rfl) :
    PF X W (.Call (.Attribute o name apos) (e :: es) [] cpos) (eLm r fo fa) := by
  obtain ⟨rr, hm, hr⟩ := hm
  refine pe_imp (pe_bm PySem.F.plainAttrs_list slot hty hm ho ha hbase hfew hline hs hplain) fun σ H Q ⟨g, ρ, w, hK, r, e, q⟩ => ?_
  refine lX_bind hK r e q fun v H1 g1 d w1 x r1 e1 dv z => ?_
  obtain ⟨hb, z⟩ := z.on
  obtain ⟨ds, hds⟩ := Option.isSome_iff_exists.mp hb
  obtain ⟨a, xs, rfl, sq, da⟩ := lstOf_ok r1 dv hds
  have hK1 := x.k.trans hK
  refine ⟨.inl ⟨rfl, xs, hK1 ▸ sq⟩, ?_⟩
  refine lX_bind hK1 r1 e1 z fun vs H2 g2 as w2 x2 r2 e2 dvs z2 => ?_
  split at z2
  · rename_i d' w3 hu
    obtain ⟨p, xs2, ds2, ys, ep, hp, dx2, hk, hw⟩ := updL_ok r2 (dv.mono x2.toXt0 _ _) hu
    obtain ⟨v', ys', dv', dy', hfin⟩ := hr g2 xs2 vs ds2 as ys d' dx2 dvs hk
    rw [ep]
    exact hfin H2 p Q hp (z2 _ _ g2 (Xt.refl _) (hw ys' dy') dv')
  · exact z2.elim
noncomputable def apL : List PyData → List PyData → Option (PyData × List PyData)
  | xs, [d] => if xs.length < sizeLine then some (.none, xs ++ [d]) else none
  | _, _ => none
theorem mtL_append : MtL X "list.append" apL := by
  refine ⟨rAppend, mt_append, fun g xs vs ds as ys d dx da e => ?_⟩
  unfold apL at e
  split at e
  · split at e
    · rename_i hz
      cases e
      cases da with
      | cons h t =>
        cases t
        exact ⟨.non, _, .non, dx.append (.cons h .nil), fun H p Q hp q => ⟨p, xs, _, rfl, rfl, hp, by rw [dx.length]; exact hz, q⟩⟩
    · cases e
  · cases e
noncomputable def ppL : List PyData → List PyData → Option (PyData × List PyData)
  | xs, [] => match xs[xs.length - 1]? with
    | some d => some (d, xs.dropLast)
    | none => none
  | _, _ => none
theorem DqA.dropLast {g : Gd} {vs : List V} {ds : List PyData} (h : DqA g vs ds) : DqA g vs.dropLast ds.dropLast := by
  rw [List.dropLast_eq_take, List.dropLast_eq_take, h.length]
  exact h.take _
noncomputable def paL : List PyData → List PyData → Option (PyData × List PyData)
  | xs, [.int i] => if -(2 ^ 63) ≤ i ∧ i < 2 ^ 63 then match seqIndex? i xs.length with
      | some k => match xs[k]? with
        | some d => some (d, xs.eraseIdx k)
        | none => none
      | none => none
    else none
  | _, _ => none
theorem DqA.eraseIdx {g : Gd} : ∀ {vs : List V} {ds : List PyData} (k : Nat), DqA g vs ds → DqA g (vs.eraseIdx k) (ds.eraseIdx k)
  | _, _, _, .nil => .nil
  | _, _, 0, .cons _ t => t
  | _, _, k + 1, .cons h t => .cons h (DqA.eraseIdx k t)
theorem mtL_popAt : MtL X "list.pop" paL := by
  refine ⟨rPopAt, mt_popAt, fun g xs vs ds as ys d dx da e => ?_⟩
  unfold paL at e
  split at e
  · rename_i i
    split at e
    · rename_i hi
      split at e
      · rename_i k hk
        split at e
        · rename_i d' hd
          cases e
          cases da with
          | cons h t =>
            cases t; cases h
            obtain ⟨v, hv, dv⟩ := dx.get hd
            rw [← dx.length] at hk
            exact ⟨v, _, dv, dx.eraseIdx k, fun H p Q hp q => ⟨p, xs, i, k, v, rfl, rfl, hp, hi.1, hi.2, hk, hv, q⟩⟩
        · cases e
      · cases e
    · cases e
  · cases e

/-! ### xs[i] = v -/
theorem DqA.set {g : Gd} : ∀ {vs : List V} {ds : List PyData} (j : Nat) {v : V} {d : PyData}, DqA g vs ds → Dq g v d → DqA g (vs.set j v) (ds.set j d)
  | _, _, _, _, _, .nil, _ => .nil
  | _, _, 0, _, _, .cons _ t, h => .cons h t
  | _, _, j + 1, _, _, .cons a t, h => .cons a (DqA.set j t h)
noncomputable def gIx (fo fi : FE) : FG := fun d ρ w => (fo ρ w).bind fun o w1 => (fi ρ w1).bind fun i w2 => match i with
  | .int k => match updL w2 o (fun xs => (ixN xs.length k).map fun j => (.none, xs.set j d)) with
    | some (_, w3) => .ok ρ w3
    | none => .no
  | _ => .no
theorem pgf_ix {o i : Expr} {pos : Pos} {fo fi : FE} (ho : PF X W0 o fo) (hi : PF X W0 i fi)
    (ha : ∀ v, assign (.Subscript o i pos) X.env v = (do let ov ← holding [v] (eval o X.env); let iv ← holding [v, ov] (eval i X.env); standAt pos; holding [v, ov, iv] (setItem ov iv v); release [v, ov, iv] []) := by intro _; rfl) : PGf X [] (.Subscript o i pos) (gIx fo fi) := by
  refine pg_imp (pg_sub ho hi set_list ha) fun v σ H Q ⟨g, ρ, w, d, hK, r, e, dv, q⟩ => ?_
  have q' : oX W0 σ (fun g' (_ : Unit) ρ' => EnR g' σ ρ') g (fun _ H' => Q σ H') (gIx fo fi d ρ w) := by
    cases hz : gIx fo fi d ρ w with
    | ok ρ' w' => rw [hz] at q; exact fun _ H' g' x r' e' => q σ H' g' x r' e' (Sm.refl _ _)
    | ex c fs w' => rw [hz] at q; exact q.elim
    | no => rw [hz] at q; exact q
  refine lX_bind hK r e q' fun vo H1 g1 o' w1 x r1 e1 dvo z => ?_
  refine lX_bind (x.k.trans hK) r1 e1 z fun vi H2 g2 i' w2 x2 r2 e2 dvi z2 => ?_
  split at z2
  · rename_i k
    split at z2
    · rename_i d' w3 hu
      obtain ⟨p, xs, ds, ys, rfl, hp, dx, hk, hw⟩ := updL_ok r2 (dvo.mono x2.toXt0 _ _) hu
      obtain ⟨j, hj, ej⟩ := Option.map_eq_some_iff.mp hk
      cases ej
      cases dvi
      have dv2 := dv.mono (x.toXt0.trans x2.toXt0) _ _
      refine ⟨p, xs, k, j, rfl, rfl, hp, by rw [dx.length]; exact hj, ?_⟩
      exact z2 () _ g2 (Xt.refl _) (hw _ (dx.set j dv2)) e2
    · exact z2.elim
  · exact z2.elim

/-! ### while -/
noncomputable def whL (t : FT) (body : FS) : Nat → FS
  | 0 => fun _ _ => .no
  | n + 1 => fun ρ w => (t ρ w).thenS ρ fun b w1 => cond b (match body ρ w1 with
    | .nx ρ2 w2 => whL t body n ρ2 w2
    | .ct ρ2 w2 => whL t body n ρ2 w2
    | .bk ρ2 w2 => .nx ρ2 w2
    | o => o) (.nx ρ w1)
noncomputable def sWh (t : FT) (body : FS) : FS := whL t body 1000000
theorem psf_while {c : Expr} {body : List Stmt} {pos : Pos} {t : FT} {fb : FS} (hp : PassesOwn (model X.prog X.w) X.A X.env X.xe) (hc : PTf X W c t) (hb : PSsf X W body fb) : PSf X W (.While c body [] pos) (sWh t fb) := by
  refine ps_imp (ps_while hp hc hb) fun D σ H ⟨g, ρ, w, hK, r, e, q⟩ => ?_
  refine ⟨fun m σ' H' => ∃ g' ρ' w', Xt g g' ∧ Rp g' H' w' ∧ EnR g' σ' ρ' ∧ oSt W g' D (whL t fb m ρ' w'), ⟨1000000, g, ρ, w, Xt.refl _, r, e, q⟩, ?_⟩
  rintro m σ' H' ⟨g', ρ', w', x', r', e', z'⟩
  cases m with
  | zero => exact z'.elim
  | succ m =>
    refine lX_then (x'.k.trans hK) r' e' z' fun v H1 g1 d w1 x r1 e1 dv z => ?_
    subst dv
    have up := x'.trans x
    cases v with
    | true =>
      refine iteT ⟨fun σ2 H2 => ∃ g2 ρ2 w2, Xt g g2 ∧ Rp g2 H2 w2 ∧ EnR g2 σ2 ρ2 ∧ oSt W g2 D (whL t fb m ρ2 w2), fun σ2 H2 n => ⟨m, Nat.lt_succ_self _, n⟩, g1, ρ', w1, up.k.trans hK, r1, e1, ?_⟩
      simp only [cond] at z
      cases hb' : fb ρ' w1 with
      | nx ρ2 w2 =>
        rw [hb'] at z
        exact fun σ4 H4 g4 x4 r4 e4 => ⟨g4, ρ2, w2, up.trans x4, r4, e4, oSt.mono x4 z⟩
      | ct ρ2 w2 =>
        rw [hb'] at z
        exact fun σ4 H4 g4 x4 r4 e4 => ⟨g4, ρ2, w2, up.trans x4, r4, e4, oSt.mono x4 z⟩
      | bk ρ2 w2 => rw [hb'] at z; exact z
      | rt d w2 => rw [hb'] at z; exact z
      | ex ρ2 c fs w2 => rw [hb'] at z; exact z
      | no => rw [hb'] at z; exact z
    | false => exact iteF (z _ _ _ (Xt.refl _) r1 e1)

/-! ### == [], != [] -/
noncomputable def eqL (w : Ws) (d e : PyData) : Option PyData := match lstOf w d, lstOf w e with
  | some xs, some [] => some (.bool xs.isEmpty)
  | _, _ => none
theorem op_eqL (hu : X.A.units + 64 < cLine) : OpR X (compareOp .Eq) (rD2 X.K eqL) := by
  intro pins s σ H x y v u Q I rx ry ⟨g, w, d, e, z, hK, r, dx, dy, hz, q⟩
  unfold eqL at hz
  split at hz
  · rename_i ds h1 h2
    cases hz
    obtain ⟨a, xs, rfl, sq, da⟩ := lstOf_ok r dx h1
    obtain ⟨b, ys, rfl, sq2, db⟩ := lstOf_ok r dy h2
    cases db; cases rx; cases ry
    obtain ⟨its, rv, pl, _⟩ := I.list (hK ▸ sq)
    obtain ⟨its2, rv2, pl2, _⟩ := I.list (hK ▸ sq2)
    have e2 : its2 = [] := by have := rv2.length; exact List.length_eq_zero_iff.mp this.symm
    subst e2
    have hl := rv.length
    have fin := q (.bl ds.isEmpty) H g (Xt.refl g) r (.bl _)
    cases its with
    | nil =>
      have e0 : ds = [] := by rw [da.length] at hl; exact List.length_eq_zero_iff.mp hl
      subst e0
      exact SeqAt.eq_listAt (e := fun _ => true) pl.isList pl2.isList rfl (by omega) (fun j h1 _ => absurd h1 (by simp)) ⟨.bl true, H, I, rfl, fin⟩
    | cons c cs =>
      have e0 : ds.isEmpty = false := by rw [da.length] at hl; cases ds with | nil => cases hl | cons => rfl
      rw [e0] at fin
      exact SeqAt.eq_list_lengthsAt pl.isList pl2.isList (by simp) (by omega) ⟨.bl false, H, I, rfl, fin⟩
  · cases hz
end
end Td

set_option Elab.async false
set_option linter.all false
set_option maxRecDepth 100000
set_option maxHeartbeats 4000000
namespace Td
open PySem L2 PySem.Spec PyProof.Rows
/-! ### instances of the store -/
noncomputable def insOf (w : Ws) (o : PyData) (c : Str) : Option (List (Str × PyData)) := match locOf o with
  | some l => match w[l]? with
    | some (.ins c' fs) => if c' = c then some fs else none
    | _ => none
  | none => none
theorem insOf_ok {g : Gd} {H : Hp} {w : Ws} {v : V} {o : PyData} {c : Str} {fs : List (Str × PyData)} (r : Rp g H w) (h : Dq g v o) (e : insOf w o c = some fs) :
    ∃ l C dx gs, v = .ref (g.μ l) ∧ o = rf l ∧ w[l]? = some (.ins c fs) ∧ ClsAt g.K c C ∧ H (g.μ l) = some (.ins C dx gs) ∧ H dx = some (.own (g.μ l)) ∧ g.F (g.μ l) = none ∧ g.F dx = none ∧ KvR g gs fs := by
  unfold insOf at e
  split at e
  · rename_i l hl
    split at e
    · rename_i c' fs' hw
      split at e
      · rename_i hc
        cases e
        subst hc
        obtain ⟨rfl, rfl, _⟩ := locOf_ok h hl
        obtain ⟨hn, dx, gs, ⟨C, hC, h1⟩, hd, hn2, kv⟩ := r.cell l _ hw
        exact ⟨l, C, dx, gs, rfl, rfl, hw, hC, h1, hd, hn, hn2, kv⟩
      · cases e
    · cases e
  · cases e
theorem KvR.lookup {g : Gd} {f : Str} : ∀ {gs : List (Str × V)} {fs : List (Str × PyData)}, KvR g gs fs → (fs.lookup f = none → gs.lookup f = none) ∧ ∀ d, fs.lookup f = some d → ∃ v, gs.lookup f = some v ∧ Dq g v d
  | _, _, .nil => ⟨fun _ => rfl, fun d e => by cases e⟩
  | (a, v) :: gs, (b, d0) :: fs, .cons h t => by
    have hk : a = b := h.1
    subst hk
    obtain ⟨i1, i2⟩ := KvR.lookup (f := f) t
    by_cases q : (f == a) = true
    · have e1 : List.lookup f ((a, d0) :: fs) = some d0 := by rw [List.lookup_cons, q]
      have e2 : List.lookup f ((a, v) :: gs) = some v := by rw [List.lookup_cons, q]
      rw [e1, e2]
      refine ⟨fun z => (by cases z), fun d z => ?_⟩
      cases z
      exact ⟨v, rfl, h.2⟩
    · have q : (f == a) = false := by simpa using q
      have e1 : List.lookup f ((a, d0) :: fs) = List.lookup f fs := by rw [List.lookup_cons, q]
      have e2 : List.lookup f ((a, v) :: gs) = List.lookup f gs := by rw [List.lookup_cons, q]
      rw [e1, e2]
      exact ⟨i1, i2⟩
noncomputable def putFD (f : Str) (v : PyData) : List (Str × PyData) → List (Str × PyData)
  | [] => [(f, v)]
  | (g, x) :: r => if g = f then (g, v) :: r else (g, x) :: putFD f v r
theorem KvR.putF {g : Gd} {f : Str} {v : V} {d : PyData} (hd : Dq g v d) : ∀ {gs : List (Str × V)} {fs : List (Str × PyData)}, KvR g gs fs → KvR g (L2.putF f v gs) (putFD f d fs)
  | _, _, .nil => .cons ⟨rfl, hd⟩ .nil
  | (a, u) :: gs, (b, d0) :: fs, .cons h t => by
    have hk : a = b := h.1
    subst hk
    unfold L2.putF putFD
    by_cases q : a = f
    · rw [if_pos q, if_pos q]; exact .cons ⟨rfl, hd⟩ t
    · rw [if_neg q, if_neg q]; exact .cons h (KvR.putF hd t)
/-- the fields of an instance are changed -/
noncomputable def updI (w : Ws) (o : PyData) (c : Str) (k : List (Str × PyData) → Option (List (Str × PyData))) : Option Ws := match locOf o with
  | some l => match insOf w o c with
    | some fs => match k fs with
      | some fs' => some (w.set l (.ins c fs'))
      | none => none
    | none => none
  | none => none
theorem updI_ok {g : Gd} {H : Hp} {w w' : Ws} {v : V} {o : PyData} {c : Str} {k : List (Str × PyData) → Option (List (Str × PyData))} (r : Rp g H w) (h : Dq g v o) (e : updI w o c k = some w') :
    ∃ p C dx gs fs fs', v = .ref p ∧ ClsAt g.K c C ∧ H p = some (.ins C dx gs) ∧ KvR g gs fs ∧ k fs = some fs' ∧ ∀ gs', KvR g gs' fs' → Rp g (upd H p (.ins C dx gs')) w' := by
  unfold updI at e
  split at e
  · rename_i l hl
    split at e
    · rename_i fs hf
      split at e
      · rename_i fs' hk
        cases e
        obtain ⟨l', C, dx, gs, rfl, rfl, hw, hC, h1, hd, hn, hn2, kv⟩ := insOf_ok r h hf
        have el : l' = l := by simpa [locOf] using hl
        subst el
        refine ⟨_, C, dx, gs, fs, fs', rfl, hC, h1, kv, hk, fun gs' kv' => r.write hw hn (fun a b hb z => ?_) ⟨hn, dx, gs', ⟨C, hC, upd_same⟩, (upd_ne fun z => ?_).trans hd, hn2, kv'⟩⟩
        · rw [h1] at hb; cases hb; cases z
        · rw [z, h1] at hd; cases hd
      · cases e
    · cases e
  · cases e
set_option genInjectivity false in
set_option genSizeOf false in
/-- a class of the text, where it stands -/
structure ClsD (K : PySem.W.Frag) (mg : Str → Option Value) (c : Str) where
  C : Addr
  at_ : ClsAt K c C
  mg_ : mg c = some (.ref C)
  cls : Cls K C
theorem ClsAt.eq {K : PySem.W.Frag} {c : Str} {C C' : Addr} (a : ClsAt K c C) (b : ClsAt K c C') : C = C' := by
  have z := a.symm.trans b
  cases z
  rfl
section
variable {X : Cx} {W : WX} {c f : Str} {o e : Expr} {fo fe : FE} {pos : Pos}
/-- o.f = e -/
noncomputable def sFd (c f : Str) (fo fv : FE) : FS := fun ρ w => (fv ρ w).thenS ρ fun v w1 => (fo ρ w1).thenS ρ fun o w2 => match updI w2 o c (fun fs => if fs.length < 1000 then some (putFD f v fs) else none) with
  | some w3 => .nx ρ w3
  | none => .no
theorem psf_fld {pos' : Pos} (D : ClsD X.K X.mg c) (hn : NoAttr X.K D.C f) (ho : PF X W o fo) (hv : PF X W e fe) (hs : swapsWith e (some (.Attribute o f pos')) pos.line X.env = pure false := by rfl) : PSf X W (.Assign [.Attribute o f pos'] e pos) (sFd c f fo fe) := by
  refine ps_imp (ps_fld ho hv hs) fun D' σ H ⟨g, ρ, w, hK, r, e, q⟩ => ?_
  refine lX_then hK r e q fun v H1 g1 d w1 x r1 e1 dv z => ?_
  refine lX_then (x.k.trans hK) r1 e1 z fun u H2 g2 o' w2 x2 r2 e2 du z2 => ?_
  split at z2
  · rename_i w3 hu
    obtain ⟨p, C, dx, gs, fs, fs', rfl, hC, hH, kv, hk, hw⟩ := updI_ok r2 du hu
    split at hk
    · rename_i hl
      cases hk
      have eC : C = D.C := ((x2.k.trans (x.k.trans hK)) ▸ hC : ClsAt X.K c C).eq D.at_
      subst eC
      have dv2 := dv.mono x2.toXt0 _ _
      exact ⟨p, _, dx, gs, rfl, hH, D.cls, hn, by rw [kv.length]; exact hl, z2 σ _ g2 (Xt.refl _) (hw _ (kv.putF dv2)) e2⟩
    · cases hk
  · exact z2.elim
end
set_option genInjectivity false in
set_option genSizeOf false in
/-! ### methods -/
structure MethD (K : PySem.W.Frag) (mg : Str → Option Value) (c m qual : Str) (st : Stmt) (ps : List Str) (D : ClsD K mg c) where
  f : Addr
  fd : FuncData
  fn : Fun K m qual st f fd
  me : Meth K D.C m f
  bd : Binds K fd ps []
structure Gm (P : Program) (w : World) (K : PySem.W.Frag) (mg : Str → Option Value) (base : Heap) (k : Nat) (f : Addr) (fd : FuncData) (ps : List Str) (gf : FF) : Prop where
  fn : FnG P w K mg base k f fd ps gf
  len : ∀ as w, as.length ≠ ps.length → gf as w = .no
theorem Gm.mono {P : Program} {w : World} {K : PySem.W.Frag} {mg : Str → Option Value} {base : Heap} {j k : Nat} {f : Addr} {fd : FuncData} {ps : List Str} {gf : FF} (G : Gm P w K mg base j f fd ps gf) (h : j ≤ k) : Gm P w K mg base k f fd ps gf := ⟨G.fn.mono h, G.len⟩
theorem gm_no {P : Program} {w : World} {K : PySem.W.Frag} {mg : Str → Option Value} {base : Heap} {k : Nat} {f : Addr} {fd : FuncData} {ps : List Str} : Gm P w K mg base k f fd ps (fun _ _ => .no) :=
  ⟨⟨fun A outer s H args us vs Q E hr hg e0 hb hv ⟨g, w', ds, hK, r, da, hl, q⟩ => q.elim⟩, fun _ _ _ => rfl⟩
theorem gm_of {P : Program} {w : World} {K : PySem.W.Frag} {mg : Str → Option Value} {base : Heap} {x qual : Str} {st : Stmt} {f : Addr} {fd : FuncData} {N ps : List Str} {k : Nat} {bf : FS} (F : Fun K x qual st f fd) (S : FnScope N ps (defScope st))
    (hbody : ∀ (cdv : Value) (A : Around) (outer : List Env) (s : Shared) (H : Hp) (E : XK), Room k (A.deeper (envOfC qual (defScope st) s.heap.objs.size f cdv)) → A.guards = some [] →
      PSsf (cxOf (L2N.CX P w) P w K mg base N qual (defScope st) f cdv A outer s H E) (fun c d _ H => E c d H) (defBody st) bf) : Gm P w K mg base (k + 1) f fd ps (defF N.length ps.length bf) := ⟨fnG_of F S hbody, fun as w h => if_neg h⟩
section
variable {X : Cx} {W : WX} {k : Nat} {ps : List Str} {gf : FF} {c m qual : Str} {st : Stmt} {o e : Expr} {es : List Expr} {fo : FE} {fa : FA} {pos apos : Pos}
/-- what a method's call wants behind its receiver -/
theorem meth_want {σ : L2.St} {H : Hp} {Q : VK} {g : Gd} {ρ : Ev} {w : Ws} {K : PySem.W.Frag} {v : V} {o' : PyData} (hK : g.K = K) (r : Rp g H w) (e : EnR g σ ρ) (dv : Dq g v o') (hlen : ∀ as w, as.length ≠ ps.length → gf as w = .no)
    (z : oX W σ Dq g Q ((fa ρ w).bind fun as w2 => gf (o' :: as) w2)) : lA K W fa σ H fun vs H2 => spF K ps.length gf (v :: vs) H2 Q (fun c d H' => W c d σ H') := by
  refine lX_bind hK r e z fun vs H2 g2 as w2 x2 r2 e2 dvs z2 => ?_
  have dal : DqA g2 (v :: vs) (o' :: as) := .cons (dv.mono x2.toXt0 _ _) dvs
  refine ⟨g2, w2, _, x2.k.trans hK, r2, dal, ?_, ?_⟩
  · rw [dal.length]
    by_cases h : (o' :: as).length = ps.length
    · exact h
    · rw [hlen _ _ h] at z2; exact z2.elim
  · cases hz : gf (o' :: as) w2 with
    | ok d w3 => rw [hz] at z2; exact z2
    | ex c fs w3 => rw [hz] at z2; exact z2
    | no => rw [hz] at z2; exact z2
end
/-! ### C(..) -/
theorem make_guards {A : Around} {C : Addr} {us : List Value} {kw : List (Str × Value)} (h : A.guards = some []) : (A.under (.builtin "type.__call__" ⟨.ref C :: us, kw⟩)).guards = some [] := by
  first | exact h | simpa [Around.under, Code.isGuard, guardIds] using h
noncomputable def eMk (c : Str) (gf : FF) (fa : FA) : FE := fun ρ w => (fa ρ w).bind fun as w1 => match gf (rf w1.length :: as) (w1 ++ [.ins c []]) with
  | .ok .none w2 => .ok (rf w1.length) w2
  | .ok _ _ => .no
  | .ex k fs w2 => .ex k fs w2
  | .no => .no
theorem newI {g : Gd} {H : Hp} {w : Ws} {c : Str} {C x dx : Addr} (r : Rp g H w) (hC : ClsAt g.K c C) (hx : H x = none) (hdx : H dx = none) (hne : dx ≠ x) : Rp (g.al x) (upd (upd H dx (.own x)) x (.ins C dx [])) (w ++ [.ins c []]) ∧ Dq (g.al x) (.ref x) (rf w.length) := by
  have r1 : Rp g (upd H dx (.own x)) w := r.skip hdx
  refine ⟨r1.alloc (by rw [upd_ne (Ne.symm hne)]; exact hx) (fun a z => nomatch z) ⟨r.fnone hx, dx, [], ⟨C, hC, upd_same⟩, by rw [upd_ne hne, upd_same], r.fnone hdx, .nil⟩, ?_⟩
  rw [← r.len]
  exact Gd.al_ref
section
variable {X : Cx} {W : WX} {k : Nat} {f : Addr} {fd : FuncData} {ps : List Str} {gf : FF} {c : Str} {e : Expr} {es : List Expr} {fa : FA} {p pos : Pos}
theorem run_mkG {pins : List (Addr × Obj)} {σ : L2.St} {H : Hp} {s : Shared} {Q : VK} {us : List Value} {vs : List V} {C : Addr} (M : Mk X.K C f) (F : FnG X.prog X.w X.K X.mg X.base k f fd ps gf) (hr : Room (k + 1) X.A) (hgu : X.A.guards = some []) (hb : Binds X.K fd ps []) (tk : L2N.Takes X W)
    (I : Inv X pins σ H s) (rv : Vals vs us)
    (h : ∀ x dx, H x = none → H dx = none → dx ≠ x → spF X.K ps.length gf (.ref x :: vs) (upd (upd H dx (.own x)) x (.ins C dx [])) (fun v H2 => v = .non ∧ Q (.ref x) H2) (fun c d H' => W c d σ H')) :
    wpAny (model X.prog X.w) X.A (call (.ref C) us) (EP X pins σ Q) X.xe s := by
  have hq := h (s.heap.objs.size + 1) s.heap.objs.size (I.hok.fresh (Nat.le_succ _)) (I.hok.fresh (Nat.le_refl _)) (Nat.ne_of_lt (Nat.lt_succ_self _))
  have J := Inv.made (C := C) I
  have rr : Vals (V.ref (s.heap.objs.size + 1) :: vs) (Value.ref (s.heap.objs.size + 1) :: us) := .cons rfl rv
  have many : (Value.ref (s.heap.objs.size + 1) :: us).length = ps.length := by
    obtain ⟨_, _, _, _, _, _, hl, _⟩ := id hq
    rw [← rr.length]
    exact hl
  have bb := hb _ (Value.ref (s.heap.objs.size + 1) :: us) J.kIn (by rw [List.append_nil]; exact many)
  rw [List.append_nil] at bb
  refine wpAny_call (make_map (f := f) I.kIn M.makes M.init (beq_iff_eq.mp M.fn) (codeAny_mono (F.run _ X.stack _ _ _ _ _ _ _ (hr.make C us []) (make_guards hgu) (J.env0.make C us []) bb rr hq) ?_))
  intro res s' hres
  match res, hres with
  | .error e, hres => exact tk e s' (L2N.XE.of_call J (fun _ _ _ z => z) hres)
  | .ok (.ret u), hres =>
    obtain ⟨v, H', J3, ru, rfl, q3⟩ := J.after hres
    exact ⟨ru, ⟨V.ref (s.heap.objs.size + 1), H', J3, rfl, q3⟩⟩
theorem pf_mk {D : ClsD X.K X.mg c} (M : Mk X.K D.C f) (G : Gm X.prog X.w X.K X.mg X.base k f fd ps gf) (hr : Room (k + 1) X.A) (hgu : X.A.guards = some []) (hb : Binds X.K fd ps []) (hg : Gl X c) (tk : L2N.Takes X W) (ha : PAf X W (e :: es) fa)
    (hdb : (c == ("__debug__" : Str)) = false := by decide) (he : starEach (e :: es) X.env = (false, eval e X.env) :: starEach es X.env := by rfl) (hpl : (backTo pos (starEach es X.env)).any (·.1) = false := by rfl) :
    PF X W (.Call (.Name c p) (e :: es) [] pos) (eMk c gf fa) := by
  refine ⟨fun pins s σ H Q I h => ?_⟩
  obtain ⟨g, ρ, w, hK, r, en, q⟩ := h
  have want := lX_bind (R := DqA) (T := fun vs H1 => ∀ x dx, H1 x = none → H1 dx = none → dx ≠ x → spF X.K ps.length gf (.ref x :: vs) (upd (upd H1 dx (.own x)) x (.ins D.C dx [])) (fun v H2 => v = .non ∧ Q (.ref x) H2) (fun c d H' => W c d σ H')) hK r en q fun vs H1 g1 as w1 x r1 e1 dvs z => by
    intro y dx hy hdx hne
    have hK1 := x.k.trans hK
    obtain ⟨rn, dn⟩ := newI r1 (by rw [hK1]; exact D.at_) hy hdx hne
    have dal : DqA (g1.al y) (.ref y :: vs) (rf w1.length :: as) := .cons dn (dvs.mono Gd.al_xt.toXt0 _ _)
    refine ⟨g1.al y, _, _, hK1, rn, dal, ?_, ?_⟩
    · rw [dal.length]
      by_cases h : (rf w1.length :: as).length = ps.length
      · exact h
      · rw [G.len _ _ h] at z; exact z.elim
    · cases hz : gf (rf w1.length :: as) (w1 ++ [.ins c []]) with
      | ok d w2 =>
        rw [hz] at z
        cases d with
        | none =>
          intro v H2 g' x' r' dv'
          cases dv'
          exact ⟨rfl, z _ H2 g' (Gd.al_xt.trans x') r' (dn.mono x'.toXt0 _ _)⟩
        | _ => exact z.elim
      | ex c' fs w2 =>
        rw [hz] at z
        exact fun cv dd H' g' hc x' r' xd => z cv dd H' g' hc (Gd.al_xt.trans x') r' xd
      | no => rw [hz] at z; exact z.elim
  refine wpAny_Call_Name_kw (ld_glob I hg D.mg_ ?_ hdb)
  refine PySem.W.callWith_K (h₀ := X.base) I.ok.mod.kin M.kp ?_ he hpl
  refine thn (ha.run pos pins s σ H _ I want) fun us s1 hs => ?_
  obtain ⟨vs, H1, I1, rv, q1⟩ := hs
  exact ⟨I1.kIn, run_mkG M G.fn hr hgu hb tk I1 rv q1⟩
end
/-! ### calls with keywords, with defaults -/
/-- n values by position, those named ks: gD puts them in the parameters' order, defaults among them -/
structure KbD (K : PySem.W.Frag) (fd : FuncData) (ps : List Str) (n : Nat) (ks : List Str) (gD : List PyData → List PyData → List PyData) : Prop where
  ex : ∃ g gV, KBn K fd ps n ks g gV ∧ ∀ (G : Gd) (vs zs : List V) (as bs : List PyData), DqA G vs as → DqA G zs bs → vs.length = n → zs.length = ks.length → DqA G (gV vs zs) (gD as bs)
section
variable {X : Cx} {W : WX} {k n : Nat} {f : Addr} {fd : FuncData} {ps ks : List Str} {gf : FF} {gD : List PyData → List PyData → List PyData} {x : Str} {e : Expr} {es : List Expr} {kws : List Keyword} {fe : FE} {fa fk : FA} {p pos kpos : Pos} {nm : Option Str}
end
end Td

set_option Elab.async false
set_option linter.all false
set_option maxRecDepth 100000
set_option maxHeartbeats 4000000
namespace Td
open PySem L2 PySem.Spec PyProof.Rows
/-! ### f'..' -/
section
variable {X : Cx} {W : WX}
/-- the parts, each a text -/
noncomputable def jsF : List FE → Str → Ev → Ws → Oc Str
  | [], acc, _, w => .ok acc w
  | f :: fs, acc, ρ, w => (f ρ w).bind fun d w1 => match d with
    | .str y => Oc.on (szOk (acc ++ y).length) (jsF fs (acc ++ y) ρ w1)
    | _ => .no
inductive PJf (X : Cx) (W : WX) : List Expr → List FE → Prop
  | nil : PJf X W [] []
  | cons {e : Expr} {f : FE} {es : List Expr} {fs : List FE} (h : PF X W e f) (r : PJf X W es fs) : PJf X W (e :: es) (f :: fs)
/-! ### s.join(xs) -/
noncomputable def strsOf : List PyData → Option (List Str)
  | [] => some []
  | .str s :: r => (strsOf r).map (s :: ·)
  | _ :: _ => none
noncomputable def seqOf (w : Ws) : PyData → Option (List PyData)
  | .tuple ds => some ds
  | d => lstOf w d
theorem seqOf_ok {g : Gd} {H : Hp} {w : Ws} (r : Rp g H w) {v : V} {d : PyData} (h : Dq g v d) {ds : List PyData} (e : seqOf w d = some ds) : ∃ a xs, v = .ref a ∧ (SqL g.K H a xs ∨ SqT g.K H a xs) ∧ DqA g xs ds := by
  unfold seqOf at e
  split at e
  · cases e
    cases h with
    | tup a b => exact ⟨_, _, rfl, .inr (r.sqT a), b⟩
  · obtain ⟨a, xs, e1, e2, e3⟩ := lstOf_ok r h e
    exact ⟨a, xs, e1, .inl e2, e3⟩
/-! ### str(x) of a text, too -/
/-! ### xs * k of a list -/
end
/-! ### enumerate(text) -/
noncomputable def Ites (z : Str) : It := ⟨fun i _ => i < z.cps.size, fun i H v H' => ∃ T c, v = .ref T ∧ H T = none ∧ z.cps[i]? = some c ∧ H' = upd H T (.tup [.int (i : Nat), .str ⟨#[c]⟩]), fun i _ => i = z.cps.size⟩
theorem turn_enumS {P : Program} {w : World} {K : PySem.W.Frag} {elts : List Expr} {kk : Nat} {tpos : Pos} (z : Str) (t : Tok) (e it : Addr) :
    Turn P w K (.Tuple elts kk tpos) (Ites z) [e, it] e (fun i h => (∃ old, IsEnum h e it ((i : Nat) : Int) old) ∧ h.IsStrIter it (strIterType z) z t i ∧ e ≠ it) where
  mem := by simp
  obj := fun i h ⟨⟨old, he⟩, ⟨o, ho, hc, hd⟩, _⟩ b hb => by
    rcases (by simpa using hb : b = e ∨ b = it) with q | q
    · subst q; exact ⟨_, he, fun v q => nomatch q⟩
    · subst q; exact ⟨o, ho, fun v q => by rw [hd] at q; cases q⟩
  keep := fun i h h' ⟨⟨old, he⟩, ⟨o, ho, hr⟩, hne⟩ k => ⟨⟨old, k e (by simp) _ he⟩, ⟨o, k it (by simp) _ ho, hr⟩, hne⟩
  item := by
    intro X hP hw hK hc i pins s σ H E I hf st hg
    subst hP hw hK
    obtain ⟨⟨old, he⟩, hit, hne⟩ := st
    have hel : e < s.heap.objs.size := Heap.lt_size he
    have hil : it < s.heap.objs.size := by obtain ⟨_, q, _⟩ := hit; exact Heap.lt_size q
    have hlt : i < z.cps.size := hg
    refine wpAny_pyNext_enum_itemD (Draws.text (A := X.A.in1) (I.ok.hd hc) it z t) he hit hlt hne (by simp [hne]) fun x h' tk hP ho hit' hT hsz hk => ?_
    obtain ⟨c, u, hcc, rfl⟩ := hP
    refine ⟨_, rfl, wpAny_letOwnedTupleGo_enum (s := { s with heap := h', toks := tk + 1 }) ho fun h'' he' sb => ?_⟩
    have hT2 : h''.get? s.heap.objs.size = some { cls := .type "tuple", data := .seq #[.int i tk, .str ⟨#[c]⟩ u] } := (sb.2 _ (Nat.ne_of_gt hel)).trans hT
    have new : ObjOk X.prog X.w (upd H s.heap.objs.size (.tup [.int (i : Nat), .str ⟨#[c]⟩])) h'' s.heap.objs.size (.tup [.int (i : Nat), .str ⟨#[c]⟩]) :=
      ⟨by show 2 ≤ sizeLine; decide, _, .cons ⟨tk, rfl⟩ (.cons ⟨u, rfl⟩ .nil), ⟨_, hT2, rfl, _, rfl⟩⟩
    have J : Inv X pins σ (upd H s.heap.objs.size (.tup [.int (i : Nat), .str ⟨#[c]⟩])) { s with heap := h'', toks := tk + 1 } :=
      I.turnedNew (ch := [e, it]) (fun b ob hb q => (sb.2 b (fun y => hb (by simp [y]))).trans (hk b ob (fun y => hb (by simp [y])) (fun y => hb (by simp [y])) q)) hf (Nat.le_refl _) new
    refine ⟨.ref s.heap.objs.size, _, J, rfl, ⟨_, c, rfl, I.hok.fresh (Nat.le_refl _), hcc, rfl⟩, ⟨⟨.str ⟨#[c]⟩ u, ?_⟩, ?_, hne⟩, fun b hb => ?_⟩
    · rw [show ((i + 1 : Nat) : Int) = (i : Int) + 1 by omega]; exact he'
    · obtain ⟨o, ho', hr⟩ := hit'
      exact ⟨o, (sb.2 it (Ne.symm hne)).trans ho', hr⟩
    · have hb' : b < s.heap.objs.size := by
        rcases (by simpa using hb : b = e ∨ b = it) with y | y
        · subst y; exact hel
        · subst y; exact hil
      rw [upd_ne (Nat.ne_of_lt hb')]
      exact (hf b hb).1
  done := by
    intro X hP hw hK hc i pins s σ H E I hf st hg
    subst hP hw hK
    obtain ⟨⟨old, he⟩, hit, hne⟩ := st
    obtain ⟨f0, f1, f2, f3, f4, f5⟩ := hf it (by simp)
    have hi : i = z.cps.size := hg
    subst hi
    exact wpAny_pyNext_enum_endD (Draws.text (A := X.A.in1) (I.ok.hd hc) it z t) he hit fun h' eb => ⟨rfl, I.turned (t' := s.toks) (fun b o hb q => eb b o hb q) f0 f1 f3 f4 f5⟩
  self := fun A i s Q E ⟨⟨_, he⟩, _⟩ h => wpAny_pyIter_enum he h
/-- for k, c in enumerate(x): a list, a text -/
noncomputable def enD (i : Nat) : List PyData → List PyData
  | [] => []
  | d :: ds => wtD [.int (i : Nat), d] :: enD (i + 1) ds
theorem enD_len : ∀ (ds : List PyData) (i : Nat), (enD i ds).length = ds.length
  | [], _ => rfl
  | _ :: ds, i => congrArg (· + 1) (enD_len ds (i + 1))
theorem enD_get : ∀ (ds : List PyData) (i j : Nat) (d : PyData), ds[j]? = some d → (enD i ds)[j]? = some (wtD [.int ((i + j : Nat) : Int), d])
  | [], _, _, _, h => by simp at h
  | _ :: _, i, 0, d, h => by simp at h; simp [enD, h]
  | _ :: ds, i, j + 1, d, h => by
    have := enD_get ds (i + 1) j d (by simpa using h)
    rw [show i + 1 + j = i + (j + 1) by omega] at this
    simpa [enD] using this
theorem wk_enS {g : Gd} {z : Str} : WkD (Ites z) g (enD 0 (chD z)) where
  stop := fun g' H w x r => by show _ = _; rw [enD_len]; simp [chD]
  go := fun g' H w i x r hi => by rw [enD_len] at hi; show i < z.cps.size; simpa [chD] using hi
  yld := fun g' H w i v H2 x r hi y => by
    obtain ⟨T, c, rfl, hT, hc, rfl⟩ := y
    have hd : (chD z)[i]? = some (.str ⟨#[c]⟩) := by simp [chD, hc]
    have he := enD_get (chD z) 0 i _ hd
    rw [Nat.zero_add] at he
    exact ⟨g'.put T (.tup [.int (i : Nat), .str ⟨#[c]⟩]), _, he, Xt.put (r.fnone hT), r.put hT, newW r hT (.cons (.int _) (.cons (.str _) .nil))⟩
theorem wk_enL {g : Gd} {a : Addr} {xs : List V} {ds : List PyData} (h : SqL g.K g.F a xs) (d : DqA g xs ds) : WkD (Ite g.K a) g (enD 0 ds) where
  stop := fun g' H w x r => by
    rw [enD_len, ← d.length]
    exact walk_enum.stops H (x.k ▸ r.sqL (x.sqL h))
  go := fun g' H w i x r hi => walk_enum.goes i H (by rw [enD_len, ← d.length] at hi; exact hi) (x.k ▸ r.sqL (x.sqL h))
  yld := fun g' H w i v H2 x r hi y => by
    rw [enD_len] at hi
    obtain ⟨T, u, b, rfl, hT, rfl, ha, hb⟩ := walk_enum.yields i H v H2 (by rw [d.length]; exact hi) (x.k ▸ r.sqL (x.sqL h)) y
    have hd := List.getElem?_eq_getElem hi
    obtain ⟨b', h3, h4⟩ := d.get hd
    have hb : xs[i]? = some b := hb
    have ha : some (V.int (i : Nat)) = some u := ha
    rw [hb] at h3
    cases h3
    cases ha
    have he := enD_get ds 0 i _ hd
    rw [Nat.zero_add] at he
    exact ⟨g'.put T (.tup [.int (i : Nat), b]), _, he, Xt.put (r.fnone hT), r.put hT, newW r hT (.cons (.int _) (.cons (h4.mono x _ _) .nil))⟩
section
variable {X : Cx} {W : WX}
end
end Td

set_option Elab.async false
set_option linter.all false
set_option maxRecDepth 100000
set_option maxHeartbeats 4000000
namespace Td
open PySem L2 PySem.Spec PyProof.Rows
/-! ### how a call puts its values: 0 by position, 1 by keyword, 2 a default -/
/-- the body of a class -/
noncomputable def cbody : Stmt → List Stmt
  | .ClassDef (body := b) .. => b
  | _ => []
set_option genInjectivity false in
set_option genSizeOf false in
/-- a def of the text whose parameters are not all by position -/
structure DefA (K : PySem.W.Frag) (mg : Str → Option Value) (x : Str) (st : Stmt) where
  f : Addr
  fd : FuncData
  fn : Fun K x x st f fd
  at_ : mg x = some (.ref f)
end Td

set_option Elab.async false
set_option linter.all false
set_option maxRecDepth 100000
set_option maxHeartbeats 4000000
/-! Plain facts that any law wants: data of a size, repr, stores, places. -/
namespace Td
open PySem L2
/-! ### data of a size -/
noncomputable def ascS (z : Str) : Bool := z.cps.toList.all fun c => decide (c < 128)
mutual
noncomputable def wt : PyData → Nat
  | .none => 1
  | .bool _ => 1
  | .int _ => 1
  | .str z => 1 + z.length
  | .list xs => 1 + wtA xs
  | .tuple xs => 1 + wtA xs
  | .dict _ => 1
noncomputable def wtA : List PyData → Nat
  | [] => 0
  | x :: xs => wt x + wtA xs
end
noncomputable def ten62 : Nat := 10 ^ 62
mutual
noncomputable def okD : PyData → Bool
  | .none => true
  | .bool _ => true
  | .int i => decide (i.natAbs < ten62)
  | .str z => ascS z
  | .list xs => okDA xs
  | .tuple xs => okDA xs
  | .dict _ => false
noncomputable def okDA : List PyData → Bool
  | [] => true
  | x :: xs => okD x && okDA xs
end
theorem okDA_iff : ∀ {xs : List PyData}, okDA xs = true ↔ ∀ x ∈ xs, okD x = true
  | [] => by simp [okDA]
  | x :: xs => by simp [okDA, okDA_iff (xs := xs)]
theorem wt_pos (d : PyData) : 1 ≤ wt d := by cases d <;> simp [wt] <;> omega
theorem len_wtA : ∀ a : List PyData, a.length ≤ wtA a
  | [] => Nat.le_refl _
  | x :: a => by have := len_wtA a; have := wt_pos x; simp only [List.length_cons, wtA]; omega
theorem wtA_mem {x : PyData} : ∀ {a : List PyData}, x ∈ a → wt x ≤ wtA a
  | y :: a, h => by
    simp only [wtA]
    rcases List.mem_cons.mp h with h | h
    · subst h; omega
    · have := wtA_mem h; omega
theorem depthAll_le {D : Nat} : ∀ {a : List PyData}, PyData.depthAll a ≤ D ↔ ∀ x ∈ a, x.depth ≤ D
  | [] => by simp [PyData.depthAll]
  | x :: a => by
    simp only [PyData.depthAll, List.mem_cons, forall_eq_or_imp]
    rw [Nat.max_le, depthAll_le (a := a)]
theorem asc_ok {z : Str} (h : ascS z = true) : PyData.strOk z = true := by
  unfold PyData.strOk
  unfold ascS at h
  rw [← Array.all_toList, List.all_eq_true] at *
  intro c hc
  have := of_decide_eq_true (h c hc)
  exact decide_eq_true (by omega)
mutual
theorem okD_lay : ∀ d : PyData, okD d = true → d.canLay0 = true
  | .none, _ => rfl
  | .bool _, _ => rfl
  | .int _, _ => rfl
  | .str z, h => by simpa [PyData.canLay0] using asc_ok (by simpa [okD] using h)
  | .list xs, h => by simpa [PyData.canLay0] using okDA_lay xs (by simpa [okD] using h)
  | .tuple xs, h => by simpa [PyData.canLay0] using okDA_lay xs (by simpa [okD] using h)
  | .dict _, h => by simp [okD] at h
theorem okDA_lay : ∀ xs : List PyData, okDA xs = true → PyData.canLayAll0 xs = true
  | [], _ => rfl
  | x :: xs, h => by
    have h' : okD x = true ∧ okDA xs = true := by simpa [okDA] using h
    simp [PyData.canLayAll0, okD_lay x h'.1, okDA_lay xs h'.2]
end
theorem int_short {i : Int} (h : i.natAbs < ten62) : (PyData.shown (.int i)).length ≤ 64 ∧ i.natAbs.log2 < 1920 := by
  constructor
  · have e := int_text_length_le10 (k := 62) (by decide) h
    show (Str.ofString (toString i)).length ≤ 64
    rw [ofString_length]
    omega
  · by_cases h0 : i.natAbs = 0
    · rw [h0]; decide
    · refine (Nat.log2_lt h0).mpr (Nat.lt_of_lt_of_le h ?_)
      unfold ten62
      decide +kernel
mutual
theorem okD_short : ∀ d : PyData, okD d = true → d.leavesShort 64 = true ∧ d.showable = true
  | .none, _ => ⟨rfl, rfl⟩
  | .bool b, _ => ⟨rfl, rfl⟩
  | .int i, h => by
    have hi : i.natAbs < ten62 := of_decide_eq_true (show decide (i.natAbs < ten62) = true by simpa only [okD] using h)
    obtain ⟨s1, s2⟩ := int_short hi
    exact ⟨by simp only [PyData.leavesShort]; exact decide_eq_true s1, by simp only [PyData.showable]; exact decide_eq_true s2⟩
  | .str z, h => by
    refine ⟨?_, by simp [PyData.showable]⟩
    simp only [PyData.leavesShort, List.all_eq_true, decide_eq_true_eq]
    intro c hc
    have h' : ascS z = true := by simpa [okD] using h
    unfold ascS at h'
    rw [List.all_eq_true] at h'
    have := of_decide_eq_true (h' c hc)
    omega
  | .list xs, h => by
    have := okDA_short xs (by simpa [okD] using h)
    exact ⟨by simpa [PyData.leavesShort] using this.1, by simpa [PyData.showable] using this.2⟩
  | .tuple xs, h => by
    have := okDA_short xs (by simpa [okD] using h)
    exact ⟨by simpa [PyData.leavesShort] using this.1, by simpa [PyData.showable] using this.2⟩
  | .dict _, h => by simp [okD] at h
theorem okDA_short : ∀ xs : List PyData, okDA xs = true → PyData.leavesShortAll 64 xs = true ∧ PyData.showableAll xs = true
  | [], _ => ⟨rfl, rfl⟩
  | x :: xs, h => by
    have h' : okD x = true ∧ okDA xs = true := by simpa [okDA] using h
    have h1 := okD_short x h'.1
    have h2 := okDA_short xs h'.2
    exact ⟨by simp [PyData.leavesShortAll, h1.1, h2.1], by simp [PyData.showableAll, h1.2, h2.2]⟩
end
mutual
theorem bulk_wt : ∀ d : PyData, okD d = true → d.bulk + 1 ≤ wt d
  | .none, _ => Nat.le_refl _
  | .bool b, _ => Nat.le_refl _
  | .int i, _ => Nat.le_refl _
  | .str z, _ => by simp only [PyData.bulk, wt, Str.length]; omega
  | .list xs, h => by
    have := bulk_wtA xs (by simpa only [okD] using h)
    simp only [PyData.bulk, wt]; omega
  | .tuple xs, h => by
    have := bulk_wtA xs (by simpa only [okD] using h)
    simp only [PyData.bulk, wt]; omega
  | .dict _, h => by simp [okD] at h
theorem bulk_wtA : ∀ xs : List PyData, okDA xs = true → PyData.bulkAll xs ≤ wtA xs
  | [], _ => Nat.le_refl _
  | x :: xs, h => by
    have h' : okD x = true ∧ okDA xs = true := by simpa only [okDA, Bool.and_eq_true] using h
    have h1 := bulk_wt x h'.1
    have h2 := bulk_wtA xs h'.2
    simp only [PyData.bulkAll, wtA]; omega
end
theorem shaped_of {d : PyData} (h : okD d = true) (hd : d.depth ≤ 64) : SeqAt.shaped d = true := by
  unfold SeqAt.shaped
  rw [okD_lay d h, Bool.true_and]
  exact decide_eq_true (by omega)
theorem repr_of {d : PyData} (w : Ws) (h : okD d = true) (hd : d.depth ≤ 64) (hw : wt d ≤ 200000) : reprD w [d] = some (.str d.shown) := by
  have s := okD_short d h
  have b := bulk_wt d h
  have l := PyData.shown_le_bulk 64 (by decide) d s.1
  have z : szOk d.shown.length = true := decide_eq_true (by rw [sizeLine_eq]; omega)
  simp only [reprD, shaped_of h hd, s.2, z, Bool.and_true, if_true]
/-! ### == of data -/
theorem strs_eq (a b : Str) : (a.cps.toList == b.cps.toList) = decide (a = b) := by
  by_cases h : a = b
  · subst h; simp
  · have : a.cps.toList ≠ b.cps.toList := fun e => h (by cases a; cases b; simp at e; simp [e])
    rw [decide_eq_false h]
    exact beq_eq_false_iff_ne.mpr this
theorem eqv_str (a b : Str) : PyData.eqv (.str a) (.str b) = decide (a = b) := by
  by_cases h : a = b
  · subst h
    simp [PyData.eqv]
  · simp only [PyData.eqv]
    first | exact (strs_eq a b).trans (by simp [h]) | simp [h] | (simp [h]; intro e; exact h (by cases a; cases b; simp_all))
theorem eqD_str (w : Ws) (a b : Str) : eqD w (.str a) (.str b) = some (.bool (decide (a = b))) := by
  unfold eqD
  split
  · rw [eqv_str]
  · simp only [strsE, strs_eq, id]
theorem neD_int (w : Ws) (a b : Int) : neD w (.int a) (.int b) = some (.bool (!decide (a = b))) := by
  unfold neD
  rw [if_pos (by simp [SeqAt.shaped, PyData.canLay0, PyData.depth])]
  by_cases h : a = b <;> simp [PyData.eqv, h]
/-! ### texts as lists of signs -/
noncomputable def S (l : List Nat) : Str := ⟨l.toArray⟩
theorem szOk_of {n : Nat} (h : n ≤ 10000000) : szOk n = true := decide_eq_true (by rw [sizeLine_eq]; omega)
/-! ### places -/
theorem atI_nat {α : Type} {xs : List α} {k : Nat} {x : α} (h : xs[k]? = some x) : atI xs (k : Int) = some x := by
  have hk : k < xs.length := (List.getElem?_eq_some_iff.mp h).1
  unfold atI ixN
  simp [hk]
  exact (List.getElem?_eq_some_iff.mp h).2
theorem ixD_tup {w : Ws} {ds : List PyData} {i : Int} : ixD w (.tuple ds) (.int i) = atI ds i := rfl
theorem lst_at {w : Ws} {q : Nat} {ds : List PyData} (h : w[q]? = some (.lst ds)) : lstOf w (rf q) = some ds := by
  simp [lstOf, h]
theorem lstOf_list {w : Ws} {ds : List PyData} : lstOf w (.list ds) = some ds := rfl
theorem upd_at {w : Ws} {q : Nat} {ds ys : List PyData} {d : PyData} {k : List PyData → Option (PyData × List PyData)} (h : w[q]? = some (.lst ds)) (hk : k ds = some (d, ys)) : updL w (rf q) k = some (d, w.set q (.lst ys)) := by
  simp [updL, locOf, h, hk]
/-! ### statements one behind the other -/
theorem seq_nx {f k : FS} {ρ ρ1 : Ev} {w w1 : Ws} (h : f ρ w = .nx ρ1 w1) : sSeq f k ρ w = k ρ1 w1 := by simp [sSeq, h]
theorem seq_rt {f k : FS} {ρ : Ev} {w w1 : Ws} {d : PyData} (h : f ρ w = .rt d w1) : sSeq f k ρ w = .rt d w1 := by simp [sSeq, h]
/-! ### stores whose cells speak of no later ones -/
mutual
theorem bnd_mono {n m : Nat} (h : n ≤ m) : ∀ d : PyData, bnd n d = true → bnd m d = true
  | .none, _ => rfl
  | .bool _, _ => rfl
  | .int _, _ => rfl
  | .str _, _ => rfl
  | .list xs, b => by simpa [bnd] using bndA_mono h xs (by simpa [bnd] using b)
  | .tuple xs, b => by simpa [bnd] using bndA_mono h xs (by simpa [bnd] using b)
  | .dict kvs, b => by simpa [bnd] using bndK_mono h kvs (by simpa [bnd] using b)
theorem bndK_mono {n m : Nat} (h : n ≤ m) : ∀ kvs : List (PyData × PyData), bndK n kvs = true → bndK m kvs = true
  | [(.none, .none), (.tuple a, .tuple ds)], b => by simpa [bndK] using bndA_mono h ds (by simpa [bndK] using b)
  | [(.none, .str c), (.tuple a, .tuple ds)], b => by simpa [bndK] using bndA_mono h ds (by simpa [bndK] using b)
  | kvs, b => by
    unfold bndK at b
    split at b
    · have := of_decide_eq_true b
      simp only [bndK]
      exact decide_eq_true (by omega)
    · simpa [bndK] using bndA_mono h _ b
    · simpa [bndK] using bndA_mono h _ b
    · cases b
theorem bndA_mono {n m : Nat} (h : n ≤ m) : ∀ xs : List PyData, bndA n xs = true → bndA m xs = true
  | [], _ => rfl
  | x :: xs, b => by
    have b' : bnd n x = true ∧ bndA n xs = true := by simpa [bndA] using b
    simp [bndA, bnd_mono h x b'.1, bndA_mono h xs b'.2]
end
theorem bndO_mono {n m : Nat} (h : n ≤ m) (ob : Ob) (b : bndO n ob = true) : bndO m ob = true := by
  cases ob with
  | lst xs => exact bndA_mono h _ b
  | dK kvs => exact bndA_mono h _ b
  | ins c fs => exact bndA_mono h _ b
  | dead => rfl
mutual
theorem bnd_okD {n : Nat} : ∀ d : PyData, okD d = true → bnd n d = true
  | .none, _ => rfl
  | .bool _, _ => rfl
  | .int _, _ => rfl
  | .str _, _ => rfl
  | .list xs, b => by simpa [bnd] using bndA_okD xs (by simpa [okD] using b)
  | .tuple xs, b => by simpa [bnd] using bndA_okD xs (by simpa [okD] using b)
  | .dict kvs, b => by simp [okD] at b
theorem bndA_okD {n : Nat} : ∀ xs : List PyData, okDA xs = true → bndA n xs = true
  | [], _ => rfl
  | x :: xs, b => by
    have b' : okD x = true ∧ okDA xs = true := by simpa [okDA] using b
    simp [bndA, bnd_okD x b'.1, bndA_okD xs b'.2]
end
noncomputable def Cl (w : Ws) : Prop := w.all (bndO w.length) = true
theorem Cl.snoc {w : Ws} {ob : Ob} (h : Cl w) (b : bndO (w.length + 1) ob = true) : Cl (w ++ [ob]) := by
  unfold Cl at *
  rw [List.length_append, List.length_singleton, List.all_append, Bool.and_eq_true]
  refine ⟨?_, by simp [b]⟩
  rw [List.all_eq_true] at h ⊢
  exact fun x hx => bndO_mono (by omega) x (h x hx)
theorem Cl.set {w : Ws} {l : Nat} {ob : Ob} (h : Cl w) (b : bndO w.length ob = true) : Cl (w.set l ob) := by
  unfold Cl at *
  rw [List.length_set]
  rw [List.all_eq_true] at h ⊢
  intro x hx
  rcases List.mem_or_eq_of_mem_set hx with hx | rfl
  · exact h x hx
  · exact b
theorem trim_app {w v : Ws} (h : Cl w) : trimW w.length (w ++ v) = true := by
  unfold trimW
  rw [List.take_left, h]
  simp
theorem leave_trim {w v : Ws} {d : PyData} (h : Cl w) (b : bnd w.length d = true) : leave w.length (.rt d (w ++ v)) = .ok d w := by
  simp only [leave, trim_app h, b, Bool.and_self, if_true, List.take_left]
theorem leave_trimN {w v : Ws} {ρ : Ev} (h : Cl w) : leave w.length (.nx ρ (w ++ v)) = .ok .none w := by
  simp only [leave, trim_app h, if_true, List.take_left]
end Td

set_option Elab.async false
set_option linter.all false
set_option maxRecDepth 100000
set_option maxHeartbeats 4000000
namespace Td
open PySem L2 PySem.Spec PyProof.Rows
section
variable {X : Cx} {W : WX}
/-! ### (*t, e) -/
noncomputable def aSt (fe : FE) (fa : FA) : FA := fun ρ w => (fe ρ w).bind fun d w1 => match seqOf w1 d with
  | some xs => (fa ρ w1).bind fun ys w2 => .ok (xs ++ ys) w2
  | none => .no
theorem paf_star {e : Expr} {es : List Expr} {p : Pos} {f : FE} {fr : FA} (ha : PF X W e f) (hr : PAf X W es fr) (hs : starEach (.Starred e p :: es) X.env = (true, eval e X.env) :: starEach es X.env := by rfl) : PAf X W (.Starred e p :: es) (aSt f fr) := by
  refine pa_imp (StX.pa_star ha hr hs) fun σ H Q ⟨g, ρ, w, hK, r, e, q⟩ => ?_
  refine lX_bind hK r e q fun v H1 g1 d w1 x r1 e1 dv z => ?_
  cases hq : seqOf w1 d with
  | none => rw [hq] at z; exact z.elim
  | some ds =>
    rw [hq] at z
    obtain ⟨a, xs, rfl, sq, da⟩ := seqOf_ok r1 dv hq
    have hK1 := x.k.trans hK
    refine ⟨a, xs, rfl, hK1 ▸ sq.symm, ?_⟩
    refine lX_bind hK1 r1 e1 z fun vs H2 g2 ys w2 x2 r2 e2 dvs z2 => ?_
    exact z2 _ H2 g2 (Xt.refl _) r2 ((da.mono x2.toXt0 _ _).append dvs)
/-! ### range(i, j, -1) -/
/-! ### sorted(d) -/
theorem KvR.keys {g : Gd} : ∀ {xs : List (Key × V)} {kvs : List (Key × PyData)}, KvR g xs kvs → xs.map (·.1) = kvs.map (·.1)
  | _, _, .nil => rfl
  | _, _, .cons h t => by simp only [List.map_cons]; rw [h.1, KvR.keys t]
/-! ### xs[::-1], xs a list -/
/-! ### d.get(k, x), d.setdefault(k, x) -/
/-! ### xs.extend(ys) -/
end
end Td
namespace Td
open PySem L2 PySem.Spec PyProof.Rows
section
variable {X : Cx} {W : WX}
end
end Td

set_option Elab.async false
set_option linter.all false
set_option maxRecDepth 100000
set_option maxHeartbeats 4000000
/-! Sleeping generators: a run that wakes none of them leaves them as they are. -/
namespace Tg
open PySem
open Sem (wp)
noncomputable def stuckK : Resume → Sem PySem.Fin := fun _ => .unsupported ""
noncomputable def okFs (fs : List Frame) : Prop := splitAtGen fs = none
noncomputable def okG : GenState → Prop
  | .suspended _ _ _ _ fs _ => okFs fs
  | _ => True
noncomputable def okE : End → Prop
  | .susp _ _ _ _ _ _ fs => okFs fs
  | .ret _ => True
/-- as it is, and as one that cannot be woken -/
inductive Gp : Option GenState → Option GenState → Prop
  | non : Gp none none
  | eq {x : GenState} : okG x → Gp (some x) (some x)
  | stk {k : Resume → Sem PySem.Fin} {l : List Value} {c : Code} {p : Pos} {fs : List Frame} {cl : Bool} : Gp (some (.suspended k l c p fs cl)) (some (.suspended stuckK l c p fs cl))
structure Rl (S T : Shared) : Prop where
  heap : S.heap = T.heap
  drawn : S.drawn = T.drawn
  toks : S.toks = T.toks
  os : S.os = T.os
  size : S.gens.size = T.gens.size
  at_ : ∀ i : Nat, Gp S.gens[i]? T.gens[i]?
/-- i cannot be woken -/
noncomputable def Stk (T : Shared) (i : Nat) : Prop := ∃ l c p fs cl, T.gens[i]? = some (.suspended stuckK l c p fs cl)
noncomputable def Kp (S T S' T' : Shared) : Prop := ∀ i, Stk T i → S'.gens[i]? = S.gens[i]? ∧ Stk T' i
theorem Kp.refl (S T : Shared) : Kp S T S T := fun i h => ⟨rfl, h⟩
theorem Kp.trans {S T S1 T1 S2 T2 : Shared} (a : Kp S T S1 T1) (b : Kp S1 T1 S2 T2) : Kp S T S2 T2 := fun i h =>
  let ⟨a1, a2⟩ := a i h
  let ⟨b1, b2⟩ := b i a2
  ⟨b1.trans a1, b2⟩
theorem no_unsup {M : Model} {Γ : Ctx} {p : Pos} {t : Sem PySem.Fin} {fs : List Frame} {s s' : Shared} {e : End} (h : Runs M Γ p t fs s e s') : ∀ w, t ≠ .unsupported w := by
  induction h <;> intro w z <;> first | (cases z; done) | (rename_i ih1 ih2; exact ih1 w z) | (rename_i ih; exact ih w z) | (rename_i ih1 _ _ ih2; exact ih1 w z) | skip
  all_goals (subst z; simp_all)
theorem okFs_ret {k : Result → Sem PySem.Fin} {h : Option Value} {g : Bool} {l : List Value} {c : Code} {p : Pos} {kp : List Value} {fs : List Frame} : okFs (.ret k h g l c p kp :: fs) ↔ okFs fs := by
  simp only [okFs, splitAtGen, Option.map_eq_none_iff]
theorem okFs_app : ∀ {fs gs : List Frame}, okFs fs → okFs gs → okFs (fs ++ gs)
  | [], _, _, h => h
  | .ret _ _ _ _ _ _ _ :: fs, gs, h, h2 => by
    rw [List.cons_append, okFs_ret]
    exact okFs_app (okFs_ret.mp h) h2
  | .gen _ _ _ _ _ :: fs, gs, h, _ => by simp [okFs, splitAtGen] at h
theorem Gp.look {S T : Shared} (r : Rl S T) {i : Nat} {y : GenState} (h : T.gens[i]? = some y) : ∃ x, S.gens[i]? = some x ∧ x.seen = y.seen ∧ Gp (some x) (some y) := by
  have q := r.at_ i
  rw [h] at q
  cases e : S.gens[i]? with
  | none => rw [e] at q; cases q
  | some x =>
    rw [e] at q
    refine ⟨x, rfl, ?_, q⟩
    cases q <;> rfl
theorem get_set {s : Shared} {g i : Nat} {x : GenState} : (s.setGen g x).gens[i]? = if g = i then (if i < s.gens.size then some x else none) else s.gens[i]? := by
  show (s.gens.setIfInBounds g x)[i]? = _
  rw [Array.getElem?_setIfInBounds]
  split <;> simp_all
theorem Rl.set {S T : Shared} (r : Rl S T) (g : Nat) {x : GenState} (hx : okG x) : Rl (S.setGen g x) (T.setGen g x) where
  heap := r.heap
  drawn := r.drawn
  toks := r.toks
  os := r.os
  size := by rw [GenW.setGen_size, GenW.setGen_size]; exact r.size
  at_ := fun i => by
    rw [get_set, get_set, r.size]
    split
    · split
      · exact .eq hx
      · exact .non
    · exact r.at_ i
theorem Kp.set {S T : Shared} (g : Nat) {x : GenState} (h : ¬ Stk T g) : Kp S T (S.setGen g x) (T.setGen g x) := fun i hi => by
  have ne : g ≠ i := fun z => h (by rw [z]; exact hi)
  obtain ⟨l, c, p, fs, cl, e⟩ := hi
  exact ⟨by rw [get_set, if_neg ne], l, c, p, fs, cl, by rw [get_set, if_neg ne]; exact e⟩
theorem okE_gen {e : End} (h : okE e) : okG e.genState := by cases e <;> exact h
theorem stk_fresh {T : Shared} {g : Nat} {c : Code} (h : T.gens[g]? = some (.fresh c)) : ¬ Stk T g := fun ⟨_, _, _, _, _, z⟩ => by rw [h] at z; cases z
theorem runs_frame {M : Model} {Γ : Ctx} {p : Pos} {t : Sem PySem.Fin} {fs : List Frame} {T T' : Shared} {e : End} (h : Runs M Γ p t fs T e T') : okFs fs → ∀ S, Rl S T → ∃ S', Rl S' T' ∧ Runs M Γ p t fs S e S' ∧ okE e ∧ Kp S T S' T' := by
  induction h with
  | done => exact fun _ S r => ⟨S, r, .done, trivial, Kp.refl _ _⟩
  | raise => exact fun _ S r => ⟨S, r, .raise, trivial, Kp.refl _ _⟩
  | again hc _ ih => exact fun o S r => let ⟨S', r', h', o', k'⟩ := ih o S r; ⟨S', r', .again hc h', o', k'⟩
  | rule _ ih => exact fun o S r => let ⟨S', r', h', o', k'⟩ := ih o S r; ⟨S', r', .rule h', o', k'⟩
  | «at» _ ih => exact fun o S r => let ⟨S', r', h', o', k'⟩ := ih o S r; ⟨S', r', .at h', o', k'⟩
  | load hl _ ih => exact fun o S r => let ⟨S', r', h', o', k'⟩ := ih o S r; ⟨S', r', .load (by rw [r.heap]; exact hl) h', o', k'⟩
  | @update Γ p k s e s' a part f hl _ ih =>
    intro o S r
    obtain ⟨S', r', h', o', k'⟩ := ih o { S with heap := S.heap.update a f } ⟨by show S.heap.update a f = s.heap.update a f; rw [r.heap], r.drawn, r.toks, r.os, r.size, r.at_⟩
    exact ⟨S', r', .update (by rw [r.heap]; exact hl) h', o', k'⟩
  | @loadIfAlive Γ p k s e s' a _ ih =>
    intro o S r
    obtain ⟨S', r', h', o', k'⟩ := ih o S r
    exact ⟨S', r', .loadIfAlive (by rw [r.heap]; exact h'), o', k'⟩
  | point _ ih => exact fun o S r => let ⟨S', r', h', o', k'⟩ := ih o S r; ⟨S', r', .point h', o', k'⟩
  | @alloc Γ p k s e s' ob _ ih =>
    intro o S r
    obtain ⟨S', r', h', o', k'⟩ := ih o { S with heap := S.heap.push ob } ⟨by show S.heap.push ob = s.heap.push ob; rw [r.heap], r.drawn, r.toks, r.os, r.size, r.at_⟩
    exact ⟨S', r', .alloc (by rw [show S.heap.objs.size = s.heap.objs.size by rw [r.heap]]; exact h'), o', k'⟩
  | @fresh Γ p k s e s' _ ih =>
    intro o S r
    obtain ⟨S', r', h', o', k'⟩ := ih o { S with toks := S.toks + 1 } ⟨r.heap, r.drawn, by show S.toks + 1 = s.toks + 1; rw [r.toks], r.os, r.size, r.at_⟩
    exact ⟨S', r', .fresh (by rw [show k S.toks = k s.toks by rw [r.toks]]; exact h'), o', k'⟩
  | ask _ ih => exact fun o S r => let ⟨S', r', h', o', k'⟩ := ih o S r; ⟨S', r', .ask h', o', k'⟩
  | @choose n Γ p k s e s' src hn _ ih =>
    intro o S r
    obtain ⟨S', r', h', o', k'⟩ := ih o { S with drawn := S.drawn.bump src } ⟨r.heap, by show S.drawn.bump src = s.drawn.bump src; rw [r.drawn], r.toks, r.os, r.size, r.at_⟩
    exact ⟨S', r', .choose hn (by rw [r.drawn] at h' ⊢; exact h'), o', k'⟩
  | @os Γ p k s e s' q l _ ih =>
    intro o S r
    obtain ⟨S', r', h', o', k'⟩ := ih o { S with os := (Os.step S.os q).1 } ⟨r.heap, r.drawn, r.toks, by show (Os.step S.os q).1 = (Os.step s.os q).1; rw [r.os], r.size, r.at_⟩
    exact ⟨S', r', .os (by rw [r.os] at h' ⊢; exact h'), o', k'⟩
  | handled _ ih => exact fun o S r => let ⟨S', r', h', o', k'⟩ := ih o S r; ⟨S', r', .handled h', o', k'⟩
  | genState hg _ ih =>
    intro o S r
    obtain ⟨x, hx, hs, _⟩ := Gp.look r hg
    obtain ⟨S', r', h', o', k'⟩ := ih o S r
    exact ⟨S', r', .genState hx (by rw [hs]; exact h'), o', k'⟩
  | stack _ ih => exact fun o S r => let ⟨S', r', h', o', k'⟩ := ih o S r; ⟨S', r', .stack h', o', k'⟩
  | thread _ ih => exact fun o S r => let ⟨S', r', h', o', k'⟩ := ih o S r; ⟨S', r', .thread h', o', k'⟩
  | @newGen Γ p k s e s' c _ ih =>
    intro o S r
    obtain ⟨S', r', h', o', k'⟩ := ih o { S with gens := S.gens.push (.fresh c) } ⟨r.heap, r.drawn, r.toks, r.os, by show (S.gens.push _).size = (s.gens.push _).size; rw [Array.size_push, Array.size_push, r.size], fun i => by
      show Gp (S.gens.push _)[i]? (s.gens.push _)[i]?
      rw [Array.getElem?_push, Array.getElem?_push, r.size]
      split
      · exact .eq trivial
      · exact r.at_ i⟩
    refine ⟨S', r', .newGen (by rw [r.size]; exact h'), o', fun i hi => ?_⟩
    obtain ⟨l, cc, pp, ff, cl, ei⟩ := hi
    have hlt : i < s.gens.size := (Array.getElem?_eq_some_iff.mp ei).1
    have := k' i ⟨l, cc, pp, ff, cl, by show (s.gens.push _)[i]? = _; rw [Array.getElem?_push, if_neg (by omega)]; exact ei⟩
    refine ⟨this.1.trans ?_, this.2⟩
    show (S.gens.push _)[i]? = _
    rw [Array.getElem?_push, if_neg (by rw [r.size]; omega)]
  | call _ _ ih1 ih2 =>
    intro o S r
    obtain ⟨S1, r1, h1, o1, k1⟩ := ih1 rfl S r
    obtain ⟨S2, r2, h2, o2, k2⟩ := ih2 o S1 r1
    exact ⟨S2, r2, .call h1 h2, o2, k1.trans k2⟩
  | callSusp _ ih =>
    intro o S r
    obtain ⟨S1, r1, h1, o1, k1⟩ := ih rfl S r
    exact ⟨S1, r1, .callSusp h1, okFs_app o1 (okFs_ret.mpr rfl), k1⟩
  | yield => exact fun _ S r => ⟨S, r, .yield, rfl, Kp.refl _ _⟩
  | @resumeFresh Γ p g l k s c e₁ s₁ e s' hg _ hq _ ih1 ih2 =>
    intro o S r
    obtain ⟨x, hx, _, hp⟩ := Gp.look r hg
    have ex : x = .fresh c := by cases hp; rfl
    subst ex
    have ns : ¬ Stk s g := fun ⟨_, _, _, _, _, z⟩ => by rw [hg] at z; cases z
    have hlt : g < s.gens.size := (Array.getElem?_eq_some_iff.mp hg).1
    obtain ⟨S1, r1, h1, o1, k1⟩ := ih1 rfl _ (r.set g (x := .running) trivial)
    obtain ⟨S2, r2, h2, o2, k2⟩ := ih2 o _ (r1.set g (okE_gen o1))
    refine ⟨S2, r2, .resumeFresh hx h1 hq h2, o2, fun i hi => ?_⟩
    have ne : g ≠ i := fun z => ns (by rw [z]; exact hi)
    obtain ⟨a1, a2⟩ := Kp.set (S := S) g (x := .running) ns i hi
    obtain ⟨b1, b2⟩ := k1 i a2
    have c2 : Stk (s₁.setGen g e₁.genState) i := by
      obtain ⟨l', c', p', fs', cl', e'⟩ := b2
      exact ⟨l', c', p', fs', cl', by rw [get_set, if_neg ne]; exact e'⟩
    obtain ⟨d1, d2⟩ := k2 i c2
    refine ⟨?_, d2⟩
    rw [d1, get_set, if_neg ne, b1, a1]
  | @resumeSuspended Γ p g rr l k s k₀ l₀ c₀ p₀ fs cl e₁ s₁ e s' hg hrun hq _ ih1 ih2 =>
    intro o S r
    obtain ⟨x, hx, _, hp⟩ := Gp.look r hg
    have nk : k₀ ≠ stuckK := fun z => by subst z; exact no_unsup hrun "" rfl
    have ns : ¬ Stk s g := fun ⟨_, _, _, _, _, z⟩ => by rw [hg] at z; cases z; exact nk rfl
    have hh : x = .suspended k₀ l₀ c₀ p₀ fs cl ∧ okFs fs := by
      cases hp with
      | eq hx => exact ⟨rfl, hx⟩
      | stk => exact absurd rfl nk
    obtain ⟨rfl, ofs⟩ := hh
    obtain ⟨S1, r1, h1, o1, k1⟩ := ih1 ofs _ (r.set g (x := .running) trivial)
    obtain ⟨S2, r2, h2, o2, k2⟩ := ih2 o _ (r1.set g (okE_gen o1))
    refine ⟨S2, r2, .resumeSuspended hx h1 hq h2, o2, fun i hi => ?_⟩
    have ne : g ≠ i := fun z => ns (by rw [z]; exact hi)
    obtain ⟨a1, a2⟩ := Kp.set (S := S) g (x := .running) ns i hi
    obtain ⟨b1, b2⟩ := k1 i a2
    have c2 : Stk (s₁.setGen g e₁.genState) i := by
      obtain ⟨l', c', p', fs', cl', e'⟩ := b2
      exact ⟨l', c', p', fs', cl', by rw [get_set, if_neg ne]; exact e'⟩
    obtain ⟨d1, d2⟩ := k2 i c2
    refine ⟨?_, d2⟩
    rw [d1, get_set, if_neg ne, b1, a1]
  | resumeJustStarted hg hv _ ih =>
    intro o S r
    obtain ⟨x, hx, _, hp⟩ := Gp.look r hg
    obtain ⟨S', r', h', o', k'⟩ := ih o S r
    cases hp with
    | eq _ => exact ⟨S', r', .resumeJustStarted hx hv h', o', k'⟩
  | resumeThrowFresh hg _ ih =>
    intro o S r
    obtain ⟨x, hx, _, hp⟩ := Gp.look r hg
    have ns := stk_fresh hg
    obtain ⟨S', r', h', o', k'⟩ := ih o _ (r.set _ (x := .finished) trivial)
    cases hp with
    | eq _ => exact ⟨S', r', .resumeThrowFresh hx h', o', (Kp.set _ ns).trans k'⟩
  | resumeRunning hg _ ih =>
    intro o S r
    obtain ⟨x, hx, _, hp⟩ := Gp.look r hg
    obtain ⟨S', r', h', o', k'⟩ := ih o S r
    cases hp with
    | eq _ => exact ⟨S', r', .resumeRunning hx h', o', k'⟩
  | resumeFinished hg _ ih =>
    intro o S r
    obtain ⟨x, hx, _, hp⟩ := Gp.look r hg
    obtain ⟨S', r', h', o', k'⟩ := ih o S r
    cases hp with
    | eq _ => exact ⟨S', r', .resumeFinished hx h', o', k'⟩
  | segRet _ _ ih1 ih2 =>
    intro o S r
    obtain ⟨S1, r1, h1, o1, k1⟩ := ih1 rfl S r
    obtain ⟨S2, r2, h2, o2, k2⟩ := ih2 (okFs_ret.mp o) S1 r1
    exact ⟨S2, r2, .segRet h1 h2, o2, k1.trans k2⟩
  | segGen => intro o; simp [okFs, splitAtGen] at o
  | segSuspOut hs _ ih =>
    intro o S r
    obtain ⟨S1, r1, h1, o1, k1⟩ := ih rfl S r
    exact ⟨S1, r1, .segSuspOut hs h1, okFs_app o1 o, k1⟩
  | segSuspGen hs => intro o; rw [okFs, hs] at o; cases o
end Tg

set_option Elab.async false
set_option linter.all false
set_option maxRecDepth 100000
set_option maxHeartbeats 4000000
namespace Tg
open PySem PyProof.Rows
open Sem (wp)
theorem wakes_frame {M : Model} {Γ : Ctx} {p : Pos} {g : Nat} {r : Resume} {T T' : Shared} {res : GenResult} (h : Wakes M Γ p g r T res T') : ∀ S, Rl S T → ∃ S', Rl S' T' ∧ Wakes M Γ p g r S res S' ∧ Kp S T S' T' := by
  intro S rl
  unfold Wakes at h
  split at h
  · exact h.elim
  · rename_i c hg
    obtain ⟨x, hx, _, hp⟩ := Gp.look rl hg
    have ex : x = .fresh c := by cases hp; rfl
    subst ex
    have ns := stk_fresh hg
    split at h
    · obtain ⟨e₁, s₁, hr, hq, rfl, rfl⟩ := h
      obtain ⟨S1, r1, h1, o1, k1⟩ := runs_frame hr rfl _ (rl.set g (x := .running) trivial)
      refine ⟨S1.setGen g e₁.genState, r1.set g (okE_gen o1), ?_, fun i hi => ?_⟩
      · unfold Wakes
        rw [hx]
        exact ⟨e₁, S1, h1, hq, rfl, rfl⟩
      · have ne : g ≠ i := fun z => ns (by rw [z]; exact hi)
        obtain ⟨a1, a2⟩ := Kp.set (S := S) g (x := .running) ns i hi
        obtain ⟨b1, b2⟩ := k1 i a2
        obtain ⟨l', c', p', fs', cl', e'⟩ := b2
        exact ⟨by rw [get_set, if_neg ne, b1, a1], l', c', p', fs', cl', by rw [get_set, if_neg ne]; exact e'⟩
    · obtain ⟨rfl, rfl⟩ := h
      refine ⟨S, rl, ?_, Kp.refl _ _⟩
      rename_i v hv
      unfold Wakes
      rw [hx]
      cases v <;> first | exact ⟨rfl, rfl⟩ | exact absurd rfl hv
    · obtain ⟨rfl, rfl⟩ := h
      refine ⟨S.setGen g .finished, rl.set g trivial, ?_, Kp.set g ns⟩
      unfold Wakes
      rw [hx]
      exact ⟨rfl, rfl⟩
  · rename_i k₀ l₀ c₀ p₀ fs cl hg
    obtain ⟨x, hx, _, hp⟩ := Gp.look rl hg
    obtain ⟨e₁, s₁, hr, hq, rfl, rfl⟩ := h
    have nk : k₀ ≠ stuckK := fun z => by subst z; exact no_unsup hr "" rfl
    have ns : ¬ Stk T g := fun ⟨_, _, _, _, _, z⟩ => by rw [hg] at z; cases z; exact nk rfl
    have hh : x = .suspended k₀ l₀ c₀ p₀ fs cl ∧ okFs fs := by
      cases hp with
      | eq hx => exact ⟨rfl, hx⟩
      | stk => exact absurd rfl nk
    obtain ⟨rfl, ofs⟩ := hh
    obtain ⟨S1, r1, h1, o1, k1⟩ := runs_frame hr ofs _ (rl.set g (x := .running) trivial)
    refine ⟨S1.setGen g e₁.genState, r1.set g (okE_gen o1), ?_, fun i hi => ?_⟩
    · unfold Wakes
      rw [hx]
      exact ⟨e₁, S1, h1, hq, rfl, rfl⟩
    · have ne : g ≠ i := fun z => ns (by rw [z]; exact hi)
      obtain ⟨a1, a2⟩ := Kp.set (S := S) g (x := .running) ns i hi
      obtain ⟨b1, b2⟩ := k1 i a2
      obtain ⟨l', c', p', fs', cl', e'⟩ := b2
      exact ⟨by rw [get_set, if_neg ne, b1, a1], l', c', p', fs', cl', by rw [get_set, if_neg ne]; exact e'⟩
  · rename_i hg
    obtain ⟨x, hx, _, hp⟩ := Gp.look rl hg
    obtain ⟨rfl, rfl⟩ := h
    refine ⟨S, rl, ?_, Kp.refl _ _⟩
    cases hp
    unfold Wakes
    rw [hx]
    exact ⟨rfl, rfl⟩
  · rename_i hg
    obtain ⟨x, hx, _, hp⟩ := Gp.look rl hg
    obtain ⟨rfl, rfl⟩ := h
    refine ⟨S, rl, ?_, Kp.refl _ _⟩
    cases hp
    unfold Wakes
    rw [hx]
    exact ⟨rfl, rfl⟩
/-- the same step, the sleeping ones as they are -/
noncomputable def Fm {β : Type} (S0 T0 : Shared) (Q : β → Pos → Shared → Prop) : β → Pos → Shared → Prop := fun a p S' => ∃ T', Rl S' T' ∧ Kp S0 T0 S' T' ∧ Q a p T'
theorem wp_frame {α : Type} (M : Model) (Γ : Ctx) (S0 T0 : Shared) (t : Sem α) : ∀ (Q : α → Pos → Shared → Prop) (E : Value → Pos → Shared → Prop) (p : Pos) (S T : Shared), Rl S T → Kp S0 T0 S T → wp M Γ t Q E p T → wp M Γ t (Fm S0 T0 Q) (Fm S0 T0 E) p S := by
  induction t with
  | pure a => intro Q E p S T r k h; exact ⟨T, r, k, h⟩
  | raise e => intro Q E p S T r k h; exact ⟨T, r, k, h⟩
  | unsupported _ => intro Q E p S T _ _ h; exact h
  | finish _ => intro Q E p S T _ _ h; exact h
  | rule _ kk ih => intro Q E p S T r k h; exact ih () Q E p S T r k h
  | «at» p' kk ih => intro Q E p S T r k h; exact ih () Q E p' S T r k h
  | load a _ kk ih => intro Q E p S T r k h; obtain ⟨o, ho, h⟩ := h; exact ⟨o, by rw [r.heap]; exact ho, ih o Q E p S T r k h⟩
  | update a _ f kk ih =>
    intro Q E p S T r k h
    exact ⟨by rw [r.heap]; exact h.1, ih () Q E p { S with heap := S.heap.update a f } { T with heap := T.heap.update a f } ⟨by show S.heap.update a f = T.heap.update a f; rw [r.heap], r.drawn, r.toks, r.os, r.size, r.at_⟩ k h.2⟩
  | loadIfAlive a kk ih =>
    intro Q E p S T r k h
    have := ih (T.heap.get? a) Q E p S T r k h
    show wp M Γ (kk (S.heap.get? a)) _ _ p S
    rw [r.heap]; exact this
  | point _ kk ih => intro Q E p S T r k h; exact ih () Q E p S T r k h
  | register _ _ => intro Q E p S T _ _ h; exact h
  | alloc o kk ih =>
    intro Q E p S T r k h
    have := ih T.heap.objs.size Q E p { S with heap := S.heap.push o } { T with heap := T.heap.push o } ⟨by show S.heap.push o = T.heap.push o; rw [r.heap], r.drawn, r.toks, r.os, r.size, r.at_⟩ k h
    show wp M Γ (kk S.heap.objs.size) _ _ p { S with heap := S.heap.push o }
    rw [show kk S.heap.objs.size = kk T.heap.objs.size by rw [r.heap]]
    exact this
  | fresh kk ih =>
    intro Q E p S T r k h
    have := ih T.toks Q E p { S with toks := S.toks + 1 } { T with toks := T.toks + 1 } ⟨r.heap, r.drawn, by show S.toks + 1 = T.toks + 1; rw [r.toks], r.os, r.size, r.at_⟩ k h
    show wp M Γ (kk S.toks) _ _ p { S with toks := S.toks + 1 }
    rw [show kk S.toks = kk T.toks by rw [r.toks]]
    exact this
  | ask kk ih => intro Q E p S T r k h; exact ih _ Q E p S T r k h
  | choose src m kk ih =>
    intro Q E p S T r k h
    have := ih (M.w.draws src (T.drawn.get src) % m) Q E p { S with drawn := S.drawn.bump src } { T with drawn := T.drawn.bump src } ⟨r.heap, by show S.drawn.bump src = T.drawn.bump src; rw [r.drawn], r.toks, r.os, r.size, r.at_⟩ k h.2
    refine ⟨h.1, ?_⟩
    show wp M Γ (kk (M.w.draws src (S.drawn.get src) % m)) _ _ p _
    rw [show kk (M.w.draws src (S.drawn.get src) % m) = kk (M.w.draws src (T.drawn.get src) % m) by rw [r.drawn]]
    exact this
  | os q _ kk ih =>
    intro Q E p S T r k h
    have := ih (Os.step T.os q).2 Q E p { S with os := (Os.step S.os q).1 } { T with os := (Os.step T.os q).1 } ⟨r.heap, r.drawn, r.toks, by show (Os.step S.os q).1 = (Os.step T.os q).1; rw [r.os], r.size, r.at_⟩ k h
    show wp M Γ (kk (Os.step S.os q).2) _ _ p _
    rw [show kk (Os.step S.os q).2 = kk (Os.step T.os q).2 by rw [r.os]]
    exact this
  | call c hd _ _ kk ih =>
    intro Q E p S T r k h
    obtain ⟨res, T1, hr, h⟩ := h
    obtain ⟨S1, r1, h1, _, k1⟩ := runs_frame hr rfl S r
    exact ⟨res, S1, h1, ih res Q E p S1 T1 r1 (k.trans k1) h⟩
  | handled own kk ih => intro Q E p S T r k h; exact ih _ Q E p S T r k h
  | genState g kk ih =>
    intro Q E p S T r k h
    obtain ⟨st, hs, h⟩ := h
    obtain ⟨x, hx, he, _⟩ := Gp.look r hs
    exact ⟨x, hx, by rw [he]; exact ih _ Q E p S T r k h⟩
  | newGen c kk ih =>
    intro Q E p S T r k h
    have := ih T.gens.size Q E p { S with gens := S.gens.push (.fresh c) } { T with gens := T.gens.push (.fresh c) } ⟨r.heap, r.drawn, r.toks, r.os, by show (S.gens.push _).size = (T.gens.push _).size; rw [Array.size_push, Array.size_push, r.size], fun i => by
      show Gp (S.gens.push _)[i]? (T.gens.push _)[i]?
      rw [Array.getElem?_push, Array.getElem?_push, r.size]
      split
      · exact .eq trivial
      · exact r.at_ i⟩ (k.trans fun i hi => by
        obtain ⟨l, cc, pp, ff, cl, ei⟩ := hi
        have hlt : i < T.gens.size := (Array.getElem?_eq_some_iff.mp ei).1
        refine ⟨?_, l, cc, pp, ff, cl, by show (T.gens.push _)[i]? = _; rw [Array.getElem?_push, if_neg (by omega)]; exact ei⟩
        show (S.gens.push _)[i]? = _
        rw [Array.getElem?_push, if_neg (by rw [r.size]; omega)]) h
    show wp M Γ (kk S.gens.size) _ _ p _
    rw [show kk S.gens.size = kk T.gens.size by rw [r.size]]
    exact this
  | resume g rr _ kk ih =>
    intro Q E p S T r k h
    obtain ⟨res, T1, hw, h⟩ := h
    obtain ⟨S1, r1, h1, k1⟩ := wakes_frame hw S r
    exact ⟨res, S1, h1, ih res Q E p S1 T1 r1 (k.trans k1) h⟩
  | yield _ _ _ _ => intro Q E p S T _ _ h; exact h
  | stack kk ih => intro Q E p S T r k h; exact ih _ Q E p S T r k h
  | fork _ _ => intro Q E p S T _ _ h; exact h
  | thread kk ih => intro Q E p S T r k h; exact ih _ Q E p S T r k h
  | await _ _ _ _ _ => intro Q E p S T _ _ h; exact h
/-- all that sleep, put so that they cannot be woken -/
noncomputable def killG : GenState → GenState
  | .suspended _ l c p fs cl => .suspended stuckK l c p fs cl
  | x => x
noncomputable def killS (s : Shared) : Shared := { s with gens := s.gens.map killG }
theorem rl_kill (s : Shared) : Rl s (killS s) where
  heap := rfl
  drawn := rfl
  toks := rfl
  os := rfl
  size := by show _ = (s.gens.map killG).size; simp
  at_ := fun i => by
    show Gp s.gens[i]? (s.gens.map killG)[i]?
    rw [Array.getElem?_map]
    cases h : s.gens[i]? with
    | none => exact .non
    | some x => cases x <;> first | exact .stk | exact .eq trivial
theorem bare_rl {S T : Shared} (r : Rl S T) (h : AllBare T.gens) : AllBare S.gens := fun y hy => by
  obtain ⟨i, hi, e⟩ := Array.mem_iff_getElem.mp hy
  have q := r.at_ i
  rw [Array.getElem?_eq_getElem hi, e] at q
  cases ht : T.gens[i]? with
  | none => rw [ht] at q; cases q
  | some x =>
    rw [ht] at q
    have b := h x (Array.mem_of_getElem? ht)
    cases q with
    | eq _ => exact b
    | stk => exact b
theorem bare_kill {s : Shared} (h : AllBare s.gens) : AllBare (killS s).gens := fun y hy => by
  obtain ⟨i, hi, e⟩ := Array.mem_iff_getElem.mp hy
  have hi' : i < s.gens.size := by simpa [killS] using hi
  have e2 : (killS s).gens[i]? = some (killG s.gens[i]) := by
    show (s.gens.map killG)[i]? = _
    rw [Array.getElem?_map, Array.getElem?_eq_getElem hi']
    rfl
  rw [Array.getElem?_eq_getElem hi, e] at e2
  have e3 := Option.some.inj e2
  have b := h _ (Array.getElem_mem hi')
  rw [e3]
  revert b
  cases s.gens[i] <;> exact id
noncomputable def isSusp : GenState → Bool
  | .suspended .. => true
  | _ => false
/-- what is done without waking a sleeping generator leaves it as it is -/
theorem wpAny_keep {α : Type} {M : Model} {A : Around} {t : Sem α} {Q : α → Shared → Prop} {E : Value → Shared → Prop} {s : Shared} (h : wpAny M A t Q (fun _ _ => False) (killS s)) :
    wpAny M A t (fun a s' => (∀ (g : Nat) (x : GenState), s.gens[g]? = some x → isSusp x = true → s'.gens[g]? = some x) ∧ ∃ T', Q a T' ∧ s'.heap = T'.heap ∧ s'.os = T'.os ∧ (AllBare T'.gens → AllBare s'.gens)) E s := by
  intro Γ p hΓ
  have := wp_frame M Γ s (killS s) t _ _ p s (killS s) (rl_kill s) (Kp.refl _ _) (h Γ p hΓ)
  refine Sem.wp_mono M Γ t ?_ ?_ p s this
  · rintro a p' s' ⟨T', r, k, q⟩
    refine ⟨fun g x hx hs => ?_, T', q, r.heap, r.os, bare_rl r⟩
    rw [(k g ?_).1]
    · exact hx
    · cases x with
      | suspended k l c p fs cl =>
        refine ⟨l, c, p, fs, cl, ?_⟩
        show (s.gens.map killG)[g]? = _
        rw [Array.getElem?_map, hx]
        rfl
      | _ => cases hs
  · rintro e p' s' ⟨T', _, _, q⟩
    exact q.elim
end Tg

set_option Elab.async false
set_option linter.all false
set_option maxRecDepth 100000
set_option maxHeartbeats 4000000
namespace Tg
open PySem PySem.Spec PyProof.Rows L2 Td GenW
open Sem (wp)
/-! ### a run up to the next stop -/
noncomputable def SegW (M : Model) (A : Around) (Φ : End → Shared → Prop) (c : Code) (t : Sem PySem.Fin) (fs : List Frame) (s : Shared) : Prop :=
  ∀ Γ p, Γ.code = c → Γ.Woken A → ∃ e s', Runs M Γ p t fs s e s' ∧ Φ e s'
section
variable {M : Model} {A : Around} {Φ : End → Shared → Prop} {c : Code} {fs : List Frame} {s : Shared}
theorem segw_wrap {α : Type} {m : Sem α} {K : α → Sem PySem.Fin} {H : Value → Sem PySem.Fin} {gd : Bool → Bool} {lv : List Value → List Value}
    (h : wpAny M (A.over c fs) m (fun a s' => SegW M A Φ c (K a) fs s') (fun x s' => SegW M A Φ c (H x) fs s') s) : SegW M A Φ c (m.wrap K H gd lv) fs s := by
  rintro Γ p rfl hΓ
  exact runs_wrap_of_wp K H gd lv m (h (Γ.over fs) p (hΓ.over fs)) (fun a p' s' h' => h' Γ p' rfl hΓ) (fun x p' s' h' => h' Γ p' rfl hΓ)
theorem segw_at {p' : Pos} {k : Unit → Sem PySem.Fin} (h : SegW M A Φ c (k ()) fs s) : SegW M A Φ c (.at p' k) fs s :=
  segw_wrap (m := standAt p') (K := k) (H := .raise) (gd := id) (lv := id) (wpAny_standAt h)
theorem segw_point {l : List Value} {k : Unit → Sem PySem.Fin} (h : SegW M A Φ c (k ()) fs s) : SegW M A Φ c (.point l k) fs s :=
  segw_wrap (m := point) (K := k) (H := .raise) (gd := id) (lv := fun _ => l) (wpAny_point h)
theorem segw_call {c' : Code} {h : Option Value} {g : Bool} {l : List Value} {k : Result → Sem PySem.Fin} (hc : ∀ p, SegW M A Φ c' (M.den c') (.ret k h g l c p [] :: fs) s) : SegW M A Φ c (.call c' h g l k) fs s := by
  rintro Γ p rfl hΓ
  obtain ⟨e, s', hr, he⟩ := hc p (Γ.goto c') p rfl (hΓ.goto c')
  exact ⟨e, s', runs_call_seg hr, he⟩
theorem segw_leaf {k : Result → Sem PySem.Fin} {h : Option Value} {g : Bool} {l : List Value} {c₁ : Code} {p₁ : Pos} {kp : List Value} (r : Result) (hk : SegW M A Φ c₁ (k r) fs s) : SegW M A Φ c (leafOf r) (.ret k h g l c₁ p₁ kp :: fs) s := by
  rintro Γ p rfl hΓ
  obtain ⟨e, s', hr, he⟩ := hk (Γ.goto c₁) p₁ rfl (hΓ.goto c₁)
  exact ⟨e, s', Runs.pop r hr, he⟩
theorem segw_again {c' : Code} (hq : c'.quiet = true) (hc : SegW M A Φ c' (M.den c') fs s) : SegW M A Φ c (.pure (.again c')) fs s := by
  rintro Γ p rfl hΓ
  obtain ⟨e, s', hr, he⟩ := hc (Γ.goto c') p rfl (hΓ.goto c')
  exact ⟨e, s', Runs.head (c₁ := c') (fun _ _ x => .again hq x) hr, he⟩
theorem segw_end (r : Result) (h : Φ (.ret r) s) : SegW M A Φ c (leafOf r) [] s := by
  rintro Γ p rfl _
  exact ⟨.ret r, s, Runs.leaf r, h⟩
theorem segw_yield {v : Value} {g : Bool} {l : List Value} {k : Resume → Sem PySem.Fin} (hfs : splitAtGen fs = none) (hg : g = false) (h : ∀ p, Φ (.susp v false l k c p fs) s) : SegW M A Φ c (.yield v g l k) fs s := by
  subst hg
  rintro Γ p rfl _
  exact ⟨_, s, Runs.yield' fs hfs, h p⟩
end
/-! ### readings of generators -/
inductive Og where
  | nx (ρ : Ev) (w : Ws) (ys : List PyData)
  | rt (w : Ws) (ys : List PyData)
  | bk (ρ : Ev) (w : Ws) (ys : List PyData)
  | ct (ρ : Ev) (w : Ws) (ys : List PyData)
  | no
noncomputable abbrev FGn := Ev → Ws → List PyData → Og
noncomputable def gPl (f : FS) : FGn := fun ρ w ys => match f ρ w with
  | .nx ρ1 w1 => .nx ρ1 w1 ys
  | .rt _ w1 => .rt w1 ys
  | .bk ρ1 w1 => .bk ρ1 w1 ys
  | .ct ρ1 w1 => .ct ρ1 w1 ys
  | _ => .no
/-- lists and dicts alone -/
noncomputable def plainOb : Ob → Bool
  | .lst _ => true
  | .dK _ => true
  | _ => false
noncomputable def gYd (f : FE) : FGn := fun ρ w ys => match f ρ w with
  | .ok d w1 => cond (bnd 0 d && w1.all plainOb) (.nx ρ w1 (ys ++ [d])) .no
  | _ => .no
noncomputable def gNil : FGn := fun ρ w ys => .nx ρ w ys
noncomputable def gSq (f k : FGn) : FGn := fun ρ w ys => match f ρ w ys with
  | .nx ρ1 w1 ys1 => k ρ1 w1 ys1
  | o => o
/-- what is wanted behind a statement -/
structure GE where
  nx : Ev → Ws → List PyData → Prop
  rt : Ws → List PyData → Prop
  bk : Ev → Ws → List PyData → Prop
  ct : Ev → Ws → List PyData → Prop
noncomputable def wish (D : GE) : Og → Prop
  | .nx ρ w ys => D.nx ρ w ys
  | .rt w ys => D.rt w ys
  | .bk ρ w ys => D.bk ρ w ys
  | .ct ρ w ys => D.ct ρ w ys
  | .no => False
/-- what is out stands at the head of L -/
structure Pre (L : List PyData) (D : GE) : Prop where
  nx : ∀ ρ w ys, D.nx ρ w ys → ys <+: L
  bk : ∀ ρ w ys, D.bk ρ w ys → ys <+: L
  ct : ∀ ρ w ys, D.ct ρ w ys → ys <+: L
  rt : ∀ w ys, D.rt w ys → ys <+: L
/-- nothing that is out is taken back -/
noncomputable def appO (ys : List PyData) : Og → Prop
  | .nx _ _ y => ys <+: y
  | .rt _ y => ys <+: y
  | .bk _ _ y => ys <+: y
  | .ct _ _ y => ys <+: y
  | .no => True
noncomputable def App (f : FGn) : Prop := ∀ ρ w ys, appO ys (f ρ w ys)
theorem appO.trans {ys zs : List PyData} (h : ys <+: zs) : ∀ {o : Og}, appO zs o → appO ys o
  | .nx _ _ _, q => h.trans q
  | .rt _ _, q => h.trans q
  | .bk _ _ _, q => h.trans q
  | .ct _ _ _, q => h.trans q
  | .no, q => q
theorem App.pre {f : FGn} (a : App f) {L : List PyData} {D : GE} (p : Pre L D) {ρ : Ev} {w : Ws} {ys : List PyData} (h : wish D (f ρ w ys)) : ys <+: L := by
  have q := a ρ w ys
  cases e : f ρ w ys with
  | nx ρ1 w1 y => rw [e] at h q; exact List.IsPrefix.trans q (p.nx _ _ _ h)
  | rt w1 y => rw [e] at h q; exact List.IsPrefix.trans q (p.rt _ _ h)
  | bk ρ1 w1 y => rw [e] at h q; exact List.IsPrefix.trans q (p.bk _ _ _ h)
  | ct ρ1 w1 y => rw [e] at h q; exact List.IsPrefix.trans q (p.ct _ _ _ h)
  | no => rw [e] at h; exact h.elim
theorem app_pl (f : FS) : App (gPl f) := fun ρ w ys => by
  unfold gPl
  cases f ρ w <;> first | exact List.prefix_rfl | trivial
theorem app_yd (f : FE) : App (gYd f) := fun ρ w ys => by
  unfold gYd
  cases f ρ w with
  | ok d w1 =>
    simp only
    cases bnd 0 d && w1.all plainOb with
    | true => exact List.prefix_append _ _
    | false => trivial
  | _ => trivial
theorem app_nil : App gNil := fun ρ w ys => List.prefix_rfl
theorem app_sq {f k : FGn} (a : App f) (b : App k) : App (gSq f k) := fun ρ w ys => by
  unfold gSq
  have q := a ρ w ys
  cases e : f ρ w ys with
  | nx ρ1 w1 y => rw [e] at q; exact appO.trans q (b _ _ _)
  | rt w1 y => rw [e] at q; exact q
  | bk ρ1 w1 y => rw [e] at q; exact q
  | ct ρ1 w1 y => rw [e] at q; exact q
  | no => trivial
/-! ### the generator's frame -/
structure GCx where
  P : Program
  w : World
  K : PySem.W.Frag
  mg : Str → Option Value
  base : Heap
  N : List Str
  qual : Str
  scope : Scope
  f : Addr
  cd : Value
  outer : List Env
  A : Around
  n0 : Nat
  pn : List (Addr × Obj)
noncomputable def GCx.env (c : GCx) : Env := envOfC c.qual c.scope c.n0 c.f c.cd
noncomputable def GCx.X (c : GCx) (s : Shared) (H : Hp) (q : List (Addr × Obj)) : Cx where
  prog := c.P
  w := c.w
  K := c.K
  mg := c.mg
  base := c.base
  A := c.A.deeper c.env
  N := c.N
  s_0 := s
  H_0 := H
  env := c.env
  outer := c.outer
  stack := c.env :: c.outer
  ex := []
  fn := fun _ => true
  calm := true
  pn := c.pn ++ q
  xe := fun _ _ => False
/-- where a stretch between two stops began -/
structure Sg where
  s : Shared
  H : Hp
  g : Gd
  pn : List (Addr × Obj)
structure Gs (c : GCx) (ip : List (Addr × Obj)) (b : Sg) (g : Gd) (ρ : Ev) (w : Ws) (σ : L2.St) (H : Hp) (s : Shared) : Prop where
  inv : Inv (c.X b.s b.H b.pn) ip σ H s
  rp : Rp g H w
  en : EnR g σ ρ
  k : g.K = c.K
  x : Xt b.g g
  lo : ∀ p ∈ c.pn ++ ip, c.n0 ≤ p.1 ∧ ∀ q ∈ b.pn, q.1 ≠ p.1
  sz : b.s.heap.objs.size = c.n0 ∧ True
noncomputable abbrev PhT := List PyData → Sg → End → Shared → Prop
noncomputable def Yields (c : GCx) (L : List PyData) (Ph : PhT) : Prop :=
  ∀ (ys : List PyData) (b : Sg) (ip : List (Addr × Obj)) (g : Gd) (ρ : Ev) (w : Ws) (σ : L2.St) (H : Hp) (s : Shared) (d : PyData) (x : V) (v : Value) (l : List Value) (k : Resume → Sem PySem.Fin) (code : Code) (p : Pos) (fs : List Frame),
    Gs c ip b g ρ w σ H s → RelV x v → Dq g x d → bnd 0 d = true → w.all plainOb = true → ys ++ [d] <+: L → splitAtGen fs = none → fs.any Frame.guarded = false →
    (∀ b' g' H' s', Xt0 g g' → Gs c ip b' g' ρ w σ H' s' → SegW (model c.P c.w) c.A (Ph (ys ++ [d]) b') code (k (.send .none)) fs s') → Ph ys b (.susp v false l k code p fs) s
structure GC (c : GCx) (code : Code) (fs : List Frame) (gd : Bool → Bool) : Prop where
  over : c.A.over code fs = c.A.deeper c.env
  split : splitAtGen fs = none
  guard : fs.any Frame.guarded = false
  gd : gd false = false
noncomputable def GP (c : GCx) (ip : List (Addr × Obj)) (D : GE) (g0 : Gd) (ys : List PyData) (b : Sg) (s : Shared) : Flow → Prop
  | .next => ∃ g ρ w σ H, Xt0 g0 g ∧ Gs c ip b g ρ w σ H s ∧ D.nx ρ w ys
  | .brk => ∃ g ρ w σ H, Xt0 g0 g ∧ Gs c ip b g ρ w σ H s ∧ D.bk ρ w ys
  | .cont => ∃ g ρ w σ H, Xt0 g0 g ∧ Gs c ip b g ρ w σ H s ∧ D.ct ρ w ys
  | .ret _ => ∃ g ρ w σ H, Xt0 g0 g ∧ Gs c ip b g ρ w σ H s ∧ D.rt w ys
noncomputable def GK (c : GCx) (Ph : PhT) (ip : List (Addr × Obj)) (code : Code) (fs : List Frame) (K : Flow → Sem PySem.Fin) (D : GE) (g0 : Gd) : Prop :=
  ∀ (ys : List PyData) (b : Sg) (s : Shared) (f : Flow), GP c ip D g0 ys b s f → SegW (model c.P c.w) c.A (Ph ys b) code (K f) fs s
noncomputable def GRun (c : GCx) (t : (Flow → Sem PySem.Fin) → (Value → Sem PySem.Fin) → (Bool → Bool) → (List Value → List Value) → Sem PySem.Fin) (f : FGn) : Prop :=
  ∀ (L : List PyData) (Ph : PhT), Yields c L Ph → ∀ (ip : List (Addr × Obj)) (code : Code) (fs : List Frame) (K : Flow → Sem PySem.Fin) (J : Value → Sem PySem.Fin) (gd : Bool → Bool) (lv : List Value → List Value) (D : GE) (ys : List PyData) (b : Sg) (g : Gd) (ρ : Ev) (w : Ws) (σ : L2.St) (H : Hp) (s : Shared),
    GC c code fs gd → Pre L D → GK c Ph ip code fs K D g → Gs c ip b g ρ w σ H s → wish D (f ρ w ys) → SegW (model c.P c.w) c.A (Ph ys b) code (t K J gd lv) fs s
noncomputable def GJ (c : GCx) (st : Stmt) (f : FGn) : Prop := GRun c (fun K J gd lv => (exec st c.env).wrap K J gd lv) f
noncomputable def GJs (c : GCx) (st : List Stmt) (f : FGn) : Prop := GRun c (fun K J gd lv => (execs st c.env).wrap K J gd lv) f
variable {c : GCx}
/-- a statement without yield -/
theorem gj_pl {st : Stmt} {f : FS} (h : ∀ s H q, PSf (c.X s H q) W0 st f) : GJ c st (gPl f) := by
  intro L Ph hY ip code fs K J gd lv D ys b g ρ w σ H s gc pre gk st' hw
  refine segw_wrap ?_
  rw [gc.over]
  have hK : g.K = (c.X b.s b.H b.pn).K := st'.k
  have key := (h b.s b.H b.pn).run ip s σ H { nx := fun σ' H' => ∃ g' ρ' w', Xt g g' ∧ Rp g' H' w' ∧ EnR g' σ' ρ' ∧ D.nx ρ' w' ys, rt := fun _ H' => ∃ g' w', Xt g g' ∧ Rp g' H' w' ∧ D.rt w' ys, bk := fun σ' H' => ∃ g' ρ' w', Xt g g' ∧ Rp g' H' w' ∧ EnR g' σ' ρ' ∧ D.bk ρ' w' ys, ct := fun σ' H' => ∃ g' ρ' w', Xt g g' ∧ Rp g' H' w' ∧ EnR g' σ' ρ' ∧ D.ct ρ' w' ys } st'.inv
    ⟨g, ρ, w, hK, st'.rp, st'.en, by
      unfold gPl at hw
      cases e : f ρ w with
      | nx ρ1 w1 => rw [e] at hw; exact fun σ' H' g' x r e' => ⟨g', ρ1, w1, x, r, e', hw⟩
      | rt d w1 => rw [e] at hw; exact fun v H' g' x r _ => ⟨g', w1, x, r, hw⟩
      | bk ρ1 w1 => rw [e] at hw; exact fun σ' H' g' x r e' => ⟨g', ρ1, w1, x, r, e', hw⟩
      | ct ρ1 w1 => rw [e] at hw; exact fun σ' H' g' x r e' => ⟨g', ρ1, w1, x, r, e', hw⟩
      | ex ρ1 c0 f0 w1 => rw [e] at hw; exact hw.elim
      | no => rw [e] at hw; exact hw.elim⟩
  refine wpAny_mono key (fun fl s' hs => gk ys b s' fl ?_) fun x s' hx => hx.elim
  cases fl with
  | next => obtain ⟨σ', H', I', g', ρ', w', x', r', e', q⟩ := hs; exact ⟨g', ρ', w', σ', H', x'.toXt0, ⟨I', r', e', x'.k.trans st'.k, st'.x.trans x', st'.lo, st'.sz⟩, q⟩
  | brk => obtain ⟨σ', H', I', g', ρ', w', x', r', e', q⟩ := hs; exact ⟨g', ρ', w', σ', H', x'.toXt0, ⟨I', r', e', x'.k.trans st'.k, st'.x.trans x', st'.lo, st'.sz⟩, q⟩
  | cont => obtain ⟨σ', H', I', g', ρ', w', x', r', e', q⟩ := hs; exact ⟨g', ρ', w', σ', H', x'.toXt0, ⟨I', r', e', x'.k.trans st'.k, st'.x.trans x', st'.lo, st'.sz⟩, q⟩
  | ret u =>
    obtain ⟨v, σ', H', I', rv, g', w', x', r', q⟩ := hs
    refine ⟨g', List.replicate σ'.length none, w', σ', H', x'.toXt0, ⟨I', r', ⟨by simp, fun i d e => ?_⟩, x'.k.trans st'.k, st'.x.trans x', st'.lo, st'.sz⟩, q⟩
    rw [List.getElem?_replicate] at e
    split at e <;> cases e
theorem GK.mono {Ph : PhT} {ip : List (Addr × Obj)} {code : Code} {fs : List Frame} {K : Flow → Sem PySem.Fin} {D : GE} {g0 g1 : Gd} (x : Xt0 g0 g1) (h : GK c Ph ip code fs K D g0) : GK c Ph ip code fs K D g1 := fun ys b s f hs => h ys b s f (by
  cases f with
  | next => obtain ⟨g, ρ, w, σ, H, y, q⟩ := hs; exact ⟨g, ρ, w, σ, H, x.trans y, q⟩
  | brk => obtain ⟨g, ρ, w, σ, H, y, q⟩ := hs; exact ⟨g, ρ, w, σ, H, x.trans y, q⟩
  | cont => obtain ⟨g, ρ, w, σ, H, y, q⟩ := hs; exact ⟨g, ρ, w, σ, H, x.trans y, q⟩
  | ret u => obtain ⟨g, ρ, w, σ, H, y, q⟩ := hs; exact ⟨g, ρ, w, σ, H, x.trans y, q⟩)
theorem gjs_nil : GJs c [] gNil := by
  intro L Ph hY ip code fs K J gd lv D ys b g ρ w σ H s gc pre gk st' hw
  exact gk ys b s .next ⟨g, ρ, w, σ, H, (Xt.refl g).toXt0, st', hw⟩
theorem gjs_cons {st : Stmt} {rest : List Stmt} {f k : FGn} (h1 : GJ c st f) (h2 : GJs c rest k) (hk : App k) : GJs c (st :: rest) (gSq f k) := by
  intro L Ph hY ip code fs K J gd lv D ys b g ρ w σ H s gc pre gk st' hw
  show SegW _ _ _ _ ((execs (st :: rest) c.env).wrap K J gd lv) fs s
  rw [execs_cons_wrap]
  refine h1 L Ph hY ip code fs _ J gd lv { D with nx := fun ρ w ys => wish D (k ρ w ys) } ys b g ρ w σ H s gc ⟨fun ρ w ys q => hk.pre pre q, pre.bk, pre.ct, pre.rt⟩ (fun ys' b' s' fl hs => ?_) st' ?_
  · cases fl with
    | next =>
      obtain ⟨g', ρ', w', σ', H', x1, q1, q2⟩ := hs
      exact h2 L Ph hY ip code fs K J gd lv D ys' b' g' ρ' w' σ' H' s' gc pre (gk.mono x1) q1 q2
    | brk => exact gk ys' b' s' .brk hs
    | cont => exact gk ys' b' s' .cont hs
    | ret u => exact gk ys' b' s' (.ret u) hs
  · unfold gSq at hw
    cases e : f ρ w ys with
    | nx ρ1 w1 ys1 => rw [e] at hw; exact hw
    | rt w1 ys1 => rw [e] at hw; exact hw
    | bk ρ1 w1 ys1 => rw [e] at hw; exact hw
    | ct ρ1 w1 ys1 => rw [e] at hw; exact hw
    | no => rw [e] at hw; exact hw
end Tg

set_option Elab.async false
set_option linter.all false
set_option maxRecDepth 100000
set_option maxHeartbeats 4000000
namespace Tg
open PySem PySem.Spec PyProof.Rows L2 Td GenW
open Sem (wp)
variable {c : GCx}
/-- yield e -/
theorem gj_yd {e : Expr} {yp pos : Pos} {f : FE} (h : ∀ s H q, PF (c.X s H q) W0 e f) (hco : c.env.scope.isCoroutine = false) (hi : interactive c.env = false := by rfl) : GJ c (.Expr (.Yield (some e) yp) pos) (gYd f) := by
  intro L Ph hY ip code fs K J gd lv D ys b g ρ w σ H s gc pre gk st' hw
  show SegW _ _ _ _ ((exec (.Expr (.Yield (some e) yp) pos) c.env).wrap K J gd lv) fs s
  rw [exec_Expr c.env _ pos hi rfl]
  show SegW _ _ _ _ (.at pos fun _ => ((eval e c.env >>= fun v => (standAt yp >>= fun _ => yieldOut c.env v)) >>= fun x => dropValue (.Yield (some e) yp) pos x).wrap K J gd lv) fs s
  have hy : ∀ v, yieldOut c.env v = yieldValue v := fun v => by simp only [yieldOut, hco, Bool.false_eq_true, if_false]
  simp only [hy]
  refine segw_at ?_
  rw [Sem.bind_eq_wrap', Sem.bind_eq_wrap', Sem.wrap_wrap, Sem.wrap_wrap]
  refine segw_wrap ?_
  rw [gc.over]
  have hK : g.K = (c.X b.s b.H b.pn).K := st'.k
  unfold gYd at hw
  cases ef : f ρ w with
  | ok d w1 =>
    rw [ef] at hw
    simp only at hw
    cases hb2 : bnd 0 d && w1.all plainOb with
    | false => rw [hb2] at hw; exact hw.elim
    | true =>
      rw [hb2] at hw
      have hb := ((Bool.and_eq_true _ _).mp hb2).1
      have hpl := ((Bool.and_eq_true _ _).mp hb2).2
      have hw : D.nx ρ w1 (ys ++ [d]) := hw
      have key := (h b.s b.H b.pn).run ip s σ H (fun x H' => ∃ g', Xt g g' ∧ Rp g' H' w1 ∧ Dq g' x d) st'.inv ⟨g, ρ, w, hK, st'.rp, st'.en, by
        rw [ef]
        exact fun v H' g' x r q => ⟨g', x, r, q⟩⟩
      refine wpAny_mono key (fun v s' hs => ?_) fun x s' hx => hx.elim
      obtain ⟨x, H', I', rv, g', xt, r', dq⟩ := hs
      refine segw_at (segw_yield gc.split gc.gd fun p => ?_)
      refine hY ys b ip g' ρ w1 σ H' s' d x v _ _ code p fs ⟨I', r', st'.en.mono xt.toXt0, xt.k.trans st'.k, st'.x.trans xt, st'.lo, st'.sz⟩ rv dq hb hpl (pre.nx _ _ _ hw) gc.split gc.guard fun b' g2 H2 s2 x2 st2 => ?_
      exact gk (ys ++ [d]) b' s2 .next ⟨g2, ρ, w1, σ, H2, xt.toXt0.trans x2, st2, hw⟩
  | ex c0 f0 w1 => rw [ef] at hw; exact hw.elim
  | no => rw [ef] at hw; exact hw.elim
/-! ### while -/
theorem gc_in {code code' : Code} {fs : List Frame} {gd : Bool → Bool} {k : Result → Sem PySem.Fin} {l kp : List Value} {p : Pos} (g : GC c code fs gd) (hw : code'.weight = 0) (hu : code'.cUnits = 0) : GC c code' (.ret k none (gd false) l code p kp :: fs) id where
  over := (over_loop hw hu).trans g.over
  split := by
    show (splitAtGen fs).map _ = none
    rw [g.split]; rfl
  guard := by
    show (gd false || fs.any Frame.guarded) = false
    rw [g.gd, g.guard]; rfl
  gd := rfl
section
variable {M : Model} {A : Around} {Φ : End → Shared → Prop} {cd : Code} {fs : List Frame} {s : Shared} {env : Env} {K : Flow → Sem PySem.Fin} {H : Value → Sem PySem.Fin} {gd : Bool → Bool} {lv : List Value → List Value}
theorem segw_func {prog : Program} {w : World} {body : List Stmt}
    (h : ∀ J, SegW (model prog w) A Φ (.func body env) ((execs body env).wrap (fun f => .pure (.done (.ret (match f with | .ret v => v | _ => .none)))) J id id) fs s) :
    SegW (model prog w) A Φ (.func body env) ((model prog w).den (.func body env)) fs s := by
  show SegW _ A Φ _ (.point [] fun _ => ((execs body env).onRaise (leaving env)) >>= _) fs s
  refine segw_point ?_
  rw [Sem.onRaise_eq_wrap, Sem.bind_eq_wrap', Sem.wrap_wrap]
  rw [Sem.wrap_congr (execs body env) _ _ (K' := fun f => .pure (.done (.ret (match f with | .ret v => v | _ => .none)))) (fun f => by cases f <;> rfl) (fun e => rfl)]
  exact h _
end
end Tg

set_option Elab.async false
set_option linter.all false
set_option maxRecDepth 100000
set_option maxHeartbeats 4000000
namespace Tg
open PySem PySem.Spec PyProof.Rows L2 Td GenW
/-! ### what stood before the generator -/
noncomputable def trunc (n : Nat) (s : Shared) : Shared := { s with heap := { s.heap with objs := s.heap.objs.extract 0 n } }
theorem trunc_size {n : Nat} {s : Shared} (h : n ≤ s.heap.objs.size) : (trunc n s).heap.objs.size = n := by
  show (s.heap.objs.extract 0 n).size = n
  simp; omega
theorem extract_get {α : Type} (xs : Array α) (n b : Nat) (h : b < n) : (xs.extract 0 n)[b]? = xs[b]? := by
  rw [Array.getElem?_extract]
  by_cases hb : b < xs.size
  · rw [if_pos (by omega)]; simp
  · rw [if_neg (by omega), Array.getElem?_eq_none (by omega)]
theorem trunc_get {n : Nat} {s : Shared} {b : Addr} (h : b < n) : (trunc n s).heap.get? b = s.heap.get? b := by
  show (match (s.heap.objs.extract 0 n)[b]? with | some ⟨_, _, .freed, _⟩ => none | o => o) = _
  rw [extract_get _ _ _ h]
  rfl
theorem trunc_some {n : Nat} {s : Shared} {b : Addr} {o : Obj} (hn : n ≤ s.heap.objs.size) (h : (trunc n s).heap.get? b = some o) : b < n ∧ s.heap.get? b = some o := by
  have hb : b < n := by have := Heap.lt_size h; rw [trunc_size hn] at this; exact this
  exact ⟨hb, by rw [← trunc_get hb]; exact h⟩
noncomputable def ownA (g : Gd) : List Addr := (List.range g.n).map g.μ
theorem mem_own {g : Gd} {a : Addr} : a ∈ ownA g ↔ ∃ l, l < g.n ∧ g.μ l = a := by simp [ownA]
theorem own_cell {g : Gd} {H : Hp} {w : Ws} (r : Rp g H w) (hw : w.all plainOb = true) {a : Addr} (h : a ∈ ownA g) : g.F a = none ∧ ∃ o, H a = some o ∧ ((∃ xs, o = .lst xs) ∨ ∃ ks, o = .dK ks) := by
  obtain ⟨l, hl, rfl⟩ := mem_own.mp h
  have hl' : l < w.length := by rw [← r.len]; exact hl
  have e : w[l]? = some w[l] := List.getElem?_eq_getElem hl'
  have c := r.cell l _ e
  have p := List.all_eq_true.mp hw w[l] (List.getElem_mem hl')
  cases hq : w[l] with
  | lst ds => rw [hq] at c; obtain ⟨hn, xs, hx, _⟩ := c; exact ⟨hn, _, hx, .inl ⟨_, rfl⟩⟩
  | dK ds => rw [hq] at c; obtain ⟨hn, xs, hx, _⟩ := c; exact ⟨hn, _, hx, .inr ⟨_, rfl⟩⟩
  | ins _ _ => rw [hq] at p; cases p
  | dead => rw [hq] at p; cases p
/-- the addresses of the frame's cells -/
noncomputable def cellA (c : GCx) : List Addr := c.env.cells.filterMap fun p => c.env.cells.lookup p.1
theorem mem_cellA {c : GCx} {a : Addr} : a ∈ cellA c ↔ ∃ x, c.env.cells.lookup x = some a := by
  unfold cellA
  rw [List.mem_filterMap]
  constructor
  · rintro ⟨p, _, e⟩; exact ⟨p.1, e⟩
  · rintro ⟨x, e⟩; exact ⟨(x, a), PySem.mem_of_lookup e, e⟩
/-- a cell of a sleeping frame, as it is -/
noncomputable def celO (a : Addr) (o : Obj) : HO := .ext fun h => h.get? a = some o
noncomputable def celP (cl : Addr → Option Obj) (P : Hp) : Hp := fun a => match cl a with
  | some o => some (celO a o)
  | none => P a
noncomputable def celG (g : Gd) (cl : Addr → Option Obj) : Gd := { g with P := celP cl g.P }
noncomputable def clOf (c : GCx) (h : Heap) : Addr → Option Obj := fun a => if a ∈ cellA c then h.get? a else none
theorem clOf_in {c : GCx} {h : Heap} {a : Addr} {o : Obj} (e : clOf c h a = some o) : a ∈ cellA c ∧ h.get? a = some o := by
  unfold clOf at e
  by_cases ha : a ∈ cellA c
  · rw [if_pos ha] at e; exact ⟨ha, e⟩
  · rw [if_neg ha] at e; cases e
theorem celO_ok {P : Program} {w : World} {H : Hp} {h : Heap} {a : Addr} {o : Obj} (e : h.get? a = some o) : ObjOk P w H h a (celO a o) := ⟨e, ⟨o, e⟩, fun _ _ p k => k o p⟩
theorem cel_to {g : Gd} {cl : Addr → Option Obj} : Xt0 g (celG g cl) := ⟨rfl, fun _ _ e => e, fun _ _ => rfl, Nat.le_refl _, rfl⟩
theorem cel_of {g : Gd} {cl : Addr → Option Obj} : Xt0 (celG g cl) g := ⟨rfl, fun _ _ e => e, fun _ _ => rfl, Nat.le_refl _, rfl⟩
theorem cel_split {g g' : Gd} {cl : Addr → Option Obj} (x : Xt (celG g cl) g') : ∃ h, g' = celG h cl ∧ Xt g h := by
  refine ⟨{ g' with P := g.P }, ?_, ⟨x.k, x.ex, x.at_, x.le, x.t⟩, rfl⟩
  have hp : g'.P = celP cl g.P := x.p
  obtain ⟨K, F, P, μ, n⟩ := g'
  simp only at hp
  subst hp
  rfl
theorem uncel {g : Gd} {cl : Addr → Option Obj} {H : Hp} {w : Ws} (r : Rp (celG g cl) H w) (h : ∀ a o, cl a = some o → g.P a = none) : Rp g H w where
  fro := r.fro
  len := r.len
  cell := fun l ob e => (r.cell l ob e).new (g := celG g cl) (g' := g) cel_of fun b hb => ⟨rfl, rfl⟩
  inj := r.inj
  pin := fun a u e => by
    refine r.pin a u ?_
    show celP cl g.P a = some u
    unfold celP
    cases q : cl a with
    | some o => rw [h a o q] at e; cases e
    | none => exact e
  tab := fun p hp => by
    obtain ⟨t1, t2, t3⟩ := r.tab p hp
    refine ⟨t1, t2, ?_⟩
    have t3 : celP cl g.P p.1 = none := t3
    unfold celP at t3
    cases q : cl p.1 with
    | some o => rw [q] at t3; cases t3
    | none => rw [q] at t3; exact t3
theorem celP_upd {cl : Addr → Option Obj} {P : Hp} {D : Addr} {o : HO} (h : cl D = none) : celP cl (upd P D o) = upd (celP cl P) D o := by
  funext a
  unfold celP
  by_cases hz : a = D
  · subst hz
    rw [h, upd_same, upd_same]
  · rw [upd_ne hz, upd_ne hz]
/-- what a generator's def asks -/
structure GOk (c : GCx) : Prop where
  kind : c.scope.kind = .function
  cellHi : ∀ a ∈ cellA c, c.n0 < a
  hd : c.A.handled = none
  frs : ∀ b ∈ L2.frs c.outer, b < c.n0
  bsz : c.base.objs.size ≤ c.n0
/-- what a sleeping generator wants to be kept -/
noncomputable def fpOf (c : GCx) (ip : List (Addr × Obj)) (g : Gd) : List Addr := c.n0 :: ((c.pn ++ ip).map (·.1) ++ ownA g)
/-- the heap that both know -/
noncomputable def joinH (own : List Addr) (H Hc : Hp) : Hp := fun a => if a ∈ own then H a else Hc a
noncomputable def tabA (K : PySem.W.Frag) : List Addr := (tabsL K).map (·.1)
noncomputable def pinC (c : GCx) (gc : Gd) (Hc : Hp) : Hp := fun a => if a ∈ tabA c.K ∨ a ∈ cellA c then none else match gc.F a with
  | none => Hc a
  | some _ => none
noncomputable def wakeG (c : GCx) (g gc : Gd) (Hc : Hp) : Gd := { K := c.K, F := gc.F, P := pinC c gc Hc, μ := g.μ, n := g.n }
noncomputable def wakeB (c : GCx) (g gc : Gd) (H Hc : Hp) (s : Shared) (q : List (Addr × Obj)) : Sg := ⟨trunc c.n0 s, joinH (ownA g ++ cellA c) H Hc, wakeG c g gc Hc, q⟩
structure Wk (c : GCx) (q : List (Addr × Obj)) (fp : List Addr) (h : Heap) (g gc : Gd) (Hc : Hp) (s : Shared) : Prop where
  e0 : Env0 c.P c.w c.K c.mg c.base c.A c.outer s Hc
  sz : c.n0 ≤ s.heap.objs.size
  at_ : ∀ a ∈ fp, Hc a = none ∧ ∀ o, h.get? a = some o → s.heap.get? a = some o
  fro : ∀ a o, gc.F a = some o → Hc a = some o
  ex : ∀ a o, g.F a = some o → gc.F a = some o
  tab : ∀ p ∈ tabsL c.K, TabF gc.F Hc p.1 p.2 ∧ gc.F p.1 = none
  cel : ∀ a ∈ cellA c, (∃ o, Hc a = some (celO a o)) ∧ gc.F a = none ∧ ∀ o, h.get? a = some o → s.heap.get? a = some o
  pn : ∀ p ∈ q, s.heap.get? p.1 = some p.2 ∧ Hc p.1 = none ∧ p.1 ∉ fp ∧ p.1 ∉ L2.frs c.outer ∧ ∀ v, p.2.data ≠ .cell v
theorem mid_mem {α : Type} {a b c : List α} {x : α} (h : x ∈ a ++ c) : x ∈ (a ++ b) ++ c := by
  rcases List.mem_append.mp h with h | h
  · exact List.mem_append_left _ (List.mem_append_left _ h)
  · exact List.mem_append_right _ h
theorem mid_cases {α : Type} {a b c : List α} {x : α} (h : x ∈ (a ++ b) ++ c) : x ∈ a ++ c ∨ x ∈ b := by
  rcases List.mem_append.mp h with h | h
  · rcases List.mem_append.mp h with h | h
    · exact .inl (List.mem_append_left _ h)
    · exact .inr h
  · exact .inl (List.mem_append_right _ h)
theorem funs_trunc {n : Nat} {s : Shared} {base : Heap} : ∀ {l : List Env}, (∀ b ∈ L2.frs l, b < n) → s.heap.FunFrames base l → (trunc n s).heap.FunFrames base l
  | [], _, _ => trivial
  | env :: l, hb, ⟨hk, ⟨L, o, hf, hn, ho, hd⟩, hr⟩ => by
    have e : L2.frs (env :: l) = L :: L2.frs l := by unfold L2.frs; rw [List.filterMap_cons, hf]
    rw [e] at hb
    exact ⟨hk, ⟨L, o, hf, hn, by rw [trunc_get (hb L List.mem_cons_self)]; exact ho, hd⟩, funs_trunc (fun b h => hb b (List.mem_cons_of_mem _ h)) hr⟩
theorem wake_ok {c : GCx} (ok : GOk c) {ip : List (Addr × Obj)} {b : Sg} {g : Gd} {ρ : Ev} {w : Ws} {σ : L2.St} {H : Hp} {s : Shared} (G : Gs c ip b g ρ w σ H s) (hw : w.all plainOb = true) {gc : Gd} {Hc : Hp} {s2 : Shared} {q : List (Addr × Obj)}
    (W : Wk c q (fpOf c ip g) s.heap g gc Hc s2) : Gs c ip (wakeB c g gc H Hc s2 q) (wakeG c g gc Hc) ρ w σ (joinH (ownA g ++ cellA c) H Hc) s2 := by
  have inOwn : ∀ {a}, a ∈ ownA g → a ∈ fpOf c ip g := fun h => List.mem_cons_of_mem _ (List.mem_append_right _ h)
  have cOwn : ∀ {a}, a ∈ ownA g → Hc a = none := fun h => (W.at_ _ (inOwn h)).1
  have nOwn : ∀ {a o}, Hc a = some o → a ∉ ownA g := fun {a o} e z => by rw [cOwn z] at e; cases e
  have jc : ∀ {a o}, a ∉ cellA c → Hc a = some o → joinH (ownA g ++ cellA c) H Hc a = some o := fun {a o} n e => by unfold joinH; rw [if_neg fun z => (List.mem_append.mp z).elim (nOwn e) n]; exact e
  have jo : ∀ {a}, a ∈ ownA g → joinH (ownA g ++ cellA c) H Hc a = H a := fun h => by unfold joinH; rw [if_pos (List.mem_append_left _ h)]
  have jcel : ∀ {a}, a ∈ cellA c → joinH (ownA g ++ cellA c) H Hc a = none := fun {a} h => by
    unfold joinH
    rw [if_pos (List.mem_append_right _ h)]
    obtain ⟨x, e⟩ := mem_cellA.mp h
    exact G.inv.freeC x a e
  have kindN : ∀ {a o}, Hc a = some o → (∀ φ, o ≠ .ext φ) → a ∉ cellA c := fun {a o} e n h => by
    obtain ⟨⟨o', e'⟩, _⟩ := W.cel a h
    rw [e] at e'
    exact n _ (Option.some.inj e')
  have fCel : ∀ {a o}, gc.F a = some o → a ∉ cellA c := fun {a o} e h => by rw [(W.cel a h).2.1] at e; cases e
  have jn : ∀ {a}, H a = none → Hc a = none → joinH (ownA g ++ cellA c) H Hc a = none := fun h1 h2 => by unfold joinH; split; exact h1; exact h2
  have x0 : Xt0 g (wakeG c g gc Hc) := ⟨G.k.symm ▸ rfl, W.ex, fun _ _ => rfl, Nat.le_refl _, G.k.symm⟩
  have rp : Rp (wakeG c g gc Hc) (joinH (ownA g ++ cellA c) H Hc) w := by
    refine ⟨fun a o e => jc (fCel e) (W.fro a o e), G.rp.len, fun l ob e => ?_, G.rp.inj, fun a o e => ?_, fun p hp => ?_⟩
    · have hl : l < g.n := by rw [G.rp.len]; exact (List.getElem?_eq_some_iff.mp e).1
      have ho : g.μ l ∈ ownA g := mem_own.mpr ⟨l, hl, rfl⟩
      have fn : gc.F (g.μ l) = none := by
        cases q : gc.F (g.μ l) with
        | none => rfl
        | some o => have := W.fro _ _ q; rw [cOwn ho] at this; cases this
      have cc := G.rp.cell l ob e
      have p := List.all_eq_true.mp hw ob (List.mem_of_getElem? e)
      cases ob with
      | lst ds => obtain ⟨_, xs, hx, d⟩ := cc; exact ⟨fn, xs, (jo ho).trans hx, d.mono x0 _ _⟩
      | dK ds => obtain ⟨_, xs, hx, d⟩ := cc; exact ⟨fn, xs, (jo ho).trans hx, d.mono x0⟩
      | ins _ _ => cases p
      | dead => cases p
    · have e : pinC c gc Hc a = some o := e
      unfold pinC at e
      by_cases ht : a ∈ tabA c.K ∨ a ∈ cellA c
      · rw [if_pos ht] at e; cases e
      rw [if_neg ht] at e
      cases q : gc.F a with
      | some u => rw [q] at e; cases e
      | none =>
        rw [q] at e
        refine ⟨jc (fun z => ht (.inr z)) e, q, fun l hl z => ?_⟩
        have : Hc a = none := by rw [← z]; exact cOwn (mem_own.mpr ⟨l, hl, rfl⟩)
        rw [this] at e; cases e
    · have hp : p ∈ tabsL c.K := hp
      obtain ⟨t1, t2⟩ := W.tab p hp
      have nO : p.1 ∉ ownA g := fun z => by
        obtain ⟨ps, h1, _⟩ := t1
        rw [cOwn z] at h1; cases h1
      have nC : p.1 ∉ cellA c := by
        obtain ⟨ps, h1, _⟩ := t1
        exact kindN h1 fun _ z => nomatch z
      refine ⟨t1.up (fun _ _ e => e) (by unfold joinH; rw [if_neg fun z => (List.mem_append.mp z).elim nO nC]), t2, ?_⟩
      show pinC c gc Hc p.1 = none
      unfold pinC
      exact if_pos (.inl (List.mem_map.mpr ⟨p, hp, rfl⟩))
  have hok : HOk c.P c.w (joinH (ownA g ++ cellA c) H Hc) s2.heap := fun a o e => by
    by_cases ha : a ∈ ownA g
    · rw [jo ha] at e
      obtain ⟨_, o', e', k⟩ := own_cell G.rp hw ha
      rw [e] at e'
      cases e'
      have q := G.inv.hok a o e
      have kp := (W.at_ a (inOwn ha)).2
      rcases k with ⟨xs, rfl⟩ | ⟨ks, rfl⟩
      · obtain ⟨z, its, n, r, e⟩ := q
        exact ⟨z, its, n, r, kp _ e⟩
      · obtain ⟨z, y, vs, r, ob, es, ep, e, cc⟩ := q
        exact ⟨z, y, vs, r, ob, es, ep, kp _ e, cc⟩
    · by_cases hc2 : a ∈ cellA c
      · rw [jcel hc2] at e; cases e
      have e' : Hc a = some o := by unfold joinH at e; rw [if_neg fun z => (List.mem_append.mp z).elim ha hc2] at e; exact e
      exact (W.e0.hok a o e').stay (fun _ _ _ q => q) (fun _ q => jc (kindN q fun _ z => nomatch z) q) fun _ _ q => jc (kindN q fun _ z => nomatch z) q
  have I := G.inv
  have pnOk : ∀ p ∈ c.pn ++ ip, p.1 ∈ fpOf c ip g := fun p hp => List.mem_cons_of_mem _ (List.mem_append_left _ (List.mem_map.mpr ⟨p, hp, rfl⟩))
  have inv : Inv (c.X (trunc c.n0 s2) (joinH (ownA g ++ cellA c) H Hc) q) ip σ (joinH (ownA g ++ cellA c) H Hc) s2 := by
    refine ⟨⟨W.e0.mod, ok.kind, rfl, rfl, by show (trunc c.n0 s2).heap.objs.size ≤ c.n0; rw [trunc_size W.sz]; exact Nat.le_refl _, fun x y a h => ?_, fun x h => ?_, fun x a _ h => ?_, fun _ => ok.hd, Around.frames_deeper W.e0.frames, .inr ⟨rfl, rfl⟩, fun b z => absurd (show b ∈ ([] : List Addr) from z) (by simp),
        fun a o e => ?_, by show c.base.objs.size ≤ (trunc c.n0 s2).heap.objs.size; rw [trunc_size W.sz]; exact ok.bsz, fun a o _ z => absurd (show a ∈ ([] : List Addr) from z) (by simp), fun b z => absurd (show b ∈ ([] : List Addr) from z) (by simp), funs_trunc ok.frs W.e0.funs, fun a ha => ?_⟩,
      rfl, W.e0.bare, ⟨fun a o e _ _ _ => (trunc_some W.sz e).2, fun a o e _ _ _ => ⟨o.slots, (trunc_some W.sz e).2⟩, fun _ _ _ h _ => h, fun a o e _ => ⟨o, (trunc_some W.sz e).2⟩, fun _ _ h => h, fun _ _ _ h => h, fun _ ps h => ⟨#[], by rw [Array.append_empty]; exact h⟩⟩, ?_, fun x a h => ?_, ?_, fun x a h => ?_, fun p hp => ?_, hok, I.len⟩
    · exact I.ok.inj x y a h
    · exact I.ok.has x h
    · show (trunc c.n0 s2).heap.objs.size ≤ a
      rw [trunc_size W.sz]
      exact Nat.le_of_lt (ok.cellHi a (mem_cellA.mpr ⟨x, h⟩))
    · have hb : a < c.n0 := Nat.lt_of_lt_of_le (Heap.lt_size e) ok.bsz
      obtain ⟨q1, q2⟩ := W.e0.bs a o e
      exact ⟨by show (trunc c.n0 s2).heap.get? a = _; rw [trunc_get hb]; exact q1, jn (I.bs a o e).2 q2⟩
    · exact jn (I.stkFree a (by show a ∈ L2.frs (c.env :: c.outer); unfold L2.frs; rw [List.filterMap_cons]; exact List.mem_cons_of_mem _ ha)) (W.e0.frf a ha)
    · obtain ⟨m, hn, hl⟩ := I.loc
      obtain ⟨o, es, ep, e, r⟩ := hn
      refine ⟨m, ⟨o, es, ep, (W.at_ c.n0 List.mem_cons_self).2 o e, r⟩, fun i x v h1 h2 h3 => ?_⟩
      obtain ⟨u, ru, lk⟩ := hl i x v h1 h2 h3
      refine ⟨u, ru, ?_⟩
      rcases lk with q | ⟨k, a, q, oc, ho, hd⟩
      · exact .inl q
      · exact .inr ⟨k, a, q, oc, (W.cel a (mem_cellA.mpr ⟨x, q⟩)).2.2 oc ho, hd⟩
    · obtain ⟨v, oc, ho, hd⟩ := I.cell x a h
      exact ⟨v, oc, (W.cel a (mem_cellA.mpr ⟨x, h⟩)).2.2 oc ho, hd⟩
    · exact jn I.free (W.at_ c.n0 List.mem_cons_self).1
    · exact jcel (mem_cellA.mpr ⟨x, h⟩)
    · rcases mid_cases (show p ∈ (c.pn ++ q) ++ ip from hp) with hp | hp
      · obtain ⟨p1, p2, p3, p4, p5⟩ := I.pin p (mid_mem hp)
        obtain ⟨q1, q2⟩ := W.at_ p.1 (pnOk p hp)
        exact ⟨q2 _ p1, jn p2 q1, p3, p4, p5⟩
      · obtain ⟨p1, p2, p3, p4, p5⟩ := W.pn p hp
        refine ⟨p1, ?_, fun z => p3 ?_, p4, p5⟩
        · by_cases hz : p.1 ∈ cellA c
          · exact jcel hz
          · unfold joinH; rw [if_neg fun z => (List.mem_append.mp z).elim (fun z => p3 (inOwn z)) hz]; exact p2
        · rw [show p.1 = c.n0 from z]; exact List.mem_cons_self
  exact ⟨inv, rp, G.en.mono x0, rfl, Xt.refl _, fun p hp => ⟨(G.lo p hp).1, fun r hr z => (W.pn r hr).2.2.1 (by rw [z]; exact pnOk p hp)⟩, ⟨trunc_size W.sz, trivial⟩⟩
theorem wake_xt {c : GCx} {ip : List (Addr × Obj)} {b : Sg} {g : Gd} {ρ : Ev} {w : Ws} {σ : L2.St} {H : Hp} {s : Shared} (G : Gs c ip b g ρ w σ H s) {gc : Gd} {Hc : Hp} (ex : ∀ a o, g.F a = some o → gc.F a = some o) : Xt0 g (wakeG c g gc Hc) :=
  ⟨G.k.symm ▸ rfl, ex, fun _ _ => rfl, Nat.le_refl _, G.k.symm⟩
end Tg

set_option Elab.async false
set_option linter.all false
set_option maxRecDepth 100000
set_option maxHeartbeats 4000000
namespace Tg
open PySem PySem.Spec PyProof.Rows L2 Td GenW
/-! ### the consumer behind a stop -/
/-- no object of the consumer -/
structure Pl (X : Cx) (pins : List (Addr × Obj)) (a : Addr) : Prop where
  old : ∀ o, X.s_0.heap.get? a ≠ some o
  loc : a ≠ X.env.locals
  cel : ∀ x c, X.env.cells.lookup x = some c → c ≠ a
  pin : ∀ p ∈ X.pn ++ pins, p.1 ≠ a
/-- all that the consumer has stood before the generator, but for what is at ba -/
structure Lo (X : Cx) (pins : List (Addr × Obj)) (n : Nat) (ba : List Addr) : Prop where
  s0 : X.s_0.heap.objs.size ≤ n
  loc : X.env.locals < n ∨ X.env.locals ∈ ba
  cel : ∀ x c, X.env.cells.lookup x = some c → c < n
  pin : ∀ p ∈ X.pn ++ pins, p.1 < n ∨ p.1 ∈ ba
  ex : X.ex = []
  own : ∀ a ∈ ba, n ≤ a ∧ (a = X.env.locals ∨ ∃ o, (a, o) ∈ X.pn ++ pins)
theorem Lo.pl {X : Cx} {pins : List (Addr × Obj)} {n : Nat} {ba : List Addr} (h : Lo X pins n ba) {a : Addr} (ha : n ≤ a) (hb : a ∉ ba) : Pl X pins a where
  old := fun o e => absurd (Nat.lt_of_lt_of_le (Heap.lt_size e) (Nat.le_trans h.s0 ha)) (Nat.lt_irrefl _)
  loc := fun z => by
    rcases h.loc with q | q
    · rw [← z] at q; exact absurd (Nat.lt_of_lt_of_le q ha) (Nat.lt_irrefl _)
    · rw [← z] at q; exact hb q
  cel := fun x c e z => by have := h.cel x c e; rw [z] at this; exact absurd (Nat.lt_of_lt_of_le this ha) (Nat.lt_irrefl _)
  pin := fun p hp z => by
    rcases h.pin p hp with q | q
    · rw [z] at q; exact absurd (Nat.lt_of_lt_of_le q ha) (Nat.lt_irrefl _)
    · rw [z] at q; exact hb q
structure Sits (c : GCx) (X : Cx) : Prop where
  P : c.P = X.prog
  w : c.w = X.w
  K : c.K = X.K
  mg : c.mg = X.mg
  base : c.base = X.base
  outer : c.outer = X.stack
noncomputable def backH (c : GCx) (h1 : Heap) (g1 : Gd) (H1 : Hp) : Hp := fun a => if a ∈ ownA g1 then none else if a ∈ cellA c then (h1.get? a).map (celO a) else H1 a
noncomputable def backG (gc g1 : Gd) : Gd := { K := gc.K, F := g1.F, P := gc.P, μ := gc.μ, n := gc.n }
structure Back (c : GCx) (X : Cx) (pins : List (Addr × Obj)) (σc : L2.St) (wc : Ws) (gc : Gd) (ip1 : List (Addr × Obj)) (g1 : Gd) (H1 : Hp) (s1 : Shared) : Prop where
  inv : Inv X pins σc (backH c s1.heap g1 H1) s1
  rp : Rp (celG (backG gc g1) (clOf c s1.heap)) (backH c s1.heap g1 H1) wc
  x : Xt gc (backG gc g1)
  fp : ∀ a ∈ fpOf c ip1 g1, backH c s1.heap g1 H1 a = none ∧ Pl X pins a ∧ ∃ o, s1.heap.get? a = some o ∧ ∀ v, o.data ≠ .cell v
/-- .. but for a table -/
theorem ObR.newT {g g' : Gd} {H H' : Hp} {a : Addr} {ob : Ob} (x : Xt0 g g') (h : ObR g H a ob) (hf : ∀ b o, H b = some o → (∀ ps, o ≠ .tbl ps) → (∀ φ, o ≠ .ext φ) → g'.F b = g.F b ∧ H' b = H b) (ht : ∀ b o, H b = some o → ∃ u, H' b = some u) : ObR g' H' a ob := by
  have q : ∀ {b : Addr} {o : HO}, H b = some o → (∀ ps, o ≠ .tbl ps) → (∀ φ, o ≠ .ext φ) → g'.F b = g.F b ∧ H' b = some o := fun {b o} e n n2 => by
    have z := hf b o e n n2
    exact ⟨z.1, z.2.trans e⟩
  cases ob with
  | lst ds =>
    obtain ⟨hn, xs, h, d⟩ := h
    exact ⟨(q h (fun _ z => nomatch z) (fun _ z => nomatch z)).1.trans hn, xs, (q h (fun _ z => nomatch z) (fun _ z => nomatch z)).2, d.mono x _ _⟩
  | dK kvs =>
    obtain ⟨hn, ks, h, d⟩ := h
    exact ⟨(q h (fun _ z => nomatch z) (fun _ z => nomatch z)).1.trans hn, ks, (q h (fun _ z => nomatch z) (fun _ z => nomatch z)).2, d.mono x⟩
  | ins C fs =>
    obtain ⟨hn, dx, gs, ⟨C', hC, h⟩, hd, hn2, d⟩ := h
    exact ⟨(q h (fun _ z => nomatch z) (fun _ z => nomatch z)).1.trans hn, dx, gs, ⟨C', by rw [x.k]; exact hC, (q h (fun _ z => nomatch z) (fun _ z => nomatch z)).2⟩, (q hd (fun _ z => nomatch z) (fun _ z => nomatch z)).2, (q hd (fun _ z => nomatch z) (fun _ z => nomatch z)).1.trans hn2, d.mono x⟩
  | dead =>
    obtain ⟨o, h⟩ := h
    exact ht _ _ h
theorem back_ok {c : GCx} {X : Cx} {pins : List (Addr × Obj)} {σc : L2.St} {Hc : Hp} {s2 : Shared} {gc : Gd} {wc : Ws} (ok : GOk c) (si : Sits c X) (hKc : gc.K = c.K) (I : Inv X pins σc Hc s2) {cl : Addr → Option Obj} (hP : ∀ a ∈ cellA c, gc.P a = none) (hcl : ∀ a o, cl a = some o → a ∈ cellA c) (hcl2 : ∀ a ∈ cellA c, ∃ o, cl a = some o) (plC : ∀ a ∈ cellA c, Pl X pins a) (rc : Rp (celG gc cl) Hc wc) {ba : List Addr} (lo : Lo X pins c.n0 ba)
    {ip : List (Addr × Obj)} {g : Gd} {H : Hp} {h0 : Heap} (W : Wk c (pinsAt ba s2.heap) (fpOf c ip g) h0 g gc Hc s2) (pl' : ∀ a ∈ fpOf c ip g, Pl X pins a)
    {ip1 : List (Addr × Obj)} {g1 : Gd} {ρ1 : Ev} {w1 : Ws} {σ1 : L2.St} {H1 : Hp} {s1 : Shared} (G1 : Gs c ip1 (wakeB c g gc H Hc s2 (pinsAt ba s2.heap)) g1 ρ1 w1 σ1 H1 s1) (hw1 : w1.all plainOb = true) : Back c X pins σc wc gc ip1 g1 H1 s1 := by
  have inOwn : ∀ {a}, a ∈ ownA g → a ∈ fpOf c ip g := fun h => List.mem_cons_of_mem _ (List.mem_append_right _ h)
  have pl : ∀ a ∈ ownA g, Pl X pins a := fun a h => pl' a (inOwn h)
  have pinB : ∀ {a o}, a ∈ ba → s2.heap.get? a = some o → s1.heap.get? a = some o ∧ H1 a = none := fun {a o} ha e =>
    let z := G1.inv.pin (a, o) (List.mem_append_left _ (List.mem_append_right _ (mem_pinsAt ha e)))
    ⟨z.1, z.2.1⟩
  have cOwn : ∀ {a}, a ∈ ownA g → Hc a = none := fun h => (W.at_ _ (inOwn h)).1
  have jn : ∀ {a}, a ∉ ownA g → Hc a = none → joinH (ownA g ++ cellA c) H Hc a = none := fun {a} h1 h2 => by
    unfold joinH
    rw [if_neg fun z => (List.mem_append.mp z).elim h1 fun z => by
      obtain ⟨⟨o, e⟩, _⟩ := W.cel a z
      rw [h2] at e; cases e]
    exact h2
  have nH1 : ∀ {a}, a ∈ cellA c → H1 a = none := fun h => let ⟨x, e⟩ := mem_cellA.mp h; G1.inv.freeC x _ e
  have nF1 : ∀ {a}, a ∈ cellA c → g1.F a = none := fun {a} h => by
    cases q : g1.F a with
    | none => rfl
    | some o => have := G1.rp.fro a o q; rw [nH1 h] at this; cases this
  have ncOf : ∀ {a o}, Hc a = some o → (∀ φ, o ≠ .ext φ) → a ∉ cellA c := fun {a o} e n h => by
    obtain ⟨⟨o', e'⟩, _⟩ := W.cel a h
    rw [e] at e'
    exact n _ (Option.some.inj e')
  have own1 := fun {a : Addr} (h : a ∈ ownA g1) => own_cell G1.rp hw1 h
  have fK : ∀ {a o}, Hc a = some o → g1.F a = gc.F a := fun {a o} e => by
    cases q : gc.F a with
    | some u => exact G1.x.ex a u q
    | none =>
      by_cases ht : a ∈ tabA c.K
      · obtain ⟨p, hp, rfl⟩ := List.mem_map.mp ht
        exact (G1.rp.tab p (by rw [G1.k]; exact hp)).2.1
      by_cases hcc : a ∈ cellA c
      · exact nF1 hcc
      have : g1.P a = some o := by rw [G1.x.p]; show pinC c gc Hc a = some o; unfold pinC; rw [if_neg (fun z => z.elim ht hcc), q]; exact e
      exact (G1.rp.pin a o this).2.1
  have extT : ∀ {a}, a ∈ tabA c.K → (∃ ps, H1 a = some (.tbl ps)) ∧ a ∉ ownA g1 := fun {a} ht => by
    obtain ⟨p, hp, rfl⟩ := List.mem_map.mp ht
    obtain ⟨⟨ps, e, _⟩, _⟩ := G1.rp.tab p (by rw [G1.k]; exact hp)
    refine ⟨⟨ps, e⟩, fun z => ?_⟩
    obtain ⟨_, o', e', k⟩ := own1 z
    rw [e] at e'; cases e'
    rcases k with ⟨_, k⟩ | ⟨_, k⟩ <;> cases k
  have tabH : ∀ {a}, a ∈ tabA c.K → ∃ ps, Hc a = some (.tbl ps) := fun {a} ht => by
    obtain ⟨p, hp, rfl⟩ := List.mem_map.mp ht
    obtain ⟨⟨ps, e, _⟩, _⟩ := rc.tab p (by show p ∈ tabsL gc.K; rw [hKc]; exact hp)
    exact ⟨ps, e⟩
  have ntOf : ∀ {a o}, Hc a = some o → (∀ ps, o ≠ .tbl ps) → a ∉ tabA c.K := fun {a o} e n ht => by
    obtain ⟨ps, e'⟩ := tabH ht
    rw [e] at e'
    exact n ps (Option.some.inj e')
  have ext : ∀ {a o}, a ∉ tabA c.K → a ∉ cellA c → Hc a = some o → H1 a = some o ∧ a ∉ ownA g1 := fun {a o} ht hcc e => by
    cases q : gc.F a with
    | some u =>
      have e1 := W.fro a u q
      rw [e] at e1
      cases e1
      have e2 : g1.F a = some o := G1.x.ex a o q
      exact ⟨G1.rp.fro a o e2, fun z => by rw [(own1 z).1] at e2; cases e2⟩
    | none =>
      have : g1.P a = some o := by rw [G1.x.p]; show pinC c gc Hc a = some o; unfold pinC; rw [if_neg (fun z => z.elim ht hcc), q]; exact e
      obtain ⟨p1, p2, p3⟩ := G1.rp.pin a o this
      exact ⟨p1, fun z => by obtain ⟨l, hl, e⟩ := mem_own.mp z; exact p3 l hl e⟩
  have nOwn1 : ∀ {a o}, Hc a = some o → a ∉ ownA g1 := fun {a o} e => by
    by_cases ht : a ∈ tabA c.K
    · exact (extT ht).2
    · by_cases hcc : a ∈ cellA c
      · intro z
        obtain ⟨_, o', e', _⟩ := own1 z
        rw [nH1 hcc] at e'; cases e'
      · exact (ext ht hcc e).2
  have nO1 : ∀ {a}, a ∈ cellA c → a ∉ ownA g1 := fun {a} h => by
    obtain ⟨⟨o, e⟩, _⟩ := W.cel a h
    exact nOwn1 e
  have back_c : ∀ {a o}, a ∉ tabA c.K → a ∉ cellA c → Hc a = some o → backH c s1.heap g1 H1 a = some o := fun {a o} ht hcc e => by unfold backH; rw [if_neg (ext ht hcc e).2, if_neg hcc]; exact (ext ht hcc e).1
  have backK : ∀ {a o}, Hc a = some o → (∀ ps, o ≠ .tbl ps) → (∀ φ, o ≠ .ext φ) → backH c s1.heap g1 H1 a = some o := fun {a o} e n n2 => back_c (ntOf e n) (ncOf e n2) e
  have tabNc : ∀ {a}, a ∈ tabA c.K → a ∉ cellA c := fun {a} ht => by
    obtain ⟨ps, e⟩ := tabH ht
    exact ncOf e fun _ z => nomatch z
  have backT : ∀ {a}, a ∈ tabA c.K → backH c s1.heap g1 H1 a = H1 a := fun {a} ht => by unfold backH; rw [if_neg (extT ht).2, if_neg (tabNc ht)]
  have celE : ∀ {a}, a ∈ cellA c → ∃ o, s1.heap.get? a = some o ∧ (∃ v, o.data = .cell v) ∧ backH c s1.heap g1 H1 a = some (celO a o) := fun {a} h => by
    obtain ⟨x, e⟩ := mem_cellA.mp h
    obtain ⟨v, o, ho, hd⟩ := G1.inv.cell x a e
    refine ⟨o, ho, ⟨v, hd⟩, ?_⟩
    unfold backH
    rw [if_neg (nO1 h), if_pos h, ho]
    rfl
  have nox : ∀ a : Addr, a ∉ (c.X (trunc c.n0 s2) (joinH (ownA g ++ cellA c) H Hc) (pinsAt ba s2.heap)).ex := fun a z => absurd (show a ∈ ([] : List Addr) from z) (by simp)
  have U := G1.inv.base
  have fsE : (c.X (trunc c.n0 s2) (joinH (ownA g ++ cellA c) H Hc) (pinsAt ba s2.heap)).fs = L2.frs X.stack := by show L2.frs c.outer = _; rw [si.outer]
  have tg : ∀ {a o}, a < c.n0 → s2.heap.get? a = some o → (trunc c.n0 s2).heap.get? a = some o := fun h e => by rw [trunc_get h]; exact e
  have freeA : ∀ {a o}, (a < c.n0 ∨ a ∈ ba) → s2.heap.get? a = some o → Hc a = none → a ∉ ownA g → H1 a = none := fun h e n no => h.elim (fun h => U.free _ _ (tg h e) (jn no n) (nox _)) fun h => (pinB h e).2
  have keepA : ∀ {a o}, (a < c.n0 ∨ a ∈ ba) → s2.heap.get? a = some o → Hc a = none → a ∉ ownA g → a ∉ L2.frs X.stack → s1.heap.get? a = some o := fun h e n no nf => h.elim (fun h => U.keep _ _ (tg h e) (jn no n) (show _ ∉ (c.X (trunc c.n0 s2) (joinH (ownA g ++ cellA c) H Hc) (pinsAt ba s2.heap)).fs by rw [fsE]; exact nf) (nox _)) fun h => (pinB h e).1
  have anyA : ∀ {a o}, (a < c.n0 ∨ a ∈ ba) → s2.heap.get? a = some o → Hc a = none → a ∉ ownA g → ∃ sl, s1.heap.get? a = some { o with slots := sl } := fun {a o} h e n no => h.elim (fun h => U.any (tg h e) (jn no n) (nox _)) fun h => ⟨o.slots, (pinB h e).1⟩
  have thereA : ∀ {a o}, a < c.n0 → s2.heap.get? a = some o → ∃ o', s1.heap.get? a = some o' := fun h e => U.there _ _ (tg h e) (nox _)
  have bn : ∀ {a}, a ∉ cellA c → H1 a = none → backH c s1.heap g1 H1 a = none := fun {a} n h => by
    unfold backH
    by_cases q : a ∈ ownA g1
    · rw [if_pos q]
    · rw [if_neg q, if_neg n]; exact h
  have new : ∀ {a o}, a ∈ ownA g1 → (a < c.n0 ∨ a ∈ ba) → s2.heap.get? a = some o → Hc a = none → a ∈ ownA g := fun {a o} ha hl e n => Classical.byContradiction fun no => by
    obtain ⟨_, o', e', _⟩ := own1 ha
    rw [freeA hl e n no] at e'; cases e'
  have hex : ∀ b, b ∉ X.ex := fun b z => by rw [lo.ex] at z; cases z
  have ltS : ∀ {b o}, X.s_0.heap.get? b = some o → b < c.n0 := fun e => Nat.lt_of_lt_of_le (Heap.lt_size e) lo.s0
  have noS : ∀ {b o}, X.s_0.heap.get? b = some o → b ∉ ownA g := fun e z => (pl _ z).old _ e
  have nL : ∀ {b o}, X.s_0.heap.get? b = some o → b ≠ X.env.locals := fun e => Nat.ne_of_lt (Nat.lt_of_lt_of_le (Heap.lt_size e) I.ok.above)
  have stkN : ∀ {b}, b ≠ X.env.locals → b ∉ X.fs → b ∉ L2.frs X.stack := fun h1 h2 z => (List.mem_cons.mp (I.stkSub _ z)).elim h1 h2
  have hokB : HOk X.prog X.w (backH c s1.heap g1 H1) s1.heap := fun a o e => by
    by_cases hcc : a ∈ cellA c
    · obtain ⟨ob, ho, _, e'⟩ := celE hcc
      rw [e] at e'
      cases e'
      exact celO_ok ho
    unfold backH at e
    by_cases ha : a ∈ ownA g1
    · rw [if_pos ha] at e; cases e
    · rw [if_neg ha, if_neg hcc] at e
      have q := G1.inv.hok a o e
      have q' : ObjOk X.prog X.w H1 s1.heap a o := by rw [← si.P, ← si.w]; exact q
      refine q'.stay (fun _ _ _ z => z) (fun d z => ?_) fun d xs z => ?_
      · unfold backH
        rw [if_neg fun zz => ?_, if_neg fun zz => by rw [nH1 zz] at z; cases z]; exact z
        obtain ⟨_, o', e', k⟩ := own1 zz
        rw [z] at e'; cases e'
        rcases k with ⟨_, k⟩ | ⟨_, k⟩ <;> cases k
      · unfold backH
        rw [if_neg fun zz => ?_, if_neg fun zz => by rw [nH1 zz] at z; cases z]; exact z
        obtain ⟨_, o', e', k⟩ := own1 zz
        rw [z] at e'; cases e'
        rcases k with ⟨_, k⟩ | ⟨_, k⟩ <;> cases k
  have exL : ∃ o, s2.heap.get? X.env.locals = some o := by obtain ⟨m, ⟨o, _, _, e, _⟩, _⟩ := I.loc; exact ⟨o, e⟩
  have noL : X.env.locals ∉ ownA g := fun z => (pl _ z).loc rfl
  have cellK : ∀ x a, X.env.cells.lookup x = some a → ∀ v, s2.heap.IsCell a v → s1.heap.IsCell a v := fun x a e v ⟨o, ho, hd⟩ => by
    obtain ⟨sl, q⟩ := anyA (.inl (lo.cel x a e)) ho (I.freeC x a e) fun z => (pl _ z).cel x a e rfl
    exact ⟨_, q, hd⟩
  have inv : Inv X pins σc (backH c s1.heap g1 H1) s1 := by
    refine ⟨I.ok, by rw [G1.inv.os]; exact I.os, G1.inv.bare, ⟨fun b o e n hb hx => ?_, fun b o e n hb hx => ?_, fun b o e n hx => ?_, fun b o e hx => ?_, fun b xs e => backK (I.base.tups b xs e) (fun _ z => nomatch z) (fun _ z => nomatch z), fun b o xs e => backK (I.base.frzs b o xs e) (fun _ z => nomatch z) (fun _ z => nomatch z), fun b ps e => ?_⟩, ?_, fun x a e => ?_, ?_, fun x a e => ?_, fun p hp => ?_, hokB, I.len⟩
    · exact keepA (.inl (ltS e)) (I.base.keep b o e n hb hx) (I.base.free b o e n hx) (noS e) (stkN (nL e) hb)
    · obtain ⟨sl, e1⟩ := I.base.slot b o e n hb hx
      obtain ⟨sl', e2⟩ := anyA (.inl (ltS e)) e1 (I.base.free b o e n hx) (noS e)
      exact ⟨sl', e2⟩
    · obtain ⟨o', e1⟩ := I.base.there b o e hx
      exact bn (fun z => (plC _ z).old _ e) (freeA (.inl (ltS e)) e1 (I.base.free b o e n hx) (noS e))
    · obtain ⟨o', e1⟩ := I.base.there b o e hx
      exact thereA (ltS e) e1
    · obtain ⟨m1, e1⟩ := I.base.tbls b ps e
      by_cases ht : b ∈ tabA c.K
      · have nO : b ∉ ownA g := fun z => by rw [cOwn z] at e1; cases e1
        obtain ⟨m2, e2⟩ := U.tbls b (ps ++ m1) (show joinH (ownA g ++ cellA c) H Hc b = _ by unfold joinH; rw [if_neg fun z => (List.mem_append.mp z).elim nO (tabNc ht)]; exact e1)
        exact ⟨m1 ++ m2, by rw [backT ht, e2, Array.append_assoc]⟩
      · exact ⟨m1, back_c ht (ncOf e1 fun _ z => nomatch z) e1⟩
    · obtain ⟨m, hn, hl⟩ := I.loc
      obtain ⟨o, es, ep, e, r⟩ := hn
      obtain ⟨sl, q⟩ := anyA lo.loc e I.free noL
      refine ⟨m, ⟨_, es, ep, q, r⟩, fun i x v h1 h2 h3 => ?_⟩
      obtain ⟨u, ru, lk⟩ := hl i x v h1 h2 h3
      refine ⟨u, ru, ?_⟩
      rcases lk with q | ⟨k, a, q, z⟩
      · exact .inl q
      · exact .inr ⟨k, a, q, cellK x a q _ z⟩
    · obtain ⟨v, z⟩ := I.cell x a e
      exact ⟨v, cellK x a e v z⟩
    · obtain ⟨o, e⟩ := exL
      exact bn (fun z => (plC _ z).loc rfl) (freeA lo.loc e I.free noL)
    · obtain ⟨v, o, ho, _⟩ := I.cell x a e
      exact bn (fun z => (plC _ z).cel x a e rfl) (freeA (.inl (lo.cel x a e)) ho (I.freeC x a e) fun z => (pl _ z).cel x a e rfl)
    · obtain ⟨p1, p2, p3, p4, p5⟩ := I.pin p hp
      have no : p.1 ∉ ownA g := fun z => (pl _ z).pin p hp rfl
      exact ⟨keepA (lo.pin p hp) p1 p2 no (stkN p3 p4), bn (fun z => (plC _ z).pin p hp rfl) (freeA (lo.pin p hp) p1 p2 no), p3, p4, p5⟩
  have x0 : Xt gc (backG gc g1) := ⟨⟨rfl, fun a o e => G1.x.ex a o e, fun _ _ => rfl, Nat.le_refl _, rfl⟩, rfl⟩
  have x1 : Xt0 (celG gc cl) (celG (backG gc g1) (clOf c s1.heap)) := ⟨rfl, fun a o e => G1.x.ex a o e, fun _ _ => rfl, Nat.le_refl _, rfl⟩
  refine ⟨inv, ⟨fun a o e => ?_, rc.len, fun l ob e => ?_, rc.inj, fun a o e => ?_, fun p hp => ?_⟩, x0, fun a ha => ?_⟩
  · have e : g1.F a = some o := e
    unfold backH
    rw [if_neg (fun z => by rw [(own1 z).1] at e; cases e), if_neg (fun z => by rw [nF1 z] at e; cases e)]
    exact G1.rp.fro a o e
  · refine ObR.newT x1 (rc.cell l ob e) (fun b o ho n n2 => ⟨fK ho, by rw [backK ho n n2, ho]⟩) fun b o ho => ?_
    by_cases ht : b ∈ tabA c.K
    · obtain ⟨ps, e1⟩ := (extT ht).1
      exact ⟨_, (backT ht).trans e1⟩
    · by_cases hcc : b ∈ cellA c
      · obtain ⟨ob, _, _, e1⟩ := celE hcc
        exact ⟨_, e1⟩
      · exact ⟨o, back_c ht hcc ho⟩
  · have e : celP (clOf c s1.heap) gc.P a = some o := e
    unfold celP at e
    by_cases hcc : a ∈ cellA c
    · obtain ⟨ob, ho, _, e1⟩ := celE hcc
      have ec : clOf c s1.heap a = some ob := by unfold clOf; rw [if_pos hcc]; exact ho
      rw [ec] at e
      cases e
      obtain ⟨oc, hoc⟩ := hcl2 a hcc
      refine ⟨e1, nF1 hcc, (rc.pin a (celO a oc) ?_).2.2⟩
      show celP cl gc.P a = _
      unfold celP
      rw [hoc]
    · have ec : clOf c s1.heap a = none := by unfold clOf; rw [if_neg hcc]
      rw [ec] at e
      have en : cl a = none := by
        cases q : cl a with
        | none => rfl
        | some o' => exact absurd (hcl a o' q) hcc
      have e2 : (celG gc cl).P a = some o := by
        show celP cl gc.P a = _
        unfold celP
        rw [en]; exact e
      obtain ⟨p1, p2, p3⟩ := rc.pin a o e2
      have nt : a ∉ tabA c.K := fun ht => by
        obtain ⟨p, hp, rfl⟩ := List.mem_map.mp ht
        have q3 := (rc.tab p (by show p ∈ tabsL gc.K; rw [hKc]; exact hp)).2.2
        rw [e2] at q3; cases q3
      exact ⟨back_c nt hcc p1, (fK p1).trans p2, p3⟩
  · have hp' : p ∈ tabsL c.K := by rw [← hKc]; exact hp
    have ht : p.1 ∈ tabA c.K := List.mem_map.mpr ⟨p, hp', rfl⟩
    obtain ⟨t1, t2, t3⟩ := rc.tab p hp
    obtain ⟨u1, u2, _⟩ := G1.rp.tab p (by rw [G1.k]; exact hp')
    refine ⟨u1.up (fun _ _ e => e) (backT ht), u2, ?_⟩
    have ec : clOf c s1.heap p.1 = none := by unfold clOf; rw [if_neg (tabNc ht)]
    have t3 : celP cl gc.P p.1 = none := t3
    show celP (clOf c s1.heap) gc.P p.1 = none
    unfold celP at t3 ⊢
    rw [ec]
    cases q : cl p.1 with
    | none => rw [q] at t3; exact t3
    | some o' => exact absurd (hcl _ o' q) (tabNc ht)
  · rcases List.mem_cons.mp ha with rfl | ha
    · refine ⟨bn (fun z => absurd (ok.cellHi _ z) (Nat.lt_irrefl _)) G1.inv.free, pl' _ List.mem_cons_self, ?_⟩
      obtain ⟨m, ⟨o, es, ep, e, d, _⟩, _⟩ := G1.inv.loc
      exact ⟨o, e, fun v z => by rw [d] at z; cases z⟩
    · rcases List.mem_append.mp ha with ha | ha
      · obtain ⟨p, hp, rfl⟩ := List.mem_map.mp ha
        obtain ⟨p1, p2, p3, p4, p5⟩ := G1.inv.pin p (mid_mem hp)
        refine ⟨bn (fun z => by
          obtain ⟨o, ho, ⟨v, hd⟩, _⟩ := celE z
          rw [p1] at ho; cases ho
          exact p5 v hd) p2, lo.pl (G1.lo p hp).1 fun hb => ?_, _, p1, p5⟩
        rcases (lo.own _ hb).2 with z | ⟨o, hq⟩
        · obtain ⟨o, e⟩ := exL
          exact (G1.lo p hp).2 (p.1, o) (mem_pinsAt hb (by rw [z]; exact e)) rfl
        · exact (G1.lo p hp).2 (p.1, o) (mem_pinsAt hb (I.pin _ hq).1) rfl
      · obtain ⟨_, o, e, k⟩ := own1 ha
        have q := G1.inv.hok a o e
        refine ⟨by unfold backH; rw [if_pos ha], ⟨fun o' e' => ?_, fun z => ?_, fun x cc e' z => ?_, fun p hp z => ?_⟩, ?_⟩
        · obtain ⟨o2, e2⟩ := I.base.there a o' e' (hex a)
          cases hq : Hc a with
          | some u => exact nOwn1 hq ha
          | none => exact noS e' (new ha (.inl (ltS e')) e2 hq)
        · subst z
          obtain ⟨o', e'⟩ := exL
          exact noL (new ha lo.loc e' I.free)
        · subst z
          obtain ⟨v, o', ho, _⟩ := I.cell x cc e'
          exact (pl _ (new ha (.inl (lo.cel x cc e')) ho (I.freeC x cc e'))).cel x cc e' rfl
        · obtain ⟨p1, p2, p3, p4, p5⟩ := I.pin p hp
          rw [← z] at ha
          exact (pl _ (new ha (lo.pin p hp) p1 p2)).pin p hp rfl
        · rcases k with ⟨xs, rfl⟩ | ⟨ks, rfl⟩
          · obtain ⟨_, its, n, _, e⟩ := q
            exact ⟨_, e, fun v z => by cases z⟩
          · obtain ⟨_, _, vs, _, ob, es, ep, e, cc⟩ := q
            refine ⟨ob, e, fun v z => ?_⟩
            rw [cc.2.1] at z
            cases z
/-- what is handed out is the consumer's -/
theorem dq_back {gc g1 : Gd} {x : V} {d : PyData} (hK : g1.K = gc.K) (h : Dq g1 x d) (hb : bnd 0 d = true) : Dq (backG gc g1) x d :=
  (h.cut d x hb : Dq (g1.cut 0) x d).mono (g := g1.cut 0) (g' := backG gc g1) ⟨hK.symm, fun _ _ e => e, fun l hl => absurd hl (Nat.not_lt_zero l), Nat.zero_le _, hK.symm⟩ d x
end Tg

set_option Elab.async false
set_option linter.all false
set_option maxRecDepth 100000
set_option maxHeartbeats 4000000
namespace Tg
open PySem PySem.Spec PyProof.Rows L2 Td GenW
/-! ### what is handed out, one by one -/
noncomputable def endOk (c : GCx) (L ys : List PyData) (b : Sg) (s : Shared) : Prop := ys = L ∧ ∃ g ρ w σ H, Gs c [] b g ρ w σ H s ∧ w.all plainOb = true
noncomputable def PhR (c : GCx) (L : List PyData) : Nat → PhT
  | 0 => fun ys b e s => match e with
    | .ret r => r = .ok (.ret .none) ∧ endOk c L ys b s
    | .susp .. => False
  | m + 1 => fun ys b e s => match e with
    | .ret r => r = .ok (.ret .none) ∧ endOk c L ys b s
    | .susp v gd l k code p fs => gd = false ∧ fs.any Frame.guarded = false ∧ splitAtGen fs = none ∧ ∃ ip g ρ w σ H d x, Gs c ip b g ρ w σ H s ∧ w.all plainOb = true ∧ RelV x v ∧ Dq g x d ∧ bnd 0 d = true ∧ ys ++ [d] <+: L ∧
        ∀ b' g' H' s', Xt0 g g' → Gs c ip b' g' ρ w σ H' s' → SegW (model c.P c.w) c.A (PhR c L m (ys ++ [d]) b') code (k (.send .none)) fs s'
noncomputable def Ph (c : GCx) (L : List PyData) : PhT := fun ys => PhR c L (L.length - ys.length) ys
theorem ph_yields (c : GCx) (L : List PyData) : Yields c L (Ph c L) := by
  intro ys b ip g ρ w σ H s d x v l k code p fs G rv dq hb hw hp hs hg hk
  have hl : ys.length + 1 ≤ L.length := by have := hp.length_le; simpa using this
  unfold Ph
  rw [show L.length - ys.length = (L.length - (ys.length + 1)) + 1 by omega]
  refine ⟨rfl, hg, hs, ip, g, ρ, w, σ, H, d, x, G, hw, rv, dq, hb, hp, fun b' g' H' s' x' G' => ?_⟩
  have := hk b' g' H' s' x' G'
  unfold Ph at this
  simpa using this
theorem ph_end {c : GCx} {L ys : List PyData} {b : Sg} {s : Shared} (h : endOk c L ys b s) : Ph c L ys b (.ret (.ok (.ret .none))) s := by
  unfold Ph
  cases L.length - ys.length <;> exact ⟨rfl, h⟩
theorem ph_ret {c : GCx} {L ys : List PyData} {b : Sg} {s : Shared} {r : Result} (h : Ph c L ys b (.ret r) s) : r = .ok (.ret .none) ∧ endOk c L ys b s := by
  unfold Ph at h
  cases e : L.length - ys.length with
  | zero => rw [e] at h; exact h
  | succ m => rw [e] at h; exact h
/-! ### next -/
noncomputable def GoW (M : Model) (A : Around) (Φ : End → Shared → Prop) (gs : GenState) (s : Shared) : Prop := match gs with
  | .fresh code => SegW M A Φ code (M.den code) [] s
  | .suspended k _ code _ fs _ => SegW M A Φ code (k (.send .none)) fs s
  | _ => False
theorem wpAny_resumeW {M : Model} {A : Around} {Φ : End → Shared → Prop} {E : Value → Shared → Prop} {s : Shared} {g : Nat} {gs : GenState} {l : List Value} {α : Type} {k : GenResult → Sem α} {Q : α → Shared → Prop} (hg : s.gens[g]? = some gs)
    (hgo : GoW M A Φ gs (s.setGen g .running)) (hq : ∀ e s₁, Φ e s₁ → e.quiet = true) (h : ∀ e s₁, Φ e s₁ → wpAny M A (k e.result) Q E (s₁.setGen g e.genState)) : wpAny M A (.resume g (.send .none) l k) Q E s := by
  intro Γ p hΓ
  rw [Sem.wp_resume]
  have hB : ∀ c, (Γ.wake c p).Woken A := fun c => hΓ.wake c p
  cases gs with
  | fresh code =>
    obtain ⟨e₁, s₁, hr, he⟩ := hgo (Γ.wake code p) p rfl (hB code)
    exact ⟨_, _, by unfold Wakes; rw [hg]; exact ⟨e₁, s₁, hr, hq e₁ s₁ he, rfl, rfl⟩, h e₁ s₁ he Γ p hΓ⟩
  | suspended k₀ l₀ c₀ p₀ fs₀ cl =>
    obtain ⟨e₁, s₁, hr, he⟩ := hgo (Γ.wake c₀ p) p₀ rfl (hB c₀)
    exact ⟨_, _, by unfold Wakes; rw [hg]; exact ⟨e₁, s₁, hr, hq e₁ s₁ he, rfl, rfl⟩, h e₁ s₁ he Γ p hΓ⟩
  | running => exact hgo.elim
  | finished => exact hgo.elim
theorem next_genW {P : Program} {w : World} {A : Around} {E : Value → Shared → Prop} {s : Shared} {a : Addr} {g : Nat} {gs : GenState} {Φ : End → Shared → Prop} {Q : Option Value → Shared → Prop} (hh : A.handled = none)
    (hl : s.heap.NoLimit) (hroom : A.depth < recursionLimit) (hg : s.heap.IsGen a g) (hgs : s.gens[g]? = some gs) (hgo : GoW (model P w) A.in1 Φ gs (s.setGen g .running))
    (hR : ∀ r s₁, Φ (.ret r) s₁ → r = .ok (.ret .none) ∧ ∀ h', (∀ b o, s₁.heap.get? b = some o → h'.get? b = some o) → Q none { s₁.setGen g .finished with heap := h' })
    (hY : ∀ v gd l k code p fs s₁, Φ (.susp v gd l k code p fs) s₁ → gd = false ∧ fs.any Frame.guarded = false ∧ Q (some v) (s₁.setGen g (.suspended k l code p fs false))) :
    wpAny (model P w) A (pyNext (.ref a)) Q E s := by
  unfold pyNext
  refine wpAny_bind (wpAny_attempt (wpAny_callSpecial?_slot (name := Str.ofString "__next__") hg.typeIs slot_gen_next
    (wpAny_call_entry slot_gen_next hg.typeIs entry_gen_next ?_ (args_gen_next _))))
  show wpAny _ A.in1 (Builtin.Generator.genWake (.ref a) (.send .none)) _ _ s
  unfold Builtin.Generator.genWake
  refine wpAny_bind (wpAny_holding (wpAny_genNumber hg (wpAny_bind (wpAny_genState hgs ?_))))
  cases gs with
  | running => exact hgo.elim
  | finished => exact hgo.elim
  | _ =>
    refine wpAny_bind (wpAny_roomToWake hl hroom ?_)
    show wpAny _ A.in1 (.resume g (.send .none) [] _) _ _ s
    refine wpAny_resumeW hgs hgo (fun e s₁ he => ?_) fun e s₁ he => ?_
    · cases e with
      | ret r => rfl
      | susp v gd l k code p fs =>
        obtain ⟨h1, h2, _⟩ := hY v gd l k code p fs s₁ he
        simp only [End.quiet, h1, h2]
        rfl
    · cases e with
      | ret r =>
        obtain ⟨rfl, hp⟩ := hR r s₁ he
        show wpAny _ A.in1 (newExc (.type "StopIteration") [] >>= _) _ _ _
        refine wpAny_bind ?_
        simp only [newExc, newTuple]
        refine wpAny_bind (wpAny_newObj_type ?_ (by size_fits))
        refine wpAny_bind (m := firstArgMember _ _) (wpAny_of_eq (a := Value.none) (by first | rfl | (simp only [firstArgMember]; rfl)) ?_)
        refine wpAny_newObj_type ?_ (by size_fits)
        simp only [raiseNew]
        refine wpAny_bind (wpAny_bind (wpAny_handled ?_))
        first | rw [show A.in1.handled = none from hh] | rw [hh]
        refine wpAny_throw ?_
        refine wpAny_bind (wpAny_isInstance (T := "StopIteration") (b := true) ⟨_, Heap.get?_push_size _ rfl, rfl⟩ isSubtype_stop ?_)
        exact wpAny_pure (hp _ fun b o hb => Heap.get?_push_of_some _ (Heap.get?_push_of_some _ hb))
      | susp v gd l k code p fs =>
        obtain ⟨h1, h2, hq⟩ := hY v gd l k code p fs s₁ he
        subst h1
        have e : End.genState (.susp v false l k code p fs) = .suspended k l code p fs false := by
          show GenState.suspended k l code p fs (false || fs.any Frame.guarded) = _
          rw [h2]; rfl
        rw [e]
        exact wpAny_pure ⟨v, rfl, wpAny_pure hq⟩
end Tg

set_option Elab.async false
set_option linter.all false
set_option maxRecDepth 100000
set_option maxHeartbeats 4000000
namespace Tg
open PySem PySem.Spec PyProof.Rows L2 Td GenW
/-! ### a generator is made -/
noncomputable def genF (m n : Nat) (body : FGn) : List PyData → Option (List PyData) := fun ds => if ds.length = n ∧ bndA 0 ds = true then match body (startE m ds) [] [] with
    | .nx _ w ys => cond (w.all plainOb) (some ys) none
    | _ => none
  else none
structure Made (P : Program) (w : World) (K : PySem.W.Frag) (mg : Str → Option Value) (base : Heap) (outer : List Env) (A : Around) (H : Hp) (s : Shared) (gc : Gd) (L : List PyData) (u : Value) (s' : Shared) : Prop where
  ex : ∃ (c : GCx) (a0 : Addr) (gi : Nat) (code : Code) (go : Obj) (g : Gd) (ρ : Ev) (σ : L2.St), u = .ref a0 ∧ GOk c ∧ (c.P = P ∧ c.w = w ∧ c.K = K ∧ c.mg = mg ∧ c.base = base ∧ c.outer = outer ∧ c.A = A.in1 ∧ c.n0 = s.heap.objs.size ∧ c.pn = [(a0, go)]) ∧
    ((∀ h : Heap, h.get? a0 = some go → h.IsGen a0 gi) ∧ ∃ vs, go.data = .fields vs ∧ go.cls = .type "generator") ∧ s'.gens[gi]? = some (.fresh code) ∧ s'.os = s.os ∧ AllBare s'.gens ∧ (∀ b o, s.heap.get? b = some o → s'.heap.get? b = some o) ∧ Gs c [] ⟨s, H, g, []⟩ g ρ [] σ H s' ∧ (∀ a o, g.F a = some o → gc.F a = some o) ∧ g.n = 0 ∧
    ∀ b' g' H' s2, Gs c [] b' g' ρ [] σ H' s2 → SegW (model P w) c.A (Ph c L [] b') code ((model P w).den code) [] s2
structure GnF (P : Program) (w : World) (K : PySem.W.Frag) (mg : Str → Option Value) (base : Heap) (k : Nat) (f : Addr) (fd : FuncData) (ps : List Str) (gf : List PyData → Option (List PyData)) : Prop where
  len : ∀ ds L, gf ds = some L → ds.length = ps.length
  run : ∀ (A B : Around) (outer : List Env) (s : Shared) (H : Hp) (args : Args) (us : List Value) (vs : List V) (gc : Gd) (ds L : List PyData), Room k A → Room k B → B.guards = some [] → B.frames = some outer → Env0 P w K mg base A outer s H → BindsTo s fd args (ps.zip us) → Vals vs us →
    gc.K = K → (∀ a o, gc.F a = some o → H a = some o) → (∀ p ∈ tabsL K, TabF gc.F H p.1 p.2 ∧ gc.F p.1 = none) → DqA gc vs ds → gf ds = some L →
    codeAny (model P w) A (.call (.ref f) args) (fun r s' => match r with | .ok (.ret u) => Made P w K mg base outer B H s gc L u s' | _ => False) s
theorem GnF.mono {P : Program} {w : World} {K : PySem.W.Frag} {mg : Str → Option Value} {base : Heap} {j k : Nat} {f : Addr} {fd : FuncData} {ps : List Str} {gf : List PyData → Option (List PyData)} (F : GnF P w K mg base j f fd ps gf) (h : j ≤ k) : GnF P w K mg base k f fd ps gf :=
  ⟨F.len, fun A B outer s H args us vs gc ds L hr hrB => F.run A B outer s H args us vs gc ds L (hr.mono h) (hrB.mono h)⟩
theorem cells_none : ∀ {l : List (Str × NameKind)} (n : Nat), (l.all fun y => !decide (y.2 = .cell)) = true → ∀ acc, cellsFrom n l acc = acc
  | [], _, _, _ => rfl
  | (x, k) :: l, n, h, acc => by
    have h' : (!decide (k = .cell)) = true ∧ (l.all fun y => !decide (y.2 = .cell)) = true := by simpa using h
    have hk : (k == .cell) = false := by
      have : k ≠ .cell := by simpa using h'.1
      cases k <;> first | rfl | exact absurd rfl this
    unfold cellsFrom
    rw [hk]
    exact cells_none n h'.2 acc
theorem gnf_of {P : Program} {w : World} {K : PySem.W.Frag} {mg : Str → Option Value} {base : Heap} {x qual : Str} {st : Stmt} {f : Addr} {fd : FuncData} {N ps : List Str} {k : Nat} {bf : FGn} (F : Fun K x qual st f fd) (S : GScope N ps (defScope st))
    (hbody : ∀ c : GCx, c.P = P → c.w = w → c.K = K → c.mg = mg → c.base = base → c.N = N → c.qual = qual → c.scope = defScope st → c.f = f → Room k (c.A.deeper c.env) → c.A.guards = some [] → GJs c (defBody st) bf) : GnF P w K mg base (k + 2) f fd ps (genF N.length ps.length bf) := by
  obtain ⟨oc, od, kV, doc, pm, an, cdv, ct, osl, rfl, lk, hcd⟩ := F.ex
  refine ⟨fun ds L h => ?_, fun A B outer s H args us vs gc ds L hr hrB hg hfB e0 hb r hK hF hTb hd hgf => ?_⟩
  · unfold genF at h
    split at h
    · rename_i q; exact q.1
    · cases h
  obtain ⟨⟨hlen, hbnd⟩, hbod⟩ : (ds.length = ps.length ∧ bndA 0 ds = true) ∧ ∃ ρ' w', bf (startE N.length ds) [] [] = .nx ρ' w' L ∧ w'.all plainOb = true := by
    unfold genF at hgf
    split at hgf
    · rename_i q
      refine ⟨q, ?_⟩
      split at hgf
      · rename_i ρ' w' ys e
        cases hw : w'.all plainOb with
        | true => rw [hw] at hgf; cases hgf; exact ⟨ρ', w', e, hw⟩
        | false => rw [hw] at hgf; cases hgf
      · cases hgf
    · cases hgf
  have hl : vs.length = ps.length := by rw [hd.length]; exact hlen
  have KX : K.In s.heap := e0.mod.kin.keeps fun b o e => (e0.bs b o e).1
  have lim : s.heap.NoLimit := e0.mod.nolimit.keeps fun b o e => (e0.bs b o e).1
  have hkind : ∀ y ∈ ps.zip us, (defScope st).names.lookup y.1 = some .local ∨ ((defScope st).names.lookup y.1 = some .cell ∧ ((cellsFrom (s.heap.objs.size + 1) (defScope st).names []).lookup y.1).isSome = true) := fun ⟨n, v⟩ hy => by
    rcases S.par n (List.of_mem_zip hy).1 with q | q
    · exact .inl q
    · exact .inr ⟨q, PySem.W.cellsFrom_some _ _ _ (.inl q)⟩
  refine codeAny_call_generator hr.depth (KX _ _ lk) rfl S.co S.gen rfl (PySem.W.codeRec_of KX hcd) (hb _ _ _ _ ?_)
  refine wpAny_newFunctionEnv_cells S.kind hkind fun env he s1 xx => ?_
  subst he
  have lim1 : s1.heap.NoLimit := lim.keeps xx.toInCall.keep
  refine ⟨lim1, ?_⟩
  obtain ⟨h1, tk, es1, hk1⟩ := xx.done
  have os1 : s1.os = s.os := by rw [es1]
  have gen1 : s1.gens = s.gens := by rw [es1]
  have lt1 : s.heap.objs.size < s1.heap.objs.size := xx.toInCall.ns.lt
  have kp1 : ∀ b o, s.heap.get? b = some o → s1.heap.get? b = some o := xx.toInCall.keep
  have main : ∀ (go : Obj) (nm qn : Value) (tk2 : Nat), go.cls = .type "generator" → go.data = .fields #[.int s1.gens.size 0, nm, qn] → go.slots = #[] → (∀ h : Heap, (h.push go).get? h.objs.size = some go) →
      Made P w K mg base outer B H s gc L (.ref s1.heap.objs.size) { s1 with gens := s1.gens.push (.fresh (.func (defBody st) (envOfC qual (defScope st) s.heap.objs.size f cdv))), toks := tk2, heap := s1.heap.push go } := by
    intro go nm qn tk2 hgc hgd0 hgs hgp
    have hgen : ∀ h : Heap, h.get? s1.heap.objs.size = some go → h.IsGen s1.heap.objs.size s1.gens.size := fun h e => ⟨go, nm, qn, e, hgc, hgd0, hgs⟩
    have hpushed : (s1.heap.push go).get? s1.heap.objs.size = some go := hgp _
    have e0w : Env0 P w K mg base B.in1 outer s H := ⟨hfB, e0.mod, e0.bs, e0.bsz, e0.funs, e0.frf, e0.hok, e0.bare⟩
    have I1 : Inv (gcxOf P w K mg base N qual (defScope st) f cdv B.in1 outer s H (fun _ _ _ => False) []) [] (start N vs) H s1 := inv_startG S hrB.hd e0w hl r xx
    have bare' : AllBare (s1.gens.push (.fresh (.func (defBody st) (envOfC qual (defScope st) s.heap.objs.size f cdv)))) := AllBare.push (by rw [gen1]; exact e0.bare) rfl
    have kp2 : ∀ b o, s1.heap.get? b = some o → (s1.heap.push go).get? b = some o := fun b o e => Heap.get?_push_of_some _ e
    have I2 : Inv (gcxOf P w K mg base N qual (defScope st) f cdv B.in1 outer s H (fun _ _ _ => False) []) [] (start N vs) H { s1 with gens := s1.gens.push (.fresh (.func (defBody st) (envOfC qual (defScope st) s.heap.objs.size f cdv))), toks := tk2, heap := s1.heap.push go } :=
      I1.call' (ch := []) rfl (Un.kept kp2) (I1.hok.kept kp2) bare' fun b z => by simp at z
    let c : GCx := ⟨P, w, K, mg, base, N, qual, defScope st, f, cdv, outer, B.in1, s.heap.objs.size, [(s1.heap.objs.size, go)]⟩
    have inv : Inv (c.X s H []) [] (start N vs) H { s1 with gens := s1.gens.push (.fresh (.func (defBody st) (envOfC qual (defScope st) s.heap.objs.size f cdv))), toks := tk2, heap := s1.heap.push go } := by
      refine ⟨⟨I2.ok.mod, I2.ok.kind, I2.ok.glob, I2.ok.blt, I2.ok.above, I2.ok.inj, I2.ok.has, I2.ok.cab, I2.ok.hd, I2.ok.frames, I2.ok.stk, I2.ok.exf, I2.ok.bs, I2.ok.bsz, I2.ok.noex, I2.ok.exfs, I2.ok.funs, I2.ok.frf⟩, I2.os, I2.bare, I2.base, I2.loc, I2.cell, I2.free, I2.freeC, fun p hp => ?_, I2.hok, I2.len⟩
      have hp : p ∈ ([(s1.heap.objs.size, go)] ++ []) ++ [] := hp
      rw [List.append_nil, List.append_nil, List.mem_singleton] at hp
      subst hp
      exact ⟨hpushed, I1.hok.fresh (Nat.le_refl _), Nat.ne_of_gt lt1, I1.nofs (Nat.le_refl _), fun v q => by rw [hgd0] at q; cases q⟩
    let g0 : Gd := ⟨K, gc.F, fun _ => none, fun _ => 0, 0⟩
    have dq0 : DqA g0 vs ds := (hd.cutA ds vs hbnd : DqA (gc.cut 0) vs ds).mono (g := gc.cut 0) (g' := g0) ⟨hK.symm, fun _ _ e => e, fun l hl => absurd hl (Nat.not_lt_zero l), Nat.le_refl _, hK.symm⟩ ds vs
    have rp0 : Rp g0 H [] := ⟨hF, rfl, fun l ob e => by simp at e, fun l m hl => absurd hl (Nat.not_lt_zero l), (fun a o e => by cases e), (fun p hp => let ⟨t1, t2⟩ := hTb p hp; ⟨t1, t2, rfl⟩)⟩
    have ok : GOk c := by
      refine ⟨S.kind, fun a ha => ?_, hrB.hd, fun b hb => ?_, e0.bsz⟩
      · obtain ⟨y, e⟩ := mem_cellA.mp ha
        exact xx.above y a (PySem.mem_of_lookup e)
      · obtain ⟨_, o, ho, _⟩ := e0.funs.mem hb
        exact Heap.lt_size ho
    have room : Room k (c.A.deeper c.env) := (hrB.in1).deeper _
    have gj := hbody c rfl rfl rfl rfl rfl rfl rfl rfl rfl room hg
    refine ⟨c, s1.heap.objs.size, s1.gens.size, .func (defBody st) c.env, go, g0, startE N.length ds, start N vs, rfl, ok, ⟨rfl, rfl, rfl, rfl, rfl, rfl, rfl, rfl, rfl⟩, ⟨hgen, _, hgd0, hgc⟩, Array.getElem?_push_size .., os1, bare', fun b o e => kp2 b o (kp1 b o e), ⟨inv, rp0, EnR.begin dq0, rfl, Xt.refl _, fun p hp => ?_, ⟨rfl, trivial⟩⟩, fun _ _ e => e, rfl, fun b' g' H' s2 G => ?_⟩
    · have hp : p ∈ [(s1.heap.objs.size, go)] ++ [] := hp
      rw [List.append_nil, List.mem_singleton] at hp
      subst hp
      exact ⟨Nat.le_of_lt lt1, fun q hq => absurd (show q ∈ ([] : List (Addr × Obj)) from hq) (by simp)⟩
    · refine segw_func fun J => ?_
      obtain ⟨ρ', w', eb, hw'⟩ := hbod
      refine gj L (Ph c L) (ph_yields c L) [] _ [] _ J id id { nx := fun _ w ys => ys = L ∧ w.all plainOb = true, rt := fun _ _ => False, bk := fun _ _ _ => False, ct := fun _ _ _ => False } [] b' g' _ _ _ H' s2 ⟨over_func, rfl, rfl, rfl⟩ ⟨fun _ _ _ h => by rw [h.1]; exact List.prefix_rfl, fun _ _ _ h => h.elim, fun _ _ _ h => h.elim, fun _ _ h => h.elim⟩ (fun ys b3 s3 fl h3 => ?_) G ?_
      · cases fl with
        | next =>
          obtain ⟨g3, ρ3, w3, σ3, H3, _, G3, e3, hw3⟩ := h3
          exact segw_end (.ok (.ret .none)) (ph_end ⟨e3, g3, ρ3, w3, σ3, H3, G3, hw3⟩)
        | brk => obtain ⟨_, _, _, _, _, _, _, q⟩ := h3; exact q.elim
        | cont => obtain ⟨_, _, _, _, _, _, _, q⟩ := h3; exact q.elim
        | ret u => obtain ⟨_, _, _, _, _, _, _, q⟩ := h3; exact q.elim
      · rw [eb]
        exact ⟨rfl, hw'⟩
  exact main _ _ _ _ rfl rfl rfl fun h => Heap.get?_push_size _ rfl
end Tg

set_option Elab.async false
set_option linter.all false
set_option maxRecDepth 100000
set_option maxHeartbeats 4000000
namespace Tg
open PySem PySem.Spec PyProof.Rows L2 Td GenW
/-! ### a sleeping generator, seen by its consumer -/
structure Slp (c : GCx) (X : Cx) (pins : List (Addr × Obj)) (L : List PyData) (gs : GenState) (i : Nat) (gc : Gd) (Hc : Hp) (fp : List Addr) (cl : Addr → Option Obj) (s : Shared) : Prop where
  ex : ∃ ip g ρ w σ H b sY, fp = fpOf c ip g ∧ cl = clOf c sY.heap ∧ (∀ a ∈ cellA c, Pl X pins a ∧ gc.P a = none) ∧ Gs c ip b g ρ w σ H sY ∧ w.all plainOb = true ∧ (∀ a o, g.F a = some o → gc.F a = some o) ∧
    (∀ a ∈ fpOf c ip g, Hc a = none ∧ Pl X pins a ∧ ∃ o, sY.heap.get? a = some o ∧ s.heap.get? a = some o ∧ ∀ v, o.data ≠ .cell v) ∧
    ∀ b' g' H' s2, Xt0 g g' → Gs c ip b' g' ρ w σ H' s2 → GoW (model c.P c.w) c.A (Ph c L (L.take i) b') gs s2
theorem inv_heap {X : Cx} {pins : List (Addr × Obj)} {σ : L2.St} {H : Hp} {T s : Shared} (I : Inv X pins σ H T) (h : s.heap = T.heap) (o : s.os = T.os) (b : AllBare s.gens) : Inv X pins σ H s :=
  ⟨I.ok, o.trans I.os, b, by rw [h]; exact I.base, by rw [h]; exact I.loc, by rw [h]; exact I.cell, I.free, I.freeC, by rw [h]; exact I.pin, by rw [h]; exact I.hok, I.len⟩
/-- the generator's own -/
structure OwnB (c : GCx) (X : Cx) (B : Around) (a0 : Addr) (gi : Nat) (go : Obj) : Prop where
  ok : GOk c
  si : Sits c X
  A : c.A = B.in1
  fr : B.frames = some X.stack
  pn : c.pn = [(a0, go)]
  gen : ∀ h : Heap, h.get? a0 = some go → h.IsGen a0 gi
noncomputable abbrev Own (c : GCx) (X : Cx) (a0 : Addr) (gi : Nat) (go : Obj) : Prop := OwnB c X X.A a0 gi go
theorem Slp.gen {c : GCx} {X : Cx} {pins : List (Addr × Obj)} {L : List PyData} {gs : GenState} {i : Nat} {gc : Gd} {Hc : Hp} {fp : List Addr} {cl : Addr → Option Obj} {s : Shared} {a0 : Addr} {gi : Nat} {go : Obj} {B : Around} (ow : OwnB c X B a0 gi go) (S : Slp c X pins L gs i gc Hc fp cl s) : s.heap.get? a0 = some go := by
  obtain ⟨ip, g, ρ, w, σ, H, b, sY, rfl, rfl, hC, G, hw, hF, hfp, hgo⟩ := S.ex
  have hm : (a0, go) ∈ c.pn ++ ip := by rw [ow.pn]; exact List.mem_append_left _ (List.mem_singleton.mpr rfl)
  have h1 := (G.inv.pin (a0, go) (mid_mem hm)).1
  obtain ⟨_, _, o, e1, e2, _⟩ := hfp a0 (List.mem_cons_of_mem _ (List.mem_append_left _ (List.mem_map.mpr ⟨(a0, go), hm, rfl⟩)))
  rw [h1] at e1
  cases e1
  exact e2
/-- what next(g) comes to -/
noncomputable def NextP (c : GCx) (X : Cx) (pins : List (Addr × Obj)) (L : List PyData) (gi : Nat) (i : Nat) (σc : L2.St) (wc : Ws) (gc : Gd) (r : Option Value) (s1 : Shared) : Prop :=
  (r = none ∧ L.take i = L ∧ ∃ Hc1 gc1, Xt gc gc1 ∧ Inv X pins σc Hc1 s1 ∧ Rp gc1 Hc1 wc) ∨
  ∃ u d x gs1 fp1 cl1 Hc1 gc1, r = some u ∧ L[i]? = some d ∧ RelV x u ∧ Dq gc1 x d ∧ Xt gc gc1 ∧ Inv X pins σc Hc1 s1 ∧ Rp (celG gc1 cl1) Hc1 wc ∧ isSusp gs1 = true ∧ s1.gens[gi]? = some gs1 ∧ Slp c X pins L gs1 (i + 1) gc1 Hc1 fp1 cl1 s1
theorem resume_okB {B : Around} {c : GCx} {X : Cx} {pins : List (Addr × Obj)} {L : List PyData} {a0 : Addr} {gi : Nat} {go : Obj} {gs : GenState} {i : Nat} {gc : Gd} {Hc : Hp} {fp : List Addr} {cl : Addr → Option Obj} {wc : Ws} {σc : L2.St} {s : Shared} {E : Value → Shared → Prop}
    (ow : OwnB c X B a0 gi go) (hh : B.handled = none) (hd : B.depth < recursionLimit) {ba : List Addr} (lo : Lo X pins c.n0 ba) (I : Inv X pins σc Hc s) (rc : Rp (celG gc cl) Hc wc) (hK : gc.K = X.K) (hi : i ≤ L.length) (hgs : s.gens[gi]? = some gs) (S : Slp c X pins L gs i gc Hc fp cl s) (hsz : c.n0 ≤ s.heap.objs.size) :
    wpAny (model X.prog X.w) B (pyNext (.ref a0)) (NextP c X pins L gi i σc wc gc) E s := by
  have hgen := ow.gen _ (S.gen ow)
  have hgl : gi < s.gens.size := (Array.getElem?_eq_some_iff.mp hgs).1
  obtain ⟨ip, g, ρ, w, σ, H, b, sY, rfl, rfl, hC, G, hw, hF, hfp, hgo⟩ := S.ex
  have si := ow.si
  have hcels : ∀ a ∈ cellA c, ∃ o, sY.heap.get? a = some o ∧ s.heap.get? a = some o ∧ Hc a = some (celO a o) ∧ gc.F a = none := fun a ha => by
    obtain ⟨x, e⟩ := mem_cellA.mp ha
    obtain ⟨v, o, ho, _⟩ := G.inv.cell x a e
    have ec : clOf c sY.heap a = some o := by unfold clOf; rw [if_pos ha]; exact ho
    obtain ⟨p1, p2, _⟩ := rc.pin a (celO a o) (by show celP (clOf c sY.heap) gc.P a = _; unfold celP; rw [ec])
    exact ⟨o, ho, (I.hok a _ p1).1, p1, p2⟩
  have W : Wk c (pinsAt ba (s.setGen gi .running).heap) (fpOf c ip g) sY.heap g gc Hc (s.setGen gi .running) := by
    have e := I.env0
    refine ⟨?_, hsz, fun a ha => ?_, rc.fro, hF, fun p hp => let ⟨t1, t2, _⟩ := rc.tab p (by show p ∈ tabsL gc.K; rw [hK, ← si.K]; exact hp); ⟨t1, t2⟩, fun a ha => ?_, fun p hp => ?_⟩
    · rw [si.P, si.w, si.K, si.mg, si.base, si.outer]
      exact ⟨by rw [ow.A]; exact ow.fr, e.mod, e.bs, e.bsz, e.funs, e.frf, e.hok, allBare_setGen e.bare rfl⟩
    · obtain ⟨h1, h2, o, e1, e2, _⟩ := hfp a ha
      refine ⟨h1, fun o' e' => ?_⟩
      rw [e1] at e'
      cases e'
      exact e2
    · obtain ⟨o, ho, e1, e2, e3⟩ := hcels a ha
      refine ⟨⟨o, e2⟩, e3, fun o' e' => ?_⟩
      rw [ho] at e'
      cases e'
      exact e1
    · obtain ⟨ha, e⟩ := of_pinsAt hp
      have e : s.heap.get? p.1 = some p.2 := e
      obtain ⟨hn, hx⟩ := lo.own _ ha
      refine ⟨e, ?_, fun hf => ?_, fun hz => absurd (Nat.lt_of_lt_of_le (ow.ok.frs _ hz) hn) (Nat.lt_irrefl _), fun v hv => ?_⟩
      · rcases hx with z | ⟨o, z⟩
        · rw [z]; exact I.free
        · exact (I.pin _ z).2.1
      · have q := (hfp _ hf).2.1
        rcases hx with z | ⟨o, z⟩
        · exact q.loc z
        · exact q.pin _ z rfl
      · rcases hx with z | ⟨o, z⟩
        · obtain ⟨m, ⟨o, es, ep, ho, d, _⟩, _⟩ := I.loc
          rw [z, ho] at e
          cases e
          rw [d] at hv
          cases hv
        · have q := I.pin _ z
          have q1 : s.heap.get? p.1 = some o := q.1
          rw [e] at q1
          cases q1
          exact q.2.2.2.2 v hv
  have Gw := wake_ok ow.ok G hw W
  have Ir : Inv X pins σc Hc (s.setGen gi .running) := inv_heap I rfl rfl (allBare_setGen I.bare rfl)
  have plO : ∀ a ∈ fpOf c ip g, Pl X pins a := fun a ha => (hfp a ha).2.1
  have go' := hgo _ _ _ _ (wake_xt G hF) Gw
  rw [si.P, si.w, ow.A] at go'
  have lt : (L.take i).length = i := by rw [List.length_take]; omega
  refine wpAny_gsz (n := gi + 1) hgl (next_genW (Φ := Ph c L (L.take i) (wakeB c g gc H Hc (s.setGen gi .running) (pinsAt ba (s.setGen gi .running).heap))) hh I.nolimit hd hgen hgs go' (fun r s₁ hr => ?_) fun v gd l k code p fs s₁ hs => ?_)
  · obtain ⟨rfl, hL, g1, ρ1, w1, σ1, H1, G1, hw1⟩ := ph_ret hr
    refine ⟨rfl, fun h' hk _ => .inl ⟨rfl, hL, ?_⟩⟩
    have Bk := back_ok ow.ok si (hK.trans si.K.symm) Ir (fun a ha => (hC a ha).2) (fun a o e => (clOf_in e).1) (fun a ha => let ⟨o, ho, _⟩ := hcels a ha; ⟨o, by unfold clOf; rw [if_pos ha]; exact ho⟩) (fun a ha => (hC a ha).1) rc lo W plO G1 hw1
    refine ⟨backH c s₁.heap g1 H1, backG gc g1, Bk.x, ?_, uncel Bk.rp fun a o e => (hC a (clOf_in e).1).2⟩
    exact Bk.inv.call' (ch := []) rfl (Un.kept hk) (Bk.inv.hok.kept hk) (allBare_setGen Bk.inv.bare rfl) fun b z => by simp at z
  · unfold Ph at hs
    cases em : L.length - (L.take i).length with
    | zero => rw [em] at hs; exact hs.elim
    | succ m =>
      rw [em] at hs
      obtain ⟨h1, h2, h3, ip1, g1, ρ1, w1, σ1, H1, d, x, G1, hw1, rv, dq, hb, hp, hk⟩ := hs
      refine ⟨h1, h2, fun hz => .inr ?_⟩
      have Bk := back_ok ow.ok si (hK.trans si.K.symm) Ir (fun a ha => (hC a ha).2) (fun a o e => (clOf_in e).1) (fun a ha => let ⟨o, ho, _⟩ := hcels a ha; ⟨o, by unfold clOf; rw [if_pos ha]; exact ho⟩) (fun a ha => (hC a ha).1) rc lo W plO G1 hw1
      have hlt : i < L.length := by have := hp.length_le; rw [List.length_append, lt, List.length_singleton] at this; exact this
      have hd' : L[i]? = some d := by
        obtain ⟨t, ht⟩ := hp
        have : L[i]? = (L.take i ++ [d] ++ t)[i]? := by rw [ht]
        rw [this, List.append_assoc, List.getElem?_append_right (by omega), lt]
        simp
      have tk : L.take (i + 1) = L.take i ++ [d] := by
        rw [List.take_add_one, hd']; rfl
      have K1 : g1.K = gc.K := by rw [G1.k, si.K, hK]
      have zz : gi < s₁.gens.size := by
        have q : (s₁.setGen gi (.suspended k l code p fs false)).gens.size = s₁.gens.size := setGen_size _ _ _
        have hz' : gi + 1 ≤ (s₁.setGen gi (.suspended k l code p fs false)).gens.size := hz
        omega
      refine ⟨v, d, x, .suspended k l code p fs false, fpOf c ip1 g1, clOf c s₁.heap, backH c s₁.heap g1 H1, backG gc g1, rfl, hd', rv, dq_back K1 dq hb, Bk.x, inv_heap Bk.inv rfl rfl (allBare_setGen Bk.inv.bare rfl), Bk.rp, rfl, setGen_at zz, ⟨ip1, g1, ρ1, w1, σ1, H1, _, s₁, rfl, rfl, hC, G1, hw1, fun _ _ e => e, fun a ha => ?_, fun b' g' H' s2 x' G' => ?_⟩⟩
      · obtain ⟨q1, q2, o, q3, q4⟩ := Bk.fp a ha
        exact ⟨q1, q2, o, q3, q3, q4⟩
      · show SegW _ _ _ code (k (.send .none)) fs s2
        have := hk b' g' H' s2 x' G'
        unfold Ph
        rw [tk, show L.length - (L.take i ++ [d]).length = m by rw [List.length_append, List.length_singleton]; omega]
        exact this
theorem resume_ok {c : GCx} {X : Cx} {pins : List (Addr × Obj)} {L : List PyData} {a0 : Addr} {gi : Nat} {go : Obj} {gs : GenState} {i : Nat} {gc : Gd} {Hc : Hp} {fp : List Addr} {cl : Addr → Option Obj} {wc : Ws} {σc : L2.St} {s : Shared} {E : Value → Shared → Prop}
    (ow : Own c X a0 gi go) (hh : X.A.handled = none) (hd : X.A.depth < recursionLimit) {ba : List Addr} (lo : Lo X pins c.n0 ba) (I : Inv X pins σc Hc s) (rc : Rp (celG gc cl) Hc wc) (hK : gc.K = X.K) (hi : i ≤ L.length) (hgs : s.gens[gi]? = some gs) (S : Slp c X pins L gs i gc Hc fp cl s) (hsz : c.n0 ≤ s.heap.objs.size) :
    wpAny (model X.prog X.w) X.A (pyNext (.ref a0)) (NextP c X pins L gi i σc wc gc) E s := resume_okB ow hh hd lo I rc hK hi hgs S hsz
/-- while the consumer goes on the generator's things are pinned -/
theorem Slp.pinned {c : GCx} {X : Cx} {pins : List (Addr × Obj)} {L : List PyData} {gs : GenState} {i : Nat} {gc : Gd} {Hc : Hp} {fp : List Addr} {cl : Addr → Option Obj} {σc : L2.St} {s : Shared} (S : Slp c X pins L gs i gc Hc fp cl s) (I : Inv X pins σc Hc s) : Inv X (pins ++ pinsAt fp s.heap) σc Hc s := by
  obtain ⟨ip, g, ρ, w, σ, H, b, sY, rfl, rfl, hC, G, hw, hF, hfp, hgo⟩ := S.ex
  refine I.pins_of fun p hp => (List.mem_append.mp hp).elim (fun z => I.pin p (List.mem_append_right _ z)) fun z => ?_
  obtain ⟨ha, e⟩ := of_pinsAt z
  obtain ⟨h1, h2, o, _, e2, d⟩ := hfp p.1 ha
  rw [e] at e2
  cases e2
  refine ⟨e, h1, h2.loc, fun zf => ?_, d⟩
  obtain ⟨_, o, ho, _⟩ := I.ok.funs.mem zf
  exact h2.old o ho
/-- .. and stand behind it as before -/
theorem Slp.after {c : GCx} {X : Cx} {pins : List (Addr × Obj)} {L : List PyData} {gs : GenState} {i : Nat} {gc gc' : Gd} {Hc Hc' : Hp} {fp : List Addr} {cl : Addr → Option Obj} {σc σc' : L2.St} {s s' : Shared} (S : Slp c X pins L gs i gc Hc fp cl s) (x : Xt0 gc gc') (hP : ∀ a ∈ cellA c, gc'.P a = none) (I : Inv X (pins ++ pinsAt fp s.heap) σc' Hc' s') : Slp c X pins L gs i gc' Hc' fp cl s' := by
  obtain ⟨ip, g, ρ, w, σ, H, b, sY, rfl, rfl, hC, G, hw, hF, hfp, hgo⟩ := S.ex
  refine ⟨ip, g, ρ, w, σ, H, b, sY, rfl, rfl, fun a ha => ⟨(hC a ha).1, hP a ha⟩, G, hw, fun a o e => x.ex a o (hF a o e), fun a ha => ?_, hgo⟩
  obtain ⟨h1, h2, o, e1, e2, d⟩ := hfp a ha
  have q := I.pin (a, o) (List.mem_append_right _ (List.mem_append_right _ (mem_pinsAt ha e2)))
  exact ⟨q.2.1, h2, o, e1, q.1, d⟩
theorem Slp.hP {c : GCx} {X : Cx} {pins : List (Addr × Obj)} {L : List PyData} {gs : GenState} {i : Nat} {gc : Gd} {Hc : Hp} {fp : List Addr} {cl : Addr → Option Obj} {s : Shared} (S : Slp c X pins L gs i gc Hc fp cl s) : ∀ a ∈ cellA c, gc.P a = none := by
  obtain ⟨ip, g, ρ, w, σ, H, b, sY, rfl, rfl, hC, _⟩ := S.ex
  exact fun a ha => (hC a ha).2
theorem Slp.cin {c : GCx} {X : Cx} {pins : List (Addr × Obj)} {L : List PyData} {gs : GenState} {i : Nat} {gc : Gd} {Hc : Hp} {fp : List Addr} {cl : Addr → Option Obj} {s : Shared} (S : Slp c X pins L gs i gc Hc fp cl s) : ∀ a o, cl a = some o → a ∈ cellA c := by
  obtain ⟨ip, g, ρ, w, σ, H, b, sY, rfl, rfl, hC, _⟩ := S.ex
  exact fun a o e => (clOf_in e).1
end Tg

set_option Elab.async false
set_option linter.all false
set_option maxRecDepth 100000
set_option maxHeartbeats 4000000
namespace Tg
open PySem PySem.Spec PyProof.Rows L2 Td GenW
/-! ### for x in g(..) -/
/-- cells of a frame that sleeps are known to the consumer -/
theorem inv_cels {X : Cx} {pins : List (Addr × Obj)} {σ : L2.St} {H : Hp} {s : Shared} {cl : Addr → Option Obj} (I : Inv X pins σ H s) (h : ∀ a o, cl a = some o → Pl X pins a ∧ H a = none ∧ s.heap.get? a = some o) : Inv X pins σ (celP cl H) s := by
  have hk : ∀ {a o}, H a = some o → celP cl H a = some o := fun {a o} e => by
    unfold celP
    cases q : cl a with
    | none => exact e
    | some u => rw [(h a u q).2.1] at e; cases e
  have hn : ∀ {a}, H a = none → (∀ o, cl a ≠ some o) → celP cl H a = none := fun {a} e n => by
    unfold celP
    cases q : cl a with
    | none => exact e
    | some u => exact absurd q (n u)
  have B := I.base
  refine ⟨I.ok, I.os, I.bare, ⟨B.keep, B.slot, fun b o e n hx => hn (B.free b o e n hx) fun u z => (h b u z).1.old o e, B.there, fun b xs e => hk (B.tups b xs e), fun b o u e => hk (B.frzs b o u e), fun b ps e => let ⟨m, q⟩ := B.tbls b ps e; ⟨m, hk q⟩⟩,
    I.loc, I.cell, hn I.free fun u z => (h _ u z).1.loc rfl, fun x a e => hn (I.freeC x a e) fun u z => (h _ u z).1.cel x a e rfl, fun p hp => ?_, fun a o e => ?_, I.len⟩
  · obtain ⟨p1, p2, p3, p4, p5⟩ := I.pin p hp
    exact ⟨p1, hn p2 fun u z => (h _ u z).1.pin p hp rfl, p3, p4, p5⟩
  · unfold celP at e
    cases q : cl a with
    | some u =>
      rw [q] at e
      cases e
      exact celO_ok (h a u q).2.2
    | none =>
      rw [q] at e
      exact (I.hok a o e).stay (fun _ _ _ q => q) (fun _ q => hk q) fun _ _ q => hk q
theorem rp_cels {g : Gd} {H : Hp} {w : Ws} {cl : Addr → Option Obj} (r : Rp g H w) (h : ∀ a o, cl a = some o → H a = none) : Rp (celG g cl) (celP cl H) w := by
  have hk : ∀ {a o}, H a = some o → cl a = none := fun {a o} e => by
    cases q : cl a with
    | none => rfl
    | some u => rw [h a u q] at e; cases e
  have hs : ∀ {a o}, H a = some o → celP cl H a = some o := fun {a o} e => by
    unfold celP
    rw [hk e]; exact e
  refine ⟨fun a o e => hs (r.fro a o e), r.len, fun l ob e => (r.cell l ob e).new (g' := celG g cl) cel_to fun b hb => ?_, r.inj, fun a u e => ?_, fun p hp => ?_⟩
  · obtain ⟨o, ho⟩ := Option.isSome_iff_exists.mp hb
    exact ⟨rfl, by rw [hs ho, ho]⟩
  · have e : celP cl g.P a = some u := e
    unfold celP at e
    cases q : cl a with
    | some o =>
      rw [q] at e
      cases e
      refine ⟨by unfold celP; rw [q], r.fnone (h a o q), fun l hl z => ?_⟩
      have hl : l < g.n := hl
      rw [r.len] at hl
      obtain ⟨o', e'⟩ := (r.cell l _ (List.getElem?_eq_getElem hl)).there
      have z : g.μ l = a := z
      rw [z, h a o q] at e'; cases e'
    | none =>
      rw [q] at e
      obtain ⟨p1, p2, p3⟩ := r.pin a u e
      exact ⟨hs p1, p2, p3⟩
  · obtain ⟨t1, t2, t3⟩ := r.tab p hp
    have t1' := t1
    obtain ⟨ps, e, _⟩ := t1'
    refine ⟨t1.up (fun _ _ e => e) ((hs e).trans e.symm), t2, ?_⟩
    show celP cl g.P p.1 = none
    unfold celP
    rw [hk e]; exact t3
theorem Made.ownB {B : Around} {X : Cx} {pins : List (Addr × Obj)} {σ : L2.St} {H : Hp} {s s' : Shared} {gc : Gd} {L : List PyData} {u : Value} {wc : Ws} (hfB : B.frames = some X.stack) (I : Inv X pins σ H s) (hex : X.ex = []) (r : Rp gc H wc) (M : Made X.prog X.w X.K X.mg X.base X.stack B H s gc L u s') :
    ∃ c a0 gi go gs fp cl H2, u = .ref a0 ∧ OwnB c X B a0 gi go ∧ (∃ vs, go.data = .fields vs ∧ go.cls = .type "generator") ∧ Lo X pins c.n0 [] ∧ Inv X pins σ H2 s' ∧ Rp (celG gc cl) H2 wc ∧ s'.gens[gi]? = some gs ∧ (∀ a ∈ fp, c.n0 ≤ a) ∧ Slp c X pins L gs 0 gc H2 fp cl s' := by
  obtain ⟨c, a0, gi, code, go, g, ρ, σg, rfl, ok, ⟨e1, e2, e3, e4, e5, e6, e7, e8, e9⟩, ⟨hgen, hgo⟩, hgs, hos, hba, hkp, G, hF, hn, seg⟩ := M.ex
  have lo : Lo X pins c.n0 [] := by
    rw [e8]
    refine ⟨I.sz, .inl I.lt, fun x a e => ?_, fun p hp => .inl (Heap.lt_size (I.pin p hp).1), hex, fun a z => by cases z⟩
    obtain ⟨v, o, ho, _⟩ := I.cell x a e
    exact Heap.lt_size ho
  have own0 : ownA g = [] := by unfold ownA; rw [hn]; rfl
  have hcl : ∀ a o, clOf c s'.heap a = some o → Pl X pins a ∧ H a = none ∧ s'.heap.get? a = some o := fun a o e => by
    obtain ⟨ha, ho⟩ := clOf_in e
    have hlt := ok.cellHi a ha
    refine ⟨lo.pl (Nat.le_of_lt hlt) (by simp), I.hok.fresh ?_, ho⟩
    rw [e8] at hlt
    exact Nat.le_of_lt hlt
  have hcE : ∀ a ∈ cellA c, ∃ o, clOf c s'.heap a = some o := fun a ha => by
    obtain ⟨x, e⟩ := mem_cellA.mp ha
    obtain ⟨v, o, ho, _⟩ := G.inv.cell x a e
    exact ⟨o, by unfold clOf; rw [if_pos ha]; exact ho⟩
  have hnc : ∀ {a}, H a = none → a ∉ cellA c → celP (clOf c s'.heap) H a = none := fun {a} e n => by
    unfold celP clOf
    rw [if_neg n]; exact e
  refine ⟨c, a0, gi, go, .fresh code, fpOf c [] g, clOf c s'.heap, celP (clOf c s'.heap) H, rfl, ⟨ok, ⟨e1, e2, e3, e4, e5, e6⟩, e7, hfB, e9, hgen⟩, hgo, lo, inv_cels (I.call' (ch := []) hos (Un.kept hkp) (I.hok.kept hkp) hba (fun b z => by simp at z)) hcl, rp_cels r fun a o e => (hcl a o e).2.1, hgs, fun a ha => ?_,
    ⟨[], g, ρ, [], σg, H, _, s', rfl, rfl, fun a ha => ?_, G, rfl, hF, fun a ha => ?_, fun b' g' H' s2 _ G' => ?_⟩⟩
  · unfold fpOf at ha
    rw [own0, List.append_nil] at ha
    rcases List.mem_cons.mp ha with rfl | ha
    · exact Nat.le_refl _
    · obtain ⟨p, hp, rfl⟩ := List.mem_map.mp ha
      exact (G.lo p hp).1
  · obtain ⟨o, e⟩ := hcE a ha
    refine ⟨(hcl a o e).1, ?_⟩
    cases q : gc.P a with
    | none => rfl
    | some u => have := (r.pin a u q).1; rw [(hcl a o e).2.1] at this; cases this
  · unfold fpOf at ha
    rw [own0, List.append_nil] at ha
    rcases List.mem_cons.mp ha with rfl | ha
    · refine ⟨hnc G.inv.free (fun z => absurd (ok.cellHi _ z) (Nat.lt_irrefl _)), lo.pl (Nat.le_refl _) (by simp), ?_⟩
      obtain ⟨m, ⟨o, es, ep, e, d, _⟩, _⟩ := G.inv.loc
      exact ⟨o, e, e, fun v z => by rw [d] at z; cases z⟩
    · obtain ⟨p, hp, rfl⟩ := List.mem_map.mp ha
      obtain ⟨p1, p2, p3, p4, p5⟩ := G.inv.pin p (mid_mem hp)
      refine ⟨hnc p2 (fun z => ?_), lo.pl (G.lo p hp).1 (by simp), _, p1, p1, p5⟩
      obtain ⟨x, e⟩ := mem_cellA.mp z
      obtain ⟨v, o, ho, hd⟩ := G.inv.cell x _ e
      rw [p1] at ho
      cases ho
      exact p5 v hd
  · rw [List.take_zero]
    show SegW _ _ _ _ _ _ _
    rw [e1, e2]
    exact seg b' g' H' s2 G'
theorem Slp.sz {c : GCx} {X : Cx} {pins : List (Addr × Obj)} {L : List PyData} {gs : GenState} {i : Nat} {gc : Gd} {Hc : Hp} {fp : List Addr} {cl : Addr → Option Obj} {s : Shared} (S : Slp c X pins L gs i gc Hc fp cl s) : c.n0 ≤ s.heap.objs.size := by
  obtain ⟨ip, g, ρ, w, σ, H, b, sY, rfl, rfl, hC, G, hw, hF, hfp, hgo⟩ := S.ex
  obtain ⟨_, _, o, _, e, _⟩ := hfp c.n0 List.mem_cons_self
  exact Nat.le_of_lt (Heap.lt_size e)
section
variable {X : Cx} {W : WX}
end
end Tg

set_option Elab.async false
set_option linter.all false
set_option maxRecDepth 100000
set_option maxHeartbeats 4000000
namespace Tg
open PySem PySem.Spec PyProof.Rows L2 Td GenW
/-! ### a block whose ground is what stood before the generator -/
theorem inv_trunc {Y : Cx} {pins : List (Addr × Obj)} {σ : L2.St} {H : Hp} {s : Shared} {n : Nat} (I : Inv Y pins σ H s) (hex : Y.ex = []) (hn : n ≤ Y.s_0.heap.objs.size) (hb : Y.base.objs.size ≤ n) (hf : ∀ b ∈ L2.frs Y.outer, b < n) :
    Inv { Y with s_0 := trunc n Y.s_0 } pins σ H s := by
  have o := I.ok
  have hx : ∀ {b : Addr}, b ∉ Y.ex := fun {b} z => by rw [hex] at z; cases z
  have U := I.base
  refine ⟨⟨o.mod, o.kind, o.glob, o.blt, ?_, o.inj, o.has, fun x c h e => ?_, o.hd, o.frames, o.stk, o.exf, fun b ob e => ?_, ?_, o.noex, o.exfs, funs_trunc hf o.funs, o.frf⟩, I.os, I.bare,
    ⟨fun b ob e => U.keep b ob (trunc_some hn e).2, fun b ob e => U.slot b ob (trunc_some hn e).2, fun b ob e => U.free b ob (trunc_some hn e).2, fun b ob e => U.there b ob (trunc_some hn e).2, U.tups, U.frzs, U.tbls⟩, I.loc, I.cell, I.free, I.freeC, I.pin, I.hok, I.len⟩
  · show (trunc n Y.s_0).heap.objs.size ≤ _
    rw [trunc_size hn]
    exact Nat.le_trans hn o.above
  · show (trunc n Y.s_0).heap.objs.size ≤ _
    rw [trunc_size hn]
    exact Nat.le_trans hn (o.cab x c h e)
  · obtain ⟨q1, q2⟩ := o.bs b ob e
    exact ⟨by show (trunc n Y.s_0).heap.get? b = _; rw [trunc_get (Nat.lt_of_lt_of_le (Heap.lt_size e) hb)]; exact q1, q2⟩
  · show _ ≤ (trunc n Y.s_0).heap.objs.size
    rw [trunc_size hn]
    exact hb
theorem inv_leave {X : Cx} {pins : List (Addr × Obj)} {σ : L2.St} {H H' : Hp} {s s' : Shared} {n : Nat} (I : Inv X pins σ H s) (lo : Lo X pins n []) (ho : s'.os = s.os) (u : Un (L2.frs X.stack) [] H H' (trunc n s).heap s'.heap) (hok : HOk X.prog X.w H' s'.heap) (hg : AllBare s'.gens) : Inv X pins σ H' s' := by
  have cut : ∀ {b o}, s.heap.get? b = some o → b ∉ (List.range s.heap.objs.size).filter (fun b => decide (n ≤ b)) → (trunc n s).heap.get? b = some o := fun {b o} e h => by
    have hb : b < n := Classical.byContradiction fun z => h (List.mem_filter.mpr ⟨List.mem_range.mpr (Heap.lt_size e), decide_eq_true (Nat.le_of_not_lt z)⟩)
    rw [trunc_get hb]
    exact e
  refine I.call' (ch := (List.range s.heap.objs.size).filter fun b => decide (n ≤ b)) ho ⟨fun b o e n hb hc => u.keep b o (cut e hc) n hb (by simp), fun b o e n hb hc => u.slot b o (cut e hc) n hb (by simp), fun b o e n hc => u.free b o (cut e hc) n (by simp), fun b o e hc => u.there b o (cut e hc) (by simp), u.tups, u.frzs, u.tbls⟩ hok hg fun b hb => ?_
  have hn : n ≤ b := of_decide_eq_true (List.mem_filter.mp hb).2
  have p := lo.pl hn (by simp)
  exact ⟨.inr (Nat.le_trans lo.s0 hn), p.loc, p.cel, p.pin⟩
theorem Slp.enter {c : GCx} {X B : Cx} {pins pins' : List (Addr × Obj)} {L : List PyData} {gs : GenState} {i : Nat} {gc gc' : Gd} {Hc Hc' : Hp} {fp : List Addr} {cl : Addr → Option Obj} {s s' : Shared} (S : Slp c X pins L gs i gc Hc fp cl s) (x : ∀ a o, gc.F a = some o → gc'.F a = some o) (hcc : ∀ a ∈ cellA c, Pl B pins' a ∧ gc'.P a = none)
    (hf : ∀ a ∈ fp, Hc' a = none ∧ Pl B pins' a ∧ ∀ o, s.heap.get? a = some o → s'.heap.get? a = some o) : Slp c B pins' L gs i gc' Hc' fp cl s' := by
  obtain ⟨ip, g, ρ, w, σ, H, b, sY, rfl, rfl, hC, G, hw, hF, hfp, hgo⟩ := S.ex
  refine ⟨ip, g, ρ, w, σ, H, b, sY, rfl, rfl, hcc, G, hw, fun a o e => x a o (hF a o e), fun a ha => ?_, hgo⟩
  obtain ⟨h1, h2, o, e1, e2, d⟩ := hfp a ha
  obtain ⟨q1, q2, q3⟩ := hf a ha
  exact ⟨q1, q2, o, e1, q3 o e2, d⟩
theorem Slp.fpLt {c : GCx} {X : Cx} {pins : List (Addr × Obj)} {L : List PyData} {gs : GenState} {i : Nat} {gc : Gd} {Hc : Hp} {fp : List Addr} {cl : Addr → Option Obj} {s : Shared} (S : Slp c X pins L gs i gc Hc fp cl s) : ∀ a ∈ fp, a < s.heap.objs.size ∧ Hc a = none := by
  obtain ⟨ip, g, ρ, w, σ, H, b, sY, rfl, rfl, hC, G, hw, hF, hfp, hgo⟩ := S.ex
  intro a ha
  obtain ⟨h1, h2, o, e1, e2, d⟩ := hfp a ha
  exact ⟨Heap.lt_size e2, h1⟩
theorem cloFrom_lt {cells : List (Str × Addr)} {names : List (Str × NameKind)} {n : Nat} (h : ∀ y ∈ names, y.2 = .free → ∃ c, cells.lookup y.1 = some c) (hc : ∀ x c, cells.lookup x = some c → c < n) : ∀ x c, (cloFrom cells names []).lookup x = some c → c < n := fun x c e => by
  rcases cloFrom_mem (PySem.mem_of_lookup e) with z | ⟨z1, z2⟩
  · cases z
  · obtain ⟨c', hc'⟩ := h _ z1 rfl
    have hc' : cells.lookup x = some c' := hc'
    rw [hc'] at z2
    subst z2
    exact hc x c hc'
theorem Slp.celLt {c : GCx} {X : Cx} {pins : List (Addr × Obj)} {L : List PyData} {gs : GenState} {i : Nat} {gc : Gd} {Hc : Hp} {fp : List Addr} {cl : Addr → Option Obj} {s : Shared} {σ : L2.St} {w : Ws} (S : Slp c X pins L gs i gc Hc fp cl s) (I : Inv X pins σ Hc s) (r : Rp (celG gc cl) Hc w) : ∀ a ∈ cellA c, a < s.heap.objs.size := by
  obtain ⟨ip, g, ρ, w, σ, H, b, sY, rfl, rfl, hC, G, hw, hF, hfp, hgo⟩ := S.ex
  intro a ha
  obtain ⟨x, e⟩ := mem_cellA.mp ha
  obtain ⟨v, o, ho, _⟩ := G.inv.cell x a e
  have ec : clOf c sY.heap a = some o := by unfold clOf; rw [if_pos ha]; exact ho
  obtain ⟨p1, _⟩ := r.pin a (celO a o) (by show celP (clOf c sY.heap) gc.P a = _; unfold celP; rw [ec])
  exact (I.hok a _ p1).lt
end Tg

set_option Elab.async false
set_option linter.all false
set_option maxRecDepth 100000
set_option maxHeartbeats 4000000
namespace Tg
open PySem PySem.Spec PyProof.Rows L2 Td GenW
/-- one turn of a comprehension's block over a generator -/
theorem turnG {B : Cx} {pins : List (Addr × Obj)} {σ : L2.St} {elt tg : Expr} {ifs : List Expr} {vs : List Nat} {gt : FG} {tt : FT} {fe : FE} {is : List Nat} {ρ : Ev} {w5 : Ws} {g5 : Gd} {H5 : Hp} {s5 : Shared} {L : List PyData} {i : Nat} {ba : List Addr}
    {c : GCx} {a0 : Addr} {gi : Nat} {go : Obj} {gs : GenState} {fp : List Addr} {cl : Addr → Option Obj} (hx : B.xe = fun _ _ => False) (hd : B.A.handled = none) (hdp : B.A.depth < recursionLimit)
    (hg : PGf B is tg gt) (ht : PTs B ifs (lT B.K W0 tt)) (he : PF B W0 elt fe) (his : ∀ i ∈ is, i ∈ vs)
    (hK : g5.K = B.K) (r5 : Rp (celG g5 cl) H5 w5) (en : EnR g5 (wipe σ vs) (wipeE ρ vs))
    (ow : Own c B a0 gi go) (hgo : ∃ vs, go.data = .fields vs ∧ go.cls = .type "generator") (lo : Lo B pins c.n0 ba) (I5 : Inv B pins (wipe σ vs) H5 s5) (hi : i ≤ L.length) (hgs : s5.gens[gi]? = some gs) (S : Slp c B pins L gs i g5 H5 fp cl s5)
    {R0 : Shared → Prop} {R1 : Shared → Prop} {R2 : Value → Shared → Prop} {E1 E2 E3 E4 E5 : Value → Shared → Prop}
    (hstop : ∀ H6 g6 s6, i = L.length → Xt g5 g6 → Inv B pins (wipe σ vs) H6 s6 → Rp g6 H6 w5 → R0 s6)
    (hgt : ∀ d, L[i]? = some d → ∃ ρ7 w7 b w8, gt d (wipeE ρ vs) w5 = .ok ρ7 w7 ∧ tt ρ7 w7 = .ok b w8 ∧ (b = true → ∃ y w9, fe ρ7 w8 = .ok y w9))
    (hno : ∀ d ρ7 w7 w8 H9 g9 s9 gs6 fp6 cl6, L[i]? = some d → gt d (wipeE ρ vs) w5 = .ok ρ7 w7 → tt ρ7 w7 = .ok false w8 → Xt g5 g9 → Inv B pins (wipe σ vs) H9 s9 → Rp (celG g9 cl6) H9 w8 → s9.gens[gi]? = some gs6 → Slp c B pins L gs6 (i + 1) g9 H9 fp6 cl6 s9 → R1 s9)
    (hyes : ∀ d ρ7 w7 w8 y w9 u yv σ8 H9 g9 s9 gs6 fp6 cl6 PP, L[i]? = some d → gt d (wipeE ρ vs) w5 = .ok ρ7 w7 → tt ρ7 w7 = .ok true w8 → fe ρ7 w8 = .ok y w9 → Xt g5 g9 → RelV yv u → Dq g9 yv y → Inv B (pins ++ PP) σ8 H9 s9 → Rp (celG g9 cl6) H9 w9 → (∀ a o, cl6 a = some o → a ∈ cellA c) → s9.gens[gi]? = some gs6 → isSusp gs6 = true →
      (∀ {g' H' s'}, Xt0 g9 g' → (∀ a ∈ cellA c, g'.P a = none) → Inv B (pins ++ PP) σ8 H' s' → Inv B pins (wipe σ vs) H' s' ∧ Slp c B pins L gs6 (i + 1) g' H' fp6 cl6 s') → R2 u s9) :
    wpAny (model B.prog B.w) B.A (pyNext (.ref a0)) (fun r s6 => match r with
      | none => R0 s6
      | some v => wpAny (model B.prog B.w) B.A (letOwnedTupleGo tg (.ref a0) v) (fun _ s7 => wpAny (model B.prog B.w) B.A (assign tg B.env v) (fun _ s8 =>
          wpAny (model B.prog B.w) B.A (forIn ifs true fun c r => if r = true then do let ok ← isTrue c B.env (eval c B.env); pure (ForInStep.yield ok) else pure (ForInStep.yield r)) (fun ok s9 =>
            if ok = true then wpAny (model B.prog B.w) B.A (eval elt B.env) R2 E5 s9 else R1 s9) E4 s8) E3 s7) E2 s6) E1 s5 := by
  refine thn (resume_ok ow hd hdp lo I5 r5 hK hi hgs S S.sz) fun rr s6 h6 => ?_
  rcases h6 with ⟨rfl, hL, H6, g6, x6, I6, r6⟩ | ⟨u, d, v, gs6, fp6, cl6, H6, g6, rfl, hd6, rv, dq, x6, I6, r6, hsu, hgs6, S6⟩
  · have ei : i = L.length := by
      have := congrArg List.length hL
      rw [List.length_take] at this
      omega
    exact hstop H6 g6 s6 ei x6 I6 r6
  · obtain ⟨vs', hgd, hgc⟩ := hgo
    refine go_of (S6.gen ow) hgc hgd (by decide) ?_
    have hK6 : g6.K = B.K := x6.k.trans hK
    obtain ⟨ρ7, w7, b, w8, egt, ett, efe⟩ := hgt d hd6
    have J6 : Inv B (pins ++ pinsAt fp6 s6.heap) (wipe σ vs) H6 (killS s6) := inv_heap (S6.pinned I6) rfl rfl (bare_kill I6.bare)
    have e6 : EnR g6 (wipe σ vs) (wipeE ρ vs) := en.mono x6.toXt0
    have kA := hg.run _ (killS s6) _ H6 v u (fun σ' H' => wipe σ' vs = wipe σ vs ∧ ∃ g', Xt (celG g6 cl6) g' ∧ Rp g' H' w7 ∧ EnR g' σ' ρ7) J6 rv ⟨celG g6 cl6, wipeE ρ vs, w5, d, hK6, r6, e6.mono cel_to, dq.mono cel_to _ _, by
      rw [egt]
      exact fun σ' H' g' xg rg eg sm => ⟨wipe_of_sm sm his, g', xg, rg, eg⟩⟩
    rw [hx] at kA
    refine thn (wpAny_keep (s := s6) kA) fun _ s7 ⟨kp7, T7, ⟨σ7, H7, I7, hw7, g7', x7', r7, e7'⟩, hh7, ho7, hb7⟩ => ?_
    obtain ⟨g7, rfl, x7⟩ := cel_split x7'
    have e7 := e7'.mono cel_of
    have I7' : Inv B (pins ++ pinsAt fp6 s6.heap) σ7 H7 s7 := inv_heap I7 hh7 ho7 (hb7 I7.bare)
    have hgs7 : s7.gens[gi]? = some gs6 := kp7 gi gs6 hgs6 hsu
    have kB := ht.run (pins ++ pinsAt fp6 s6.heap) (killS s7) σ7 H7 (fun b' H' => b' = b ∧ ∃ g', Xt (celG g7 cl6) g' ∧ Rp g' H' w8) (inv_heap I7' rfl rfl (bare_kill I7'.bare)) ⟨celG g7 cl6, ρ7, w7, x7.k.trans hK6, r7, e7', by
      rw [ett]
      exact fun b' H' g' xg rg eb => ⟨eb, g', xg, rg⟩⟩
    rw [hx] at kB
    refine thn (wpAny_keep (s := s7) kB) fun bb s8 ⟨kp8, T8, ⟨H8, I8, eb, g8', x8', r8⟩, hh8, ho8, hb8⟩ => ?_
    obtain ⟨g8, rfl, x8⟩ := cel_split x8'
    subst eb
    have I8' : Inv B (pins ++ pinsAt fp6 s6.heap) σ7 H8 s8 := inv_heap I8 hh8 ho8 (hb8 I8.bare)
    have hgs8 : s8.gens[gi]? = some gs6 := kp8 gi gs6 hgs7 hsu
    have x68 : Xt g6 g8 := x7.trans x8
    have hl : (wipe σ vs).length = σ7.length := by rw [← hw7, wipe_length]
    have back : ∀ {g' : Gd} {H' : Hp} {s' : Shared}, Xt0 g6 g' → (∀ a ∈ cellA c, g'.P a = none) → Inv B (pins ++ pinsAt fp6 s6.heap) σ7 H' s' → Inv B pins (wipe σ vs) H' s' ∧ Slp c B pins L gs6 (i + 1) g' H' fp6 cl6 s' := fun {g' H' s'} x hP' I' => by
      refine ⟨I'.unpinned.weak hl (fun j v e => ?_), S6.after (σc := σ) x hP' I'⟩
      rw [← hw7] at e
      exact (wipe_some e).1
    cases bb with
    | false =>
      obtain ⟨I9, S9⟩ := back x68.toXt0 (fun a ha => by rw [x68.p]; exact S6.hP a ha) I8'
      simp only [Bool.false_eq_true, if_false]
      exact hno d ρ7 w7 w8 H8 g8 s8 gs6 fp6 cl6 hd6 egt ett (x6.trans x68) I9 r8 hgs8 S9
    | true =>
      simp only [if_true]
      obtain ⟨y, w9, ey⟩ := efe rfl
      have kC := he.run (pins ++ pinsAt fp6 s6.heap) (killS s8) σ7 H8 (fun yv H' => ∃ g', Xt (celG g8 cl6) g' ∧ Rp g' H' w9 ∧ Dq g' yv y) (inv_heap I8' rfl rfl (bare_kill I8'.bare)) ⟨celG g8 cl6, ρ7, w8, x68.k.trans hK6, r8, (e7.mono x8.toXt0).mono cel_to, by
        rw [ey]
        exact fun v' H' g' xg rg dv => ⟨g', xg, rg, dv⟩⟩
      rw [hx] at kC
      refine thn (wpAny_keep (s := s8) kC) fun uu s9 ⟨kp9, T9, ⟨yv, H9, I9, rv9, g9', x9', r9, d9'⟩, hh9, ho9, hb9⟩ => ?_
      obtain ⟨g9, rfl, x9⟩ := cel_split x9'
      have d9 := d9'.mono cel_of _ _
      have I9' : Inv B (pins ++ pinsAt fp6 s6.heap) σ7 H9 s9 := inv_heap I9 hh9 ho9 (hb9 I9.bare)
      exact hyes d ρ7 w7 w8 y w9 uu yv σ7 H9 g9 s9 gs6 fp6 cl6 _ hd6 egt ett ey (x6.trans (x68.trans x9)) rv9 d9 I9' r9 S6.cin (kp9 gi gs6 hgs8 hsu) hsu fun {g' H' s'} x hP' I' => back ((x68.trans x9).toXt0.trans x) hP' I'
end Tg

set_option Elab.async false
set_option linter.all false
set_option maxRecDepth 100000
set_option maxHeartbeats 4000000
namespace Tg
open PySem PySem.Spec PyProof.Rows L2 Td GenW
noncomputable def ceOf (X : Cx) (scope : Scope) (n : Nat) : Env := compEnvC scope (cellsFrom (n + 1) scope.names (cloFrom X.env.cells scope.names [])) n X.env
noncomputable def blkS (s : Shared) (scope : Scope) : Shared := { s with heap := pushCells (s.heap.push { cls := .type "dict", data := .dict #[] }) scope.names }
noncomputable def blkB (X : Cx) (s : Shared) (H : Hp) (scope : Scope) (n : Nat) : Cx := X.blk (trunc n s) H scope (ceOf X scope s.heap.objs.size) []
theorem blk_setup {X : Cx} {pins : List (Addr × Obj)} {σ : L2.St} {H3 : Hp} {s3 : Shared} {scope : Scope} {own : List (Str × Nat)} {c : GCx} {a0 : Addr} {gi : Nat} {go : Obj} (hN : X.N.Nodup) (ok : BlkOk X.N X.env.scope scope own) (hcl : (scope.names.all fun y => !decide (y.2 = .cell)) = true)
    (I3 : Inv X pins σ H3 s3) (lo : Lo X pins c.n0 []) (ow : Own c X a0 gi go) (hn3 : c.n0 ≤ s3.heap.objs.size) :
    Inv (blkB X s3 H3 scope c.n0) [] (wipe σ (own.map (·.2))) H3 (blkS s3 scope) ∧ Own c (blkB X s3 H3 scope c.n0) a0 gi go ∧ (∀ b o, s3.heap.get? b = some o → (blkS s3 scope).heap.get? b = some o) ∧
    ∀ pins' ba, (∀ p ∈ pins', p.1 ∈ ba) → (∀ a ∈ ba, c.n0 ≤ a ∧ (a = s3.heap.objs.size ∨ ∃ o, (a, o) ∈ pins')) → s3.heap.objs.size ∈ ba → Lo (blkB X s3 H3 scope c.n0) pins' c.n0 ba := by
  have I4 := block_start (fp := []) I3 ok hN (fun b hb => absurd hb (by simp))
  have cn := cells_none (l := scope.names) (s3.heap.objs.size + 1) hcl (cloFrom X.env.cells scope.names [])
  have hfree : ∀ y ∈ scope.names, y.2 = .free → ∃ c, X.env.cells.lookup y.1 = some c := fun y hy e => by
    rcases ok.free y hy e with k | k
    · exact I3.ok.has _ (.inl k)
    · exact I3.ok.has _ (.inr k)
  refine ⟨inv_trunc (n := c.n0) I4 rfl hn3 (by have := ow.ok.bsz; rw [ow.si.base] at this; exact this) (by have := ow.ok.frs; rw [ow.si.outer] at this; exact this), ⟨ow.ok, ⟨ow.si.P, ow.si.w, ow.si.K, ow.si.mg, ow.si.base, ow.si.outer⟩, ow.A, I4.env0.frames, ow.pn, ow.gen⟩, fun b o e => pushCells_keeps _ _ _ _ (Heap.get?_push_of_some _ e), fun pins' ba h1 h2 h3 => ?_⟩
  refine ⟨Nat.le_of_eq (trunc_size hn3), .inr h3, fun x b e => ?_, fun p hp => .inr (h1 p ?_), rfl, fun a ha => ?_⟩
  · have e : (cellsFrom (s3.heap.objs.size + 1) scope.names (cloFrom X.env.cells scope.names [])).lookup x = some b := e
    rw [cn] at e
    exact cloFrom_lt hfree lo.cel x b e
  · exact (show p ∈ ([] : List (Addr × Obj)) ++ pins' from hp)
  · obtain ⟨q1, q2⟩ := h2 a ha
    refine ⟨q1, q2.imp id fun ⟨o, q⟩ => ⟨o, ?_⟩⟩
    exact (show (a, o) ∈ ([] : List (Addr × Obj)) ++ pins' from q)
theorem lcL_nox {gt : FG} {tt : FT} {fe : FE} {ρ : Ev} {c0 : Value} {f0 : List (Str × PyData)} {w0 : Ws} : ∀ (L : List PyData) (w : Ws) (acc : List PyData), lcL gt tt fe ρ L w acc ≠ .ex c0 f0 w0
  | [], w, acc, h => by rw [lcL] at h; cases h
  | d :: ds, w, acc, h => by
    rw [lcL] at h
    cases h1 : gt d ρ w with
    | ok ρ7 w7 =>
      rw [h1] at h
      simp only at h
      cases h2 : tt ρ7 w7 with
      | ok b w8 =>
        rw [h2] at h
        cases b with
        | false => exact lcL_nox ds _ _ h
        | true =>
          simp only at h
          cases h3 : fe ρ7 w8 with
          | ok y w9 =>
            rw [h3] at h
            simp only at h
            by_cases hz : acc.length < sizeLine
            · rw [if_pos hz] at h; exact lcL_nox ds _ _ h
            · rw [if_neg hz] at h; cases h
          | ex c0 f0 w0 => rw [h3] at h; cases h
          | no => rw [h3] at h; cases h
      | ex c0 f0 w0 => rw [h2] at h; cases h
      | no => rw [h2] at h; cases h
    | ex c0 f0 w0 => rw [h1] at h; cases h
    | no => rw [h1] at h; cases h
theorem lcL_step {gt : FG} {tt : FT} {fe : FE} {ρ : Ev} {L : List PyData} {i : Nat} {w w1 : Ws} {acc out : List PyData} {wo : Ws} {d : PyData} (hd : L[i]? = some d) (z : lcL gt tt fe ρ (L.drop i) w acc = .ok out wo) :
    ∃ ρ7 w7 b w8, gt d ρ w = .ok ρ7 w7 ∧ tt ρ7 w7 = .ok b w8 ∧ (b = true → ∃ y w9, fe ρ7 w8 = .ok y w9) := by
  have hlt : i < L.length := (List.getElem?_eq_some_iff.mp hd).1
  have ed : L.drop i = d :: L.drop (i + 1) := by
    rw [List.drop_eq_getElem_cons hlt]
    rw [List.getElem?_eq_getElem hlt] at hd
    rw [Option.some.inj hd]
  rw [ed, lcL] at z
  cases h1 : gt d ρ w with
  | ok ρ7 w7 =>
    rw [h1] at z
    simp only at z
    cases h2 : tt ρ7 w7 with
    | ok b w8 =>
      rw [h2] at z
      refine ⟨ρ7, w7, b, w8, rfl, h2, fun e => ?_⟩
      subst e
      simp only at z
      cases h3 : fe ρ7 w8 with
      | ok y w9 => exact ⟨y, w9, rfl⟩
      | ex c0 f0 w0 => rw [h3] at z; cases z
      | no => rw [h3] at z; cases z
    | ex c0 f0 w0 => rw [h2] at z; cases z
    | no => rw [h2] at z; cases z
  | ex c0 f0 w0 => rw [h1] at z; cases z
  | no => rw [h1] at z; cases z
theorem lcL_no {gt : FG} {tt : FT} {fe : FE} {ρ : Ev} {L : List PyData} {i : Nat} {w w7 w8 : Ws} {acc : List PyData} {d : PyData} {ρ7 : Ev} (hd : L[i]? = some d) (h1 : gt d ρ w = .ok ρ7 w7) (h2 : tt ρ7 w7 = .ok false w8) :
    lcL gt tt fe ρ (L.drop i) w acc = lcL gt tt fe ρ (L.drop (i + 1)) w8 acc := by
  have hlt : i < L.length := (List.getElem?_eq_some_iff.mp hd).1
  have ed : L.drop i = d :: L.drop (i + 1) := by
    rw [List.drop_eq_getElem_cons hlt]
    rw [List.getElem?_eq_getElem hlt] at hd
    rw [Option.some.inj hd]
  rw [ed, lcL, h1]
  simp only
  rw [h2]
theorem lcL_yes {gt : FG} {tt : FT} {fe : FE} {ρ : Ev} {L : List PyData} {i : Nat} {w w7 w8 w9 wo : Ws} {acc out : List PyData} {d y : PyData} {ρ7 : Ev} (hd : L[i]? = some d) (h1 : gt d ρ w = .ok ρ7 w7) (h2 : tt ρ7 w7 = .ok true w8) (h3 : fe ρ7 w8 = .ok y w9)
    (z : lcL gt tt fe ρ (L.drop i) w acc = .ok out wo) : acc.length < sizeLine ∧ lcL gt tt fe ρ (L.drop (i + 1)) w9 (acc ++ [y]) = .ok out wo := by
  have hlt : i < L.length := (List.getElem?_eq_some_iff.mp hd).1
  have ed : L.drop i = d :: L.drop (i + 1) := by
    rw [List.drop_eq_getElem_cons hlt]
    rw [List.getElem?_eq_getElem hlt] at hd
    rw [Option.some.inj hd]
  rw [ed, lcL, h1] at z
  simp only at z
  rw [h2] at z
  simp only at z
  rw [h3] at z
  simp only at z
  by_cases hz : acc.length < sizeLine
  · rw [if_pos hz] at z
    exact ⟨hz, z⟩
  · rw [if_neg hz] at z; cases z
section
variable {X : Cx} {W : WX}
end
end Tg

set_option Elab.async false
set_option linter.all false
set_option maxRecDepth 100000
set_option maxHeartbeats 4000000
namespace Tg
open PySem PySem.Spec PyProof.Rows L2 Td GenW
/-! ### sorted({e for x in g(..) if ..}), texts -/
section
variable {X : Cx} {W : WX}
end
end Tg

set_option Elab.async false
set_option linter.all false
set_option maxRecDepth 100000
set_option maxHeartbeats 4000000
namespace Td
open PySem PySem.Spec PyProof.Rows L2
end Td

set_option Elab.async false
set_option linter.all false
set_option maxRecDepth 100000
set_option maxHeartbeats 4000000
namespace Td
open PySem L2 PySem.Spec PyProof.Rows
open AutoSeq1 (wpAny_loadPart')
/-! ### enumerate(tuple) -/
theorem meets_enumerate_newT (l : Addr) (items : Array Value) (n : Nat) (dct : Option Addr) (sl : Array (Option Value)) :
    Meets (Builtin.«enumerate.__new__» ⟨[.type "enumerate", .ref l], []⟩) (fun _ R s => s.heap.get? l = some { cls := .type "tuple", dict := dct, data := .seq items n, slots := sl } ∧
      R (.ok (.ret (.ref (s.heap.push { cls := .type "tuple_iterator", data := .fields #[.ref l, .int 0 0] }).objs.size)))
        { s with heap := (s.heap.push { cls := .type "tuple_iterator", data := .fields #[.ref l, .int 0 0] }).push { cls := .type "enumerate", data := .fields #[.none, .bool false, .ref s.heap.objs.size, rawInt 0, .none, .none] } }) :=
  .of_wp fun prog w A R s h => by
    obtain ⟨hp, g, d, tk, os⟩ := s; obtain ⟨hl, h⟩ := h
    have hsub := sub_enumerate
    have hL : Heap.IsTuple (Shared.heap ⟨hp, g, d, tk, os⟩) l items := ⟨_, hl, rfl, n, rfl⟩
    wp_walk using wpAny_loadPart' hl
    refine wpAny_stack_any fun st => wpAny_pure ?_
    split
    · rename_i c _ _ _ _ _
      cases (c == Value.type "enumerate")
      · wp_walk using wpAny_loadPart' hl, wpAny_pyIter_tuple hL
        exact ⟨_, rfl, h⟩
      · wp_walk using wpAny_loadPart' hl, wpAny_pyIter_tuple hL
        exact ⟨_, rfl, h⟩
    · wp_walk using wpAny_loadPart' hl, wpAny_pyIter_tuple hL
      exact ⟨_, rfl, h⟩
theorem call_enumerate_tuple {prog : Program} {w : World} {A : Around} {E : Value → Shared → Prop} {s : Shared} {l : Addr} {items : Array Value} {Q : Value → Shared → Prop} (hL : s.heap.IsTuple l items)
    (h : ∀ h', IsEnum h' (s.heap.objs.size + 1) s.heap.objs.size 0 .none → h'.IsTupleIter s.heap.objs.size l 0 → h'.objs.size = s.heap.objs.size + 2 →
      (∀ b o, s.heap.get? b = some o → h'.get? b = some o) → Q (.ref (s.heap.objs.size + 1)) { s with heap := h' }) :
    wpAny (model prog w) A (call (.type "enumerate") [.ref l]) Q E s := by
  obtain ⟨⟨c, dct, dt, sl⟩, hl, hc, n, hd⟩ := hL
  replace hc : c = .type "tuple" := hc
  replace hd : dt = .seq items n := hd
  subst hc hd
  refine callType_new F.called_enumerate (by decide) (F.typeCall_enumerate_1 _) (F.newCall_enumerate_1 _) (fun obj => F.args_object_init_2 obj _) F.entry_enumerate_new
    (meets_enumerate_newT l items n dct sl) ⟨hl, ?_⟩
  have hz : (s.heap.push { cls := .type "tuple_iterator", data := .fields #[.ref l, .int 0 0] }).objs.size = s.heap.objs.size + 1 := Heap.size_push ..
  show _ ∧ _
  rw [hz]
  have he : IsEnum ((s.heap.push { cls := .type "tuple_iterator", data := .fields #[.ref l, .int 0 0] }).push
      { cls := .type "enumerate", data := .fields #[.none, .bool false, .ref s.heap.objs.size, rawInt 0, .none, .none] }) (s.heap.objs.size + 1) s.heap.objs.size 0 .none := by
    have := Heap.get?_push_size (s.heap.push { cls := .type "tuple_iterator", data := .fields #[.ref l, .int 0 0] })
      (o := { cls := .type "enumerate", data := .fields #[.none, .bool false, .ref s.heap.objs.size, rawInt 0, .none, .none] }) rfl
    rw [hz] at this; exact this
  refine ⟨⟨_, he, rfl⟩, h _ he ⟨_, Heap.get?_push_of_some _ (Heap.get?_push_size _ rfl), rfl, rfl⟩ (by rw [Heap.size_push, hz]) fun b o x => Heap.get?_push_of_some _ (Heap.get?_push_of_some _ x)⟩
/-- the tuple at a, each item in a new pair -/
noncomputable def Itet (K : PySem.W.Frag) (a : Addr) : It :=
  ⟨fun i H => ∃ (xs : List V) (x : V), SqT K H a xs ∧ xs[i]? = some x, fun i H v H' => ∃ T x, v = .ref T ∧ H T = none ∧ H' = upd H T (.tup [.int (i : Nat), x]) ∧ ∀ xs, SqT K H a xs → xs[i]? = some x, fun i H => ∃ xs : List V, SqT K H a xs ∧ xs.length = i⟩
theorem turn_enumT {P : Program} {w : World} {K : PySem.W.Frag} {elts : List Expr} {kk : Nat} {tpos : Pos} (a e it : Addr) :
    Turn P w K (.Tuple elts kk tpos) (Itet K a) [e, it] e (fun i h => (∃ old, IsEnum h e it ((i : Nat) : Int) old) ∧ h.IsTupleIter it a i ∧ e ≠ it) where
  mem := by simp
  obj := fun i h ⟨⟨old, he⟩, ⟨o, ho, hc, hd⟩, _⟩ b hb => by
    rcases (by simpa using hb : b = e ∨ b = it) with q | q
    · subst q; exact ⟨_, he, fun v q => nomatch q⟩
    · subst q; exact ⟨o, ho, fun v q => by rw [hd] at q; cases q⟩
  keep := fun i h h' ⟨⟨old, he⟩, ⟨o, ho, hr⟩, hne⟩ k => ⟨⟨old, k e (by simp) _ he⟩, ⟨o, k it (by simp) _ ho, hr⟩, hne⟩
  item := by
    intro X hP hw hK hc i pins s σ H E I hf st hg
    subst hP hw hK
    obtain ⟨⟨old, he⟩, hit, hne⟩ := st
    obtain ⟨xs, x, hq, hx⟩ := hg
    obtain ⟨its, rv, p, hz⟩ := I.tuple hq
    obtain ⟨u, hu, ru⟩ := rv.get hx
    have hel : e < s.heap.objs.size := Heap.lt_size he
    have hil : it < s.heap.objs.size := by obtain ⟨_, q, _⟩ := hit; exact Heap.lt_size q
    have ht : s.heap.IsTuple a its.toArray := by first | exact p | exact p.isTuple
    have hat : a ≠ it := fun z => by
      subst z
      obtain ⟨o1, g1, c1, _⟩ := ht
      obtain ⟨o2, g2, c2, _⟩ := hit
      rw [g1] at g2; cases g2
      rw [c1] at c2; exact absurd c2 (by decide)
    have hae : e ≠ a := fun z => by
      subst z
      obtain ⟨o1, g1, c1, _⟩ := ht
      have he' : s.heap.get? e = _ := he
      rw [g1] at he'; cases he'
      have c1 : Value.type "enumerate" = Value.type "tuple" := c1
      exact absurd c1 (by decide)
    have hlt : i < its.toArray.size := by
      have h1 := (List.getElem?_eq_some_iff.mp hu).1
      simpa using h1
    refine wpAny_pyNext_enum_itemD (Draws.tuple (A := X.A.in1) (I.ok.hd hc) it a hat its.toArray) he ⟨hit, ht⟩ hlt hne (by simp [hne, hae]) fun x' h' tk hP ho hit' hT hsz hk => ?_
    have exu : x' = u := by
      have h2 : its[i]? = some x' := by simpa using hP
      rw [hu] at h2; exact (Option.some.inj h2).symm
    subst exu
    refine ⟨_, rfl, wpAny_letOwnedTupleGo_enum (s := { s with heap := h', toks := tk + 1 }) ho fun h'' he' sb => ?_⟩
    have hT2 : h''.get? s.heap.objs.size = some { cls := .type "tuple", data := .seq #[.int i tk, x'] } := (sb.2 _ (Nat.ne_of_gt hel)).trans hT
    have new : ObjOk X.prog X.w (upd H s.heap.objs.size (.tup [.int (i : Nat), x])) h'' s.heap.objs.size (.tup [.int (i : Nat), x]) :=
      ⟨by show 2 ≤ sizeLine; decide, _, .cons ⟨tk, rfl⟩ (.cons ru .nil), ⟨_, hT2, rfl, _, rfl⟩⟩
    have J : Inv X pins σ (upd H s.heap.objs.size (.tup [.int (i : Nat), x])) { s with heap := h'', toks := tk + 1 } :=
      I.turnedNew (ch := [e, it]) (fun b ob hb q => (sb.2 b (fun y => hb (by simp [y]))).trans (hk b ob (fun y => hb (by simp [y])) (fun y => hb (by simp [y])) q)) hf (Nat.le_refl _) new
    refine ⟨.ref s.heap.objs.size, _, J, rfl, ⟨_, x, rfl, I.hok.fresh (Nat.le_refl _), rfl, fun ys hy => by rw [I.tuple_inj hy hq]; exact hx⟩, ⟨⟨x', ?_⟩, ?_, hne⟩, fun b hb => ?_⟩
    · rw [show ((i + 1 : Nat) : Int) = (i : Int) + 1 by omega]; exact he'
    · obtain ⟨o, ho', hr⟩ := hit'.1
      exact ⟨o, (sb.2 it (Ne.symm hne)).trans ho', hr⟩
    · have hb' : b < s.heap.objs.size := by
        rcases (by simpa using hb : b = e ∨ b = it) with y | y
        · subst y; exact hel
        · subst y; exact hil
      rw [upd_ne (Nat.ne_of_lt hb')]
      exact (hf b hb).1
  done := by
    intro X hP hw hK hc i pins s σ H E I hf st hg
    subst hP hw hK
    obtain ⟨⟨old, he⟩, hit, hne⟩ := st
    obtain ⟨f0, f1, f2, f3, f4, f5⟩ := hf it (by simp)
    obtain ⟨xs, hq, hx⟩ := hg
    obtain ⟨its, rv, p, hz⟩ := I.tuple hq
    have ht : s.heap.IsTuple a its.toArray := by first | exact p | exact p.isTuple
    have hat : a ≠ it := fun z => by
      subst z
      obtain ⟨o1, g1, c1, _⟩ := ht
      obtain ⟨o2, g2, c2, _⟩ := hit
      rw [g1] at g2; cases g2
      rw [c1] at c2; exact absurd c2 (by decide)
    have hl := rv.length
    have hi : i = its.toArray.size := by simp; omega
    subst hi
    exact wpAny_pyNext_enum_endD (Draws.tuple (A := X.A.in1) (I.ok.hd hc) it a hat its.toArray) he ⟨hit, ht⟩ fun h' eb => ⟨rfl, I.turned (t' := s.toks) (fun b o hb q => eb b o hb q) f0 f1 f3 f4 f5⟩
  self := fun A i s Q E ⟨⟨_, he⟩, _⟩ h => wpAny_pyIter_enum he h
theorem wk_enT {g : Gd} {a : Addr} {xs : List V} {ds : List PyData} (h : PlT g.F a xs) (d : DqA g xs ds) : WkD (Itet g.K a) g (enD 0 ds) where
  stop := fun g' H w x r => by
    rw [enD_len, ← d.length]
    exact ⟨xs, x.k ▸ r.sqT (x.sqT h), rfl⟩
  go := fun g' H w i x r hi => by
    rw [enD_len, ← d.length] at hi
    exact ⟨xs, xs[i], x.k ▸ r.sqT (x.sqT h), by simp [hi]⟩
  yld := fun g' H w i v H2 x r hi y => by
    rw [enD_len] at hi
    obtain ⟨T, b, rfl, hT, rfl, hb⟩ := y
    have hb := hb xs (x.k ▸ r.sqT (x.sqT h))
    have hd := List.getElem?_eq_getElem hi
    obtain ⟨b', h3, h4⟩ := d.get hd
    rw [hb] at h3
    cases h3
    have he := enD_get ds 0 i _ hd
    rw [Nat.zero_add] at he
    exact ⟨g'.put T (.tup [.int (i : Nat), b]), _, he, Xt.put (r.fnone hT), r.put hT, newW r hT (.cons (.int _) (.cons (h4.mono x _ _) .nil))⟩
noncomputable def iEn2 (fa : FA) : FA := fun ρ w => (fa ρ w).bind fun ds w1 => match ds with
  | [.str z] => .ok (enD 0 (chD z)) w1
  | [.list xs] => .ok (enD 0 xs) w1
  | [.tuple xs] => .ok (enD 0 xs) w1
  | _ => .no
section
variable {X : Cx} {W : WX}
noncomputable def iEnA2 (K : PySem.W.Frag) (ta : TA) : TI := fun σ H R => ta σ H fun vs H1 => (∃ z, vs = [.str z] ∧ R (Ites z) H1) ∨ (∃ a xs, vs = [.ref a] ∧ SqL K H1 a xs ∧ R (Ite K a) H1) ∨ ∃ a xs, vs = [.ref a] ∧ SqT K H1 a xs ∧ R (Itet K a) H1
theorem pi_enA2 {e : Expr} {ta : TA} {p pos tpos : Pos} {elts : List Expr} {kk : Nat} (hg : Gl X "enumerate") (hm : X.mg "enumerate" = none) (ha : PA X [e] ta) (hs : starEach [e] X.env = [(false, eval e X.env)] := by rfl) : PI X (.Tuple elts kk tpos) (.Call (.Name "enumerate" p) [e] [] pos) (iEnA2 X.K ta) := by
  refine ⟨fun pins s σ H R I h => ?_⟩
  refine Call_ (ld_blt I hg hm boot_enumerate (PyProof.Rows.callWith_type1 (thn (ha.run pos pins s σ H _ I h) fun us s1 hv => ?_) hs rfl))
  obtain ⟨vs, H1, I1, r1, q1⟩ := hv
  have apart : ∀ b, b ∈ [s1.heap.objs.size + 1, s1.heap.objs.size] → FpOk X pins H1 b := fun b hb => by
    have hle : s1.heap.objs.size ≤ b := by
      rcases (by simpa using hb : b = s1.heap.objs.size + 1 ∨ b = s1.heap.objs.size) with y | y
      · rw [y]; exact Nat.le_add_right _ _
      · rw [y]; exact Nat.le_refl _
    exact I1.fpOk hle (I1.hok.fresh hle)
  rcases q1 with ⟨z, rfl, q⟩ | ⟨a, xs, rfl, hq, q⟩ | ⟨a, xs, rfl, hq, q⟩
  · obtain ⟨u, rfl, ⟨t, rfl⟩⟩ := vals1 r1
    refine call_enumerate_str fun h' he hit hsz hk => wpAny_pyIter_enum he ?_
    exact ⟨_, [s1.heap.objs.size + 1, s1.heap.objs.size], _, _, H1, rfl, I1.kept (t' := s1.toks) hk, turn_enumS z t _ _, ⟨⟨.none, he⟩, hit, Nat.succ_ne_self _⟩, apart, q⟩
  · obtain ⟨u, rfl, ru⟩ := vals1 r1
    cases ru
    obtain ⟨its, rv, pl, hz⟩ := I1.list hq
    refine call_enumerate_list pl.isList fun h' he hit hsz hk => wpAny_pyIter_enum he ?_
    exact ⟨_, [s1.heap.objs.size + 1, s1.heap.objs.size], _, _, H1, rfl, I1.kept (t' := s1.toks) hk, turn_enum a _ _, ⟨⟨.none, he⟩, hit, Nat.succ_ne_self _⟩, apart, q⟩
  · obtain ⟨u, rfl, ru⟩ := vals1 r1
    cases ru
    obtain ⟨its, rv, pl, hz⟩ := I1.tuple hq
    have ht : s1.heap.IsTuple a its.toArray := by first | exact pl | exact pl.isTuple
    refine call_enumerate_tuple ht fun h' he hit hsz hk => wpAny_pyIter_enum he ?_
    exact ⟨_, [s1.heap.objs.size + 1, s1.heap.objs.size], _, _, H1, rfl, I1.kept (t' := s1.toks) hk, turn_enumT a _ _, ⟨⟨.none, he⟩, hit, Nat.succ_ne_self _⟩, apart, q⟩
theorem pif_enum2 {e : Expr} {fa : FA} {p pos tpos : Pos} {elts : List Expr} {kk : Nat} (hg : Gl X "enumerate") (hm : X.mg "enumerate" = none) (ha : PAf X W [e] fa) (hs : starEach [e] X.env = [(false, eval e X.env)] := by rfl) : PIf X W (.Tuple elts kk tpos) (.Call (.Name "enumerate" p) [e] [] pos) (iEn2 fa) := by
  refine pi_imp (pi_enA2 hg hm ha hs) fun σ H R ⟨g, ρ, w, hK, r, e, q⟩ => ?_
  refine lX_bind hK r e q fun v H1 g1 d w1 x r1 e1 dv z => ?_
  have hK1 := x.k.trans hK
  split at z
  · cases dv with
    | cons d0 dn =>
      cases dn; cases d0
      exact .inl ⟨_, rfl, z _ H1 g1 (Xt.refl _) r1 wk_enS⟩
  · cases dv with
    | cons d0 dn =>
      cases dn
      cases d0 with
      | lst sq da => exact .inr (.inl ⟨_, _, rfl, hK1 ▸ r1.sqL sq, hK1 ▸ z _ H1 g1 (Xt.refl _) r1 (wk_enL sq da)⟩)
  · cases dv with
    | cons d0 dn =>
      cases dn
      cases d0 with
      | tup sq da => exact .inr (.inr ⟨_, _, rfl, hK1 ▸ r1.sqT sq, hK1 ▸ z _ H1 g1 (Xt.refl _) r1 (wk_enT sq da)⟩)
  · exact z.elim
end
end Td

set_option Elab.async false
set_option linter.all false
set_option maxRecDepth 100000
set_option maxHeartbeats 4000000
namespace Tg
open PySem PySem.Spec PyProof.Rows L2 Td GenW
open Sem (wp)
variable {c : GCx}
/-! ### for, in a generator -/
noncomputable def gForL (gt : FG) (f : FGn) : List PyData → FGn
  | [] => fun ρ w ys => .nx ρ w ys
  | d :: ds => fun ρ w ys => match gt d ρ w with
    | .ok ρ1 w1 => match f ρ1 w1 ys with
      | .nx ρ2 w2 y2 => gForL gt f ds ρ2 w2 y2
      | .ct ρ2 w2 y2 => gForL gt f ds ρ2 w2 y2
      | .bk ρ2 w2 y2 => .nx ρ2 w2 y2
      | o => o
    | _ => .no
noncomputable def gFr (fi : FA) (gt : FG) (f : FGn) : FGn := fun ρ w ys => match fi ρ w with
  | .ok ds w1 => gForL gt f ds ρ w1 ys
  | _ => .no
theorem app_forL {gt : FG} {f : FGn} (b : App f) : ∀ ds, App (gForL gt f ds)
  | [] => fun _ _ _ => List.prefix_rfl
  | d :: ds => fun ρ w ys => by
    unfold gForL
    cases gt d ρ w with
    | ok ρ1 w1 =>
      have q := b ρ1 w1 ys
      simp only
      cases e : f ρ1 w1 ys with
      | nx ρ1 w1 y => rw [e] at q; exact appO.trans q (app_forL b ds _ _ _)
      | rt w1 y => rw [e] at q; exact q
      | bk ρ1 w1 y => rw [e] at q; exact q
      | ct ρ1 w1 y => rw [e] at q; exact appO.trans q (app_forL b ds _ _ _)
      | no => trivial
    | _ => trivial
theorem app_fr {fi : FA} {gt : FG} {f : FGn} (b : App f) : App (gFr fi gt f) := fun ρ w ys => by
  unfold gFr
  cases fi ρ w with
  | ok ds w1 => exact app_forL b ds ρ w1 ys
  | _ => trivial
section
variable {M : Model} {A : Around} {Φ : End → Shared → Prop} {cd : Code} {fs : List Frame} {s : Shared} {env : Env} {K : Flow → Sem PySem.Fin} {H : Value → Sem PySem.Fin} {gd : Bool → Bool} {lv : List Value → List Value}
theorem segw_runOwn {c' : Code}
    (h : ∀ p, SegW M A Φ c' (M.den c')
      (.ret (fun r => ((match r with | .ok f => (.pure f : Sem Flow) | .error e => .raise e).onRaise fun (x : Value) => do
        if (← field x 1) == Value.none then unsupported "frame.own-activation:exception-without-traceback"
        setFlight x env.frame).wrap K H gd lv) none (gd false) (lv []) cd p [] :: fs) s) :
    SegW M A Φ cd ((runOwn c' env).wrap K H gd lv) fs s :=
  segw_call h
theorem segw_forLoop {prog : Program} {w : World} {tg : Expr} {it : Value} {body : List Stmt}
    (h : wpAny (model prog w) (A.over (.forLoop tg it body [] env) fs) (pyNext it) (fun r s1 => match r with
      | none => SegW (model prog w) A Φ (.block [] env) ((model prog w).den (.block [] env)) fs s1
      | some v => wpAny (model prog w) (A.over (.forLoop tg it body [] env) fs) (letOwnedTupleGo tg it v) (fun _ s2 => wpAny (model prog w) (A.over (.forLoop tg it body [] env) fs) (assign tg env v) (fun _ s3 =>
          ∀ J, SegW (model prog w) A Φ (.forLoop tg it body [] env) ((execs body env).wrap (fun f => match f with
            | .next | .cont => .pure (.again (.forLoop tg it body [] env))
            | .brk => .pure (.done .next)
            | .ret v => .pure (.done (.ret v))) J id id) fs s3) (fun _ _ => False) s2) (fun _ _ => False) s1) (fun _ _ => False) s) :
    SegW (model prog w) A Φ (.forLoop tg it body [] env) ((model prog w).den (.forLoop tg it body [] env)) fs s := by
  show SegW _ A Φ _ ((forTurn tg it body [] env).onRaise (fun x => do noteFrame x env; theTreesLotGoes x)) fs s
  unfold forTurn
  rw [Sem.onRaise_eq_wrap, Sem.bind_eq_wrap', Sem.wrap_wrap]
  refine segw_wrap (wpAny_standAt ?_)
  rw [Sem.bind_eq_wrap', Sem.wrap_wrap]
  refine segw_wrap (wpAny_onRaise (wpAny_mono h (fun r s1 h1 => ?_) fun _ _ z => z.elim))
  cases r with
  | none => exact segw_again rfl h1
  | some v =>
    simp only at h1
    show SegW _ A Φ _ (Sem.wrap _ _ _ _ (letOwnedTupleGo tg it v >>= fun _ => assign tg env v >>= fun _ => execs body env >>= _)) fs s1
    rw [Sem.bind_eq_wrap', Sem.wrap_wrap]
    refine segw_wrap (wpAny_mono h1 (fun _ s2 h2 => ?_) fun _ _ z => z.elim)
    rw [Sem.bind_eq_wrap', Sem.wrap_wrap]
    refine segw_wrap (wpAny_mono h2 (fun _ s3 h3 => ?_) fun _ _ z => z.elim)
    rw [Sem.bind_eq_wrap', Sem.wrap_wrap]
    rw [Sem.wrap_congr (execs body env) _ _ (K' := fun f => match f with
          | .next | .cont => .pure (.again (.forLoop tg it body [] env))
          | .brk => .pure (.done .next)
          | .ret v => .pure (.done (.ret v))) (fun f => by cases f <;> rfl) (fun e => rfl)]
    exact h3 _
end
theorem gj_for {tg iter : Expr} {body : List Stmt} {pos : Pos} {fi : FA} {gt : FG} {is : List Nat} {f : FGn} (hi : ∀ s H q, PIf (c.X s H q) W0 tg iter fi) (hg : ∀ s H q, PGf (c.X s H q) is tg gt) (hb : GJs c body f) (ha : App f)
    (hs : ∀ x, foldedSetIterable iter c.env x = pure x := by intro _; rfl) : GJ c (.For tg iter body [] pos) (gFr fi gt f) := by
  intro L Ph hY ip code fs K J gd lv D ys b g ρ w σ H s gc pre gk st' hw
  show SegW _ _ _ _ ((exec (.For tg iter body [] pos) c.env).wrap K J gd lv) fs s
  rw [exec_For]
  show SegW _ _ _ _ (.at pos fun _ => ((eval iter c.env >>= fun v => foldedSetIterable iter c.env v >>= fun x => standAt iter.pos >>= fun _ => holding [x] (pyIter x) >>= fun it => runOwn (.forLoop tg it body [] c.env) c.env)).wrap K J gd lv) fs s
  refine segw_at ?_
  rw [Sem.bind_eq_wrap', Sem.wrap_wrap]
  refine segw_wrap ?_
  rw [gc.over]
  have hK : g.K = (c.X b.s b.H b.pn).K := st'.k
  unfold gFr at hw
  cases ef : fi ρ w with
  | ex c0 f0 w1 => rw [ef] at hw; exact hw.elim
  | no => rw [ef] at hw; exact hw.elim
  | ok ds w1 =>
    rw [ef] at hw
    simp only at hw
    have key := (hi b.s b.H b.pn).run ip s σ H (fun J' H' => ∃ g', Xt g g' ∧ Rp g' H' w1 ∧ WkD J' g' ds) st'.inv ⟨g, ρ, w, hK, st'.rp, st'.en, by
      rw [ef]
      exact fun J' H' g' x r q => ⟨g', x, r, q⟩⟩
    refine wpAny_mono key (fun v s1 h1 => ?_) fun x s' hx => hx.elim
    rw [hs v]
    show SegW _ _ _ _ ((standAt iter.pos >>= fun _ => holding [v] (pyIter v) >>= fun it => runOwn (.forLoop tg it body [] c.env) c.env).wrap _ _ _ _) fs s1
    rw [Sem.bind_eq_wrap', Sem.wrap_wrap]
    refine segw_wrap (wpAny_standAt ?_)
    rw [Sem.bind_eq_wrap', Sem.wrap_wrap]
    refine segw_wrap ?_
    rw [gc.over]
    refine wpAny_holding (wpAny_mono h1 (fun itv s2 h2 => ?_) fun x s' hx => hx.elim)
    obtain ⟨it, fp, tn, J', H2, e, I2, T, tn0, f2, g1, xt, r1, wk⟩ := h2
    subst e
    refine segw_runOwn fun p => ?_
    have gl := fun (kk : Result → Sem PySem.Fin) (ll : List Value) => gc_in (k := kk) (code' := .forLoop tg (.ref it) body [] c.env) (l := ll) (kp := []) (p := p) gc rfl rfl
    have stat : ∀ bb ∈ fp, bb ≠ c.env.locals ∧ bb ∉ (c.X b.s b.H b.pn).fs ∧ c.n0 ≤ bb ∧ (∀ x c', c.env.cells.lookup x = some c' → c' ≠ bb) ∧ ∀ q ∈ c.pn ++ ip, q.1 ≠ bb := fun bb h => by
      obtain ⟨q1, q2, q3, q4, q5, q6⟩ := f2 bb h
      refine ⟨q2, q3, ?_, q5, fun q hq => q6 q (mid_mem hq)⟩
      rcases q4 with z | z
      · exact absurd (show bb ∈ ([] : List Addr) from z) (by simp)
      · have z : b.s.heap.objs.size ≤ bb := z
        rw [st'.sz.1] at z; exact z
    have fpOk : ∀ {b' : Sg} {H' : Hp}, b'.s.heap.objs.size = c.n0 → (∀ bb ∈ fp, H' bb = none ∧ ∀ q ∈ b'.pn, q.1 ≠ bb) → ∀ bb ∈ fp, FpOk (c.X b'.s b'.H b'.pn) ip H' bb := fun {b' H'} hz h bb hbb => by
      obtain ⟨q1, q2, q3, q4, q5⟩ := stat bb hbb
      refine ⟨(h bb hbb).1, q1, q2, .inr (by show b'.s.heap.objs.size ≤ bb; rw [hz]; exact q3), q4, fun q hq => ?_⟩
      rcases mid_cases (show q ∈ (c.pn ++ b'.pn) ++ ip from hq) with hq | hq
      · exact q5 q hq
      · exact (h bb hbb).2 q hq
    have loop : ∀ (m i : Nat), m = ds.length - i → i ≤ ds.length → ∀ (ys : List PyData) (b : Sg) (g2 : Gd) (ρ : Ev) (w : Ws) (σ : L2.St) (H : Hp) (s : Shared), Xt0 g1 g2 → Gs c ip b g2 ρ w σ H s → tn i s.heap → (∀ bb ∈ fp, H bb = none ∧ ∀ q ∈ b.pn, q.1 ≠ bb) → wish D (gForL gt f (ds.drop i) ρ w ys) →
        SegW (model c.P c.w) c.A (Ph ys b) (.forLoop tg (.ref it) body [] c.env) ((model c.P c.w).den (.forLoop tg (.ref it) body [] c.env))
          (.ret (fun r => ((match r with | .ok f => (.pure f : Sem Flow) | .error e => .raise e).onRaise fun (x : Value) => do
            if (← field x 1) == Value.none then unsupported "frame.own-activation:exception-without-traceback"
            setFlight x c.env.frame).wrap K J gd lv) none (gd false) (lv []) code p [] :: fs) s := by
      intro m
      induction m with
      | zero =>
        intro i hm hi' ys b g2 ρ w σ H s xg st htn hfr hw
        have ei : i = ds.length := by omega
        subst ei
        rw [List.drop_length] at hw
        refine segw_forLoop ?_
        rw [(gl _ _).over]
        refine wpAny_mono (T.done (c.X b.s b.H b.pn) rfl rfl rfl rfl ds.length ip s σ H (fun _ _ => False) st.inv (fpOk st.sz.1 hfr) htn (wk.stop g2 H w xg st.rp)) (fun r s4 hr => ?_) fun _ _ z => z
        obtain ⟨rfl, I4⟩ := hr
        exact segw_leaf (.ok .next) (gk ys b s4 .next ⟨g2, ρ, w, σ, H, xt.toXt0.trans xg, ⟨I4, st.rp, st.en, st.k, st.x, st.lo, st.sz⟩, hw⟩)
      | succ m ih =>
        intro i hm hi' ys b g2 ρ w σ H s xg st htn hfr hw
        have hlt : i < ds.length := by omega
        refine segw_forLoop ?_
        rw [(gl _ _).over]
        refine wpAny_mono (T.item (c.X b.s b.H b.pn) rfl rfl rfl rfl i ip s σ H (fun _ _ => False) st.inv (fpOk st.sz.1 hfr) htn (wk.go g2 H w i xg st.rp hlt)) (fun r s4 hr => ?_) fun _ _ z => z
        obtain ⟨u, rfl, h4⟩ := hr
        refine wpAny_mono h4 (fun _ s5 h5 => ?_) fun _ _ z => z
        obtain ⟨x, H5, I5, r5, y5, st5, fr5⟩ := h5
        obtain ⟨g3, d, hd, x3, rp3, dv⟩ := wk.yld g2 H w i x H5 xg st.rp hlt y5
        have ed : ds.drop i = d :: ds.drop (i + 1) := by
          rw [List.drop_eq_getElem_cons hlt]
          rw [List.getElem?_eq_getElem hlt] at hd
          rw [Option.some.inj hd]
        rw [ed] at hw
        unfold gForL at hw
        have fr5' : ∀ bb ∈ fp, H5 bb = none ∧ ∀ q ∈ b.pn, q.1 ≠ bb := fun bb h => ⟨fr5 bb h, (hfr bb h).2⟩
        have I5' := I5.pinned (fpOk st.sz.1 fr5') (T.obj _ _ st5)
        cases hgt : gt d ρ w with
        | ex c0 f0 w3 => rw [hgt] at hw; exact hw.elim
        | no => rw [hgt] at hw; exact hw.elim
        | ok ρ1 w1' =>
          rw [hgt] at hw
          simp only at hw
          have asg := (hg b.s b.H b.pn).run _ s5 σ H5 x u (fun σ' H' => ∃ g4, Xt g3 g4 ∧ Rp g4 H' w1' ∧ EnR g4 σ' ρ1) I5' r5 ⟨g3, ρ, w, d, x3.k.trans st.k, rp3, st.en.mono x3.toXt0, dv, by
            rw [hgt]
            exact fun σ' H' g' x' r' e' _ => ⟨g', x', r', e'⟩⟩
          refine wpAny_mono asg (fun _ s6 h6 => ?_) fun _ _ z => z.elim
          obtain ⟨σ6, H6, I6, g4, x4, r4, e4⟩ := h6
          intro J2
          have lo6 : ∀ q ∈ c.pn ++ (ip ++ pinsAt fp s5.heap), c.n0 ≤ q.1 ∧ ∀ r ∈ b.pn, r.1 ≠ q.1 := fun q hq => by
            rw [← List.append_assoc] at hq
            rcases List.mem_append.mp hq with hq | hq
            · exact st.lo q hq
            · obtain ⟨ha, _⟩ := of_pinsAt hq
              exact ⟨(stat _ ha).2.2.1, (hfr _ ha).2⟩
          have up : Xt0 g2 g4 := x3.toXt0.trans x4.toXt0
          refine hb L Ph hY (ip ++ pinsAt fp s5.heap) _ _ _ J2 id id { nx := fun ρ2 w2 y2 => wish D (gForL gt f (ds.drop (i + 1)) ρ2 w2 y2), ct := fun ρ2 w2 y2 => wish D (gForL gt f (ds.drop (i + 1)) ρ2 w2 y2), bk := D.nx, rt := D.rt } ys b g4 ρ1 w1' σ6 H6 s6 (gl _ _)
            ⟨fun ρ w ys q => (app_forL ha _).pre pre q, pre.nx, fun ρ w ys q => (app_forL ha _).pre pre q, pre.rt⟩ (fun ys3 b3 s3 fl hs => ?_) ⟨I6, r4, e4, x4.k.trans (x3.k.trans st.k), st.x.trans (x3.trans x4), lo6, st.sz⟩ ?_
          · have back : ∀ {g5 : Gd} {ρ5 : Ev} {w5 : Ws} {σ5 : L2.St} {H5' : Hp}, Gs c (ip ++ pinsAt fp s5.heap) b3 g5 ρ5 w5 σ5 H5' s3 → Gs c ip b3 g5 ρ5 w5 σ5 H5' s3 := fun G => ⟨G.inv.unpinned, G.rp, G.en, G.k, G.x, fun q hq => G.lo q (by rw [← List.append_assoc]; exact List.mem_append_left _ hq), G.sz⟩
            have again : ∀ {g5 : Gd} {ρ5 : Ev} {w5 : Ws} {σ5 : L2.St} {H5' : Hp}, Xt0 g4 g5 → Gs c (ip ++ pinsAt fp s5.heap) b3 g5 ρ5 w5 σ5 H5' s3 → wish D (gForL gt f (ds.drop (i + 1)) ρ5 w5 ys3) → SegW (model c.P c.w) c.A (Ph ys3 b3) (.forLoop tg (.ref it) body [] c.env) (.pure (.again (.forLoop tg (.ref it) body [] c.env))) _ s3 := fun {g5 ρ5 w5 σ5 H5'} x5 G5 w5' =>
              segw_again rfl (ih (i + 1) (by omega) hlt ys3 b3 g5 ρ5 w5 σ5 H5' s3 (xg.trans (up.trans x5)) (back G5)
                (T.keep _ _ _ st5 fun bb hbb o e => (G5.inv.pin (bb, o) (List.mem_append_right _ (List.mem_append_right _ (mem_pinsAt hbb e)))).1)
                (fun bb hbb => by
                  obtain ⟨o, e, d'⟩ := T.obj _ _ st5 bb hbb
                  have hq : (bb, o) ∈ c.pn ++ (ip ++ pinsAt fp s5.heap) := List.mem_append_right _ (List.mem_append_right _ (mem_pinsAt hbb e))
                  exact ⟨(G5.inv.pin (bb, o) (List.mem_append_right _ (List.mem_append_right _ (mem_pinsAt hbb e)))).2.1, (G5.lo (bb, o) hq).2⟩) w5')
            cases fl with
            | next => obtain ⟨g5, ρ5, w5, σ5, H5', x5, G5, w5'⟩ := hs; exact again x5 G5 w5'
            | cont => obtain ⟨g5, ρ5, w5, σ5, H5', x5, G5, w5'⟩ := hs; exact again x5 G5 w5'
            | brk => obtain ⟨g5, ρ5, w5, σ5, H5', x5, G5, w5'⟩ := hs; exact segw_leaf (.ok .next) (gk ys3 b3 s3 .next ⟨g5, ρ5, w5, σ5, H5', (xt.toXt0.trans xg).trans (up.trans x5), back G5, w5'⟩)
            | ret u => obtain ⟨g5, ρ5, w5, σ5, H5', x5, G5, w5'⟩ := hs; exact segw_leaf (.ok (.ret u)) (gk ys3 b3 s3 (.ret u) ⟨g5, ρ5, w5, σ5, H5', (xt.toXt0.trans xg).trans (up.trans x5), back G5, w5'⟩)
          · cases e : f ρ1 w1' ys with
            | nx ρ2 w2 y => rw [e] at hw; exact hw
            | rt w2 y => rw [e] at hw; exact hw
            | bk ρ2 w2 y => rw [e] at hw; exact hw
            | ct ρ2 w2 y => rw [e] at hw; exact hw
            | no => rw [e] at hw; exact hw
    exact loop ds.length 0 (by simp) (Nat.zero_le _) ys b g1 ρ w1 σ H2 s2 (Xt.refl g1).toXt0 ⟨I2, r1, st'.en.mono xt.toXt0, xt.k.trans st'.k, st'.x.trans xt, st'.lo, st'.sz⟩ tn0 (fun bb h => ⟨(f2 bb h).1, fun q hq => (f2 bb h).2.2.2.2.2 q (List.mem_append_left _ (List.mem_append_right _ hq))⟩) hw
end Tg

set_option Elab.async false
set_option linter.all false
set_option maxRecDepth 100000
set_option maxHeartbeats 4000000
namespace Td
open PySem L2
/-! ### max, min, sorted of a list of texts -/
noncomputable def intsOf : List PyData → Option (List Int)
  | [] => some []
  | .int i :: r => (intsOf r).map (i :: ·)
  | _ :: _ => none
noncomputable def max1D (w : Ws) : List PyData → Option PyData
  | [d] => match (lstOf w d).bind intsOf with
    | some (n :: ns) => some (.int (ns.foldl max n))
    | _ => none
  | _ => none
noncomputable def max2D (_ : Ws) : List PyData → Option PyData
  | [.int i, .int j] => some (.int (if j > i then j else i))
  | _ => none
noncomputable def sortLD (w : Ws) : List PyData → Option PyData
  | [d] => match lstOf w d with
    | some ds => match strsD ds with
      | some ks => if decide (ks.length < 64) then some (.list ((srtS ks).map .str)) else none
      | none => none
    | none => none
  | _ => none
section
variable {X : Cx} {W : WX}
theorem call_max2X (hc : X.calm = true) : CallR X (.builtin "max") (rDN X.K max2D) := by
  intro pins s σ H xs us Q I rv ⟨g, w, ds, z, hK, r, dx, hz, q⟩
  unfold max2D at hz
  split at hz
  · cases hz
    cases dx with
    | cons d0 dn =>
      cases dn with
      | cons d1 dn =>
        cases dn; cases d0; cases d1
        exact call_max2 hc pins s σ H _ us Q I rv ⟨_, _, rfl, q _ H g (Xt.refl g) r (.int _)⟩
  · cases hz
theorem call_sortLX : CallR X (.builtin "sorted") (rDN X.K sortLD) := by
  intro pins s σ H xs us Q I rv ⟨g, w, ds, z, hK, r, dx, hz, q⟩
  unfold sortLD at hz
  split at hz
  · split at hz
    · rename_i l hl
      split at hz
      · rename_i ks hks
        split at hz
        · rename_i hlen
          cases hz
          cases dx with
          | cons d0 dn =>
            cases dn
            obtain ⟨a, xs, rfl, sq, da⟩ := lstOf_ok r d0 hl
            have e := strsD_ok da hks
            subst e
            refine cr_sortedS pins s σ H _ us Q I rv ⟨a, ks, rfl, hK ▸ sq, of_decide_eq_true hlen, fun ys p hp hs hn => ?_⟩
            rw [srtS_one hp hs]
            exact q _ _ _ (Xt.put (r.fnone hn)) (r.put hn) (newL r hn (dqA_strs _))
        · cases hz
      · cases hz
    · cases hz
  · cases hz
end
end Td

set_option Elab.async false
set_option linter.all false
set_option maxRecDepth 100000
set_option maxHeartbeats 4000000
namespace Tg
open PySem PySem.Spec PyProof.Rows L2 Td GenW
/-! ### sorted({e for x in .. for y in ..}), texts -/
section
variable {prog : Program} {w : World} {A : Around} {R : Result → Shared → Prop} {s : Shared} {elt t0 i0 t1 i1 : Expr} {scope : Scope} {pos : Pos} {it acc : Value} {env : Env}
end
noncomputable def lc2L (gt : FG) (fi1 : FA) (gt1 : FG) (fe : FE) (vs1 : List Nat) (ρ : Ev) : List PyData → Ws → List PyData → Oc (List PyData)
  | [], w, acc => .ok acc w
  | d :: ds, w, acc => match gt d ρ w with
    | .ok ρ1 w1 => match fi1 ρ1 w1 with
      | .ok ds1 w2 => match lcL gt1 tYs fe (wipeE ρ1 vs1) ds1 w2 acc with
        | .ok acc1 w3 => lc2L gt fi1 gt1 fe vs1 ρ ds w3 acc1
        | _ => .no
      | _ => .no
    | _ => .no
section
variable {X : Cx} {W : WX}
end
end Tg

set_option Elab.async false
set_option linter.all false
set_option maxRecDepth 100000
set_option maxHeartbeats 4000000
namespace Td
open PySem L2 PySem.Spec PyProof.Rows
set_option genInjectivity false in
set_option genSizeOf false in
/-! ### def f(*xs) -/
structure DefV (K : PySem.W.Frag) (mg : Str → Option Value) (x : Str) (st : Stmt) (p : Str) (m : Nat) where
  f : Addr
  fd : FuncData
  fn : Fun K x x st f fd
  at_ : mg x = some (.ref f)
  bd : ∀ us : List Value, us.length ≤ m → bindArgs fd ⟨us, []⟩ = (newTuple us >>= fun t => pure [(p, t)])
noncomputable def spV (K : PySem.W.Frag) (m : Nat) (gf : FF) (vs : List V) (H : Hp) (Q : VK) : Prop := ∃ g w ds, g.K = K ∧ Rp g H w ∧ DqA g vs ds ∧ ds.length ≤ m ∧ oF g Q (fun _ _ _ => False) (gf [.tuple ds] w)
structure Gv (P : Program) (w : World) (K : PySem.W.Frag) (mg : Str → Option Value) (base : Heap) (k : Nat) {x : Str} {st : Stmt} {p : Str} {m : Nat} (D : DefV K mg x st p m) (gf : FF) : Prop where
  run : ∀ (A : Around) (outer : List Env) (s : Shared) (H : Hp) (us : List Value) (vs : List V) (Q : VK), Room k A → A.guards = some [] → Env0 P w K mg base A outer s H → Vals vs us → spV K m gf vs H Q →
    codeAny (model P w) A (.call (.ref D.f) ⟨us, []⟩) (CR (L2N.CX P w) outer P w H s Q (fun _ _ _ => False)) s
theorem oF.mono {g g' : Gd} {Q : VK} {E : XK} (x : Xt g g') : ∀ {o : Oc PyData}, oF g Q E o → oF g' Q E o
  | .ok _ _, h => fun v H g2 y r q => h v H g2 (x.trans y) r q
  | .ex _ _ _, h => fun cv d H g2 hc y r q => h cv d H g2 (x.k ▸ hc) (x.trans y) r q
  | .no, h => h
/-- list(x), into the store -/
noncomputable def eLsS (fa : FA) : FE := fun ρ w => (fa ρ w).bind fun as w1 => match listD w1 as with
  | some (.list ds) => .ok (rf w1.length) (w1 ++ [.lst ds])
  | _ => .no
theorem pf_listS {X : Cx} {W : WX} {x : Str} {e : Expr} {es : List Expr} {fa : FA} {p pos : Pos} (hg : Gl X x) (hm : X.mg x = none) (hv : bootBuiltins x = some (.type "list")) (ha : PAf X W (e :: es) fa)
    (hn : x ≠ "__name__" := by decide) (hdb : (x == ("__debug__" : Str)) = false := by decide) (hs : starEach (e :: es) X.env = (false, eval e X.env) :: starEach es X.env := by rfl) (hpl : (backTo pos (starEach es X.env)).any (·.1) = false := by rfl) :
    PF X W (.Call (.Name x p) (e :: es) [] pos) (eLsS fa) := by
  refine pe_imp (pe_callTy call_list_of hg hm hv ha hn hdb hs hpl) fun σ H Q ⟨g, ρ, w, hK, r, en, q⟩ => ?_
  refine lX_bind hK r en q fun vs H1 g1 as w1 y r1 e1 dv z => ?_
  have hK1 := y.k.trans hK
  split at z
  · rename_i ds hds
    unfold listD at hds
    split at hds
    · cases dv with
      | cons d0 dn =>
        cases dn
        cases d0 with
        | tup s1 d1 =>
          cases hds
          refine ⟨_, _, rfl, .inr (hK1 ▸ r1.sqT s1), fun l hl => ?_⟩
          obtain ⟨h1, h2⟩ := newS r1 hl d1
          exact z _ _ _ Gd.al_xt h1 h2
    · cases dv with
      | cons d0 dn =>
        cases dn
        obtain ⟨l, hl, e⟩ := Option.map_eq_some_iff.mp hds
        cases e
        obtain ⟨a, xs, rfl, sq, da⟩ := lstOf_ok r1 d0 hl
        refine ⟨_, _, rfl, .inl (hK1 ▸ sq), fun l hl => ?_⟩
        obtain ⟨h1, h2⟩ := newS r1 hl da
        exact z _ _ _ Gd.al_xt h1 h2
    · cases hds
  · exact z.elim
end Td

set_option Elab.async false
set_option linter.all false
set_option maxRecDepth 100000
set_option maxHeartbeats 4000000
namespace Td
open PySem L2
/-! ### a walk by wishes: what wp.sh asks -/
section
variable {Q : PyData → Ws → Prop} {N : Ev → Ws → Prop} {R : PyData → Ws → Prop} {ρ : Ev} {w : Ws}
theorem wS_seq {f k : FS} : wS N R (sSeq f k ρ w) = wS (fun ρ1 w1 => wS N R (k ρ1 w1)) R (f ρ w) := by
  refine propext ⟨fun h => ?_, wS_Seq⟩
  unfold sSeq at h
  cases e : f ρ w with
  | nx ρ1 w1 => rw [e] at h; exact .nx h
  | rt d w1 => rw [e] at h; cases h with | rt h => exact .rt h
  | _ => rw [e] at h; cases h
theorem wO_onE {α : Type} {Q : α → Ws → Prop} {b : Bool} {x : Oc α} : wO Q (Oc.on b x) = (b = true ∧ wO Q x) := by
  cases b with
  | true => simp only [Oc.on, cond_true, true_and]
  | false => simp only [Oc.on, cond_false, wO_no, Bool.false_eq_true, false_and]
theorem wO_ofif {α : Type} {Q : α → Ws → Prop} {b : Bool} {x : α} : wO Q (Oc.of (if b = true then some x else none) w) = (b = true ∧ Q x w) := by
  cases b with
  | true => simp only [if_true, Oc.of, wO_ok, true_and]
  | false => simp only [Bool.false_eq_true, if_false, Oc.of, wO_no, false_and]
theorem wO_oksome {α : Type} {Q : α → Ws → Prop} {o : Option α} {x : α} (h : o = some x) : wO Q (Oc.of o w) = Q x w := by rw [h]; exact wO_ok
theorem wS_rtE {P : PyData → Ws → Prop} {o : Os} (h : wS (fun _ _ => False) P o) : ∃ d w, o = .rt d w ∧ P d w := by
  cases h with
  | rt h => exact ⟨_, _, rfl, h⟩
  | nx h => exact h.elim
/-- while, by what holds before each turn and a measure -/
theorem wS_whL {t : FT} {body : FS} (J : Nat → Ev → Ws → Prop) : ∀ (n m : Nat) (ρ : Ev) (w : Ws), m < n → J m ρ w →
    (∀ m ρ w, J m ρ w → wO (fun b w1 => cond b (wS (fun ρ2 w2 => ∃ m', m' < m ∧ J m' ρ2 w2) R (body ρ w1)) (N ρ w1)) (t ρ w)) → wS N R (whL t body n ρ w)
  | 0, m, _, _, h, _, _ => by omega
  | n + 1, m, ρ, w, h, hJ, hs => by
    have h0 := hs m ρ w hJ
    show wS N R ((t ρ w).thenS ρ fun b w1 => cond b (match body ρ w1 with
      | .nx ρ2 w2 => whL t body n ρ2 w2
      | .ct ρ2 w2 => whL t body n ρ2 w2
      | .bk ρ2 w2 => .nx ρ2 w2
      | o => o) (.nx ρ w1))
    rw [wS_then]
    refine wO_mono h0 fun b w1 q => ?_
    cases b with
    | false => exact .nx q
    | true =>
      simp only [cond_true] at q ⊢
      cases e : body ρ w1 with
      | nx ρ2 w2 =>
        rw [e, wS_nx] at q
        obtain ⟨m', hm, hJ'⟩ := q
        exact wS_whL J n m' ρ2 w2 (by omega) hJ' hs
      | rt d w2 => rw [e, wS_rt] at q; exact .rt q
      | _ => rw [e] at q; cases q
theorem wS_sWh {t : FT} {body : FS} (J : Nat → Ev → Ws → Prop) (m : Nat) (hm : m < 1000000) (h : J m ρ w)
    (hs : ∀ m ρ w, J m ρ w → wO (fun b w1 => cond b (wS (fun ρ2 w2 => ∃ m', m' < m ∧ J m' ρ2 w2) R (body ρ w1)) (N ρ w1)) (t ρ w)) : wS N R (sWh t body ρ w) :=
  wS_whL J 1000000 m ρ w hm h hs
theorem atL {w : Ws} {xs : List PyData} {v : Int} (h0 : 0 ≤ v) (h1 : v < xs.length) : ∃ x ∈ xs, ixD w (.list xs) (.int v) = some x := by
  obtain ⟨k, rfl⟩ : ∃ k : Nat, v = (k : Int) := ⟨v.toNat, by omega⟩
  have hk : k < xs.length := by omega
  exact ⟨xs[k], List.getElem_mem hk, Td.atI_nat (List.getElem?_eq_getElem hk)⟩
end
/-! ### == of like data -/
mutual
theorem eqv_refl : ∀ d : PyData, okD d = true → PyData.eqv d d = true
  | .none, _ => by simp [PyData.eqv]
  | .bool b, _ => by simp [PyData.eqv]
  | .int i, _ => by simp [PyData.eqv]
  | .str z, _ => by simp [PyData.eqv]
  | .list xs, h => by simp only [PyData.eqv]; exact eqvA_refl xs h
  | .tuple xs, h => by simp only [PyData.eqv]; exact eqvA_refl xs h
  | .dict _, h => by simp [okD] at h
theorem eqvA_refl : ∀ xs : List PyData, okDA xs = true → PyData.eqvAll xs xs = true
  | [], _ => by simp [PyData.eqvAll]
  | x :: xs, h => by
    have h' : okD x = true ∧ okDA xs = true := by simpa [okDA] using h
    simp [PyData.eqvAll, eqv_refl x h'.1, eqvA_refl xs h'.2]
end
end Td

set_option Elab.async false
set_option linter.all false
set_option maxRecDepth 100000
set_option maxHeartbeats 4000000
/-! Trees (notes, head, parts), places, what stands at a place, putting; plain. -/
namespace Tt
open PySem L2 Td
inductive Tr where
  | mk (ns : List Str) (h : Str) (ps : List Tr)
noncomputable def Tr.ns : Tr → List Str | .mk ns _ _ => ns
noncomputable def Tr.hd : Tr → Str | .mk _ h _ => h
noncomputable def Tr.ps : Tr → List Tr | .mk _ _ ps => ps
mutual
noncomputable def toD : Tr → PyData
  | .mk ns h ps => .tuple [.tuple (ns.map .str), .str h, .tuple (toDs ps)]
noncomputable def toDs : List Tr → List PyData
  | [] => []
  | p :: ps => toD p :: toDs ps
end
theorem toDs_map : ∀ ps : List Tr, toDs ps = ps.map toD
  | [] => rfl
  | p :: ps => by simp [toDs, toDs_map ps]
mutual
noncomputable def nds : Tr → Nat
  | .mk _ _ ps => 1 + ndsA ps
noncomputable def ndsA : List Tr → Nat
  | [] => 0
  | p :: ps => nds p + ndsA ps
end
mutual
noncomputable def hgt : Tr → Nat
  | .mk _ _ ps => hgtA ps
noncomputable def hgtA : List Tr → Nat
  | [] => 0
  | p :: ps => max (hgt p + 1) (hgtA ps)
end
mutual
noncomputable def bare : Tr → Tr
  | .mk _ h ps => .mk [] h (bareA ps)
noncomputable def bareA : List Tr → List Tr
  | [] => []
  | p :: ps => bare p :: bareA ps
end
/-- what stands at a place -/
noncomputable def sub : Tr → List Nat → Option Tr
  | t, [] => some t
  | .mk _ _ ps, k :: q => match ps[k]? with
    | some p => sub p q
    | none => none
noncomputable def put : Tr → List Nat → Tr → Tr
  | _, [], o => o
  | .mk ns h ps, k :: q, o => match ps[k]? with
    | some p => .mk ns h (ps.set k (put p q o))
    | none => .mk ns h ps
theorem sub_nil (t : Tr) : sub t [] = some t := by cases t; rfl
theorem sub_cons {ns : List Str} {h : Str} {ps : List Tr} {k : Nat} {q : List Nat} {p : Tr} (e : ps[k]? = some p) : sub (.mk ns h ps) (k :: q) = sub p q := by simp only [sub, e]
theorem put_cons {ns : List Str} {h : Str} {ps : List Tr} {k : Nat} {q : List Nat} {p o : Tr} (e : ps[k]? = some p) : put (.mk ns h ps) (k :: q) o = .mk ns h (ps.set k (put p q o)) := by simp only [put, e]
theorem sub_inv {ns : List Str} {h : Str} {ps : List Tr} {k : Nat} {q : List Nat} {a : Tr} (e : sub (.mk ns h ps) (k :: q) = some a) : ∃ p, ps[k]? = some p ∧ sub p q = some a := by
  simp only [sub] at e
  cases hp : ps[k]? with
  | none => rw [hp] at e; cases e
  | some p => rw [hp] at e; exact ⟨p, rfl, e⟩
theorem set_self {α : Type} {l : List α} {k : Nat} {x y : α} (h : l[k]? = some y) : (l.set k x)[k]? = some x := List.getElem?_set_self (List.getElem?_eq_some_iff.mp h).1
theorem set_ne {α : Type} {l : List α} {k j : Nat} {x : α} (h : k ≠ j) : (l.set k x)[j]? = l[j]? := List.getElem?_set_ne h
/-- places apart -/
theorem apart : ∀ {q r : List Nat} {t a o : Tr}, sub t q = some a → ¬ q <+: r → sub (put t q o) r = sub t r ∨ ∃ k, r <+: q ∧ r ++ k = q
  | [], r, t, a, o, h, n => absurd (List.nil_prefix) n
  | k :: q, [], t, a, o, e, n => .inr ⟨k :: q, List.nil_prefix, rfl⟩
  | k :: q, j :: r, .mk ns h ps, a, o, e, n => by
    obtain ⟨p, hp, e⟩ := sub_inv e
    rw [put_cons hp]
    by_cases hj : k = j
    · subst hj
      rw [sub_cons (set_self hp), sub_cons hp]
      rcases apart (o := o) e (fun z => n (List.cons_prefix_cons.mpr ⟨rfl, z⟩)) with z | ⟨l, z1, z2⟩
      · exact .inl z
      · exact .inr ⟨l, List.cons_prefix_cons.mpr ⟨rfl, z1⟩, by rw [List.cons_append, z2]⟩
    · left
      simp only [sub]
      rw [set_ne hj]
theorem hgtA_get : ∀ {ps : List Tr} {k : Nat} {p : Tr}, ps[k]? = some p → hgt p + 1 ≤ hgtA ps
  | y :: ps, 0, p, h => by
    have : y = p := by simpa using h
    subst this
    simp only [hgtA]; omega
  | y :: ps, k + 1, p, h => by
    have := hgtA_get (ps := ps) (k := k) (p := p) (by simpa using h)
    simp only [hgtA]; omega
mutual
theorem nds_hgt : ∀ t : Tr, hgt t < nds t
  | .mk _ _ ps => by have := ndsA_hgt ps; simp only [hgt, nds]; omega
theorem ndsA_hgt : ∀ ps : List Tr, hgtA ps ≤ ndsA ps
  | [] => Nat.le_refl _
  | p :: ps => by have h1 := nds_hgt p; have h2 := ndsA_hgt ps; simp only [hgtA, ndsA]; omega
end
/-! ### bare -/
mutual
theorem bare_bare : ∀ t : Tr, bare (bare t) = bare t
  | .mk ns h ps => by simp only [bare]; rw [bareA_bareA ps]
theorem bareA_bareA : ∀ ps : List Tr, bareA (bareA ps) = bareA ps
  | [] => rfl
  | p :: ps => by simp only [bareA]; rw [bare_bare p, bareA_bareA ps]
end
mutual
theorem nds_bare : ∀ t : Tr, nds (bare t) = nds t
  | .mk ns h ps => by simp only [bare, nds]; rw [ndsA_bare ps]
theorem ndsA_bare : ∀ ps : List Tr, ndsA (bareA ps) = ndsA ps
  | [] => rfl
  | p :: ps => by simp only [bareA, ndsA]; rw [nds_bare p, ndsA_bare ps]
end
mutual
theorem hgt_bare : ∀ t : Tr, hgt (bare t) = hgt t
  | .mk ns h ps => by simp only [bare, hgt]; rw [hgtA_bare ps]
theorem hgtA_bare : ∀ ps : List Tr, hgtA (bareA ps) = hgtA ps
  | [] => rfl
  | p :: ps => by simp only [bareA, hgtA]; rw [hgt_bare p, hgtA_bare ps]
end
/-! ### places in order -/
mutual
noncomputable def pls (a : List Nat) : Tr → List (List Nat)
  | .mk _ _ ps => a :: plsA a 0 ps
noncomputable def plsA (a : List Nat) (k : Nat) : List Tr → List (List Nat)
  | [] => []
  | p :: ps => pls (a ++ [k]) p ++ plsA a (k + 1) ps
end
mutual
theorem pls_pre (b a : List Nat) : ∀ t : Tr, pls (b ++ a) t = (pls a t).map (b ++ ·)
  | .mk ns h ps => by simp only [pls, List.map_cons]; rw [plsA_pre b a 0 ps]
theorem plsA_pre (b a : List Nat) : ∀ (k : Nat) (ps : List Tr), plsA (b ++ a) k ps = (plsA a k ps).map (b ++ ·)
  | _, [] => rfl
  | k, p :: ps => by simp only [plsA, List.map_append]; rw [List.append_assoc, pls_pre b (a ++ [k]) p, plsA_pre b a (k + 1) ps]
end
theorem pls_at (a : List Nat) (t : Tr) : pls a t = (pls [] t).map (a ++ ·) := by
  have := pls_pre a [] t
  rwa [List.append_nil] at this
mutual
theorem pls_len (a : List Nat) : ∀ t : Tr, (pls a t).length = nds t
  | .mk ns h ps => by simp only [pls, nds, List.length_cons]; rw [plsA_len a 0 ps]; omega
theorem plsA_len (a : List Nat) : ∀ (k : Nat) (ps : List Tr), (plsA a k ps).length = ndsA ps
  | _, [] => rfl
  | k, p :: ps => by simp only [plsA, ndsA, List.length_append]; rw [pls_len _ p, plsA_len a (k + 1) ps]
end
mutual
theorem pls_bare (a : List Nat) : ∀ t : Tr, pls a (bare t) = pls a t
  | .mk ns h ps => by simp only [bare, pls]; rw [plsA_bare a 0 ps]
theorem plsA_bare (a : List Nat) : ∀ (k : Nat) (ps : List Tr), plsA a k (bareA ps) = plsA a k ps
  | _, [] => rfl
  | k, p :: ps => by simp only [bareA, plsA]; rw [pls_bare _ p, plsA_bare a (k + 1) ps]
end
mutual
theorem pls_mem : ∀ (t : Tr) (q : List Nat), q ∈ pls [] t ↔ (sub t q).isSome = true
  | .mk ns h ps, [] => by simp [pls, sub]
  | .mk ns h ps, k :: q => by
    simp only [pls, List.mem_cons, reduceCtorEq, false_or]
    rw [plsA_mem ps 0 k q]
    simp [sub]
    cases ps[k]? <;> simp
theorem plsA_mem : ∀ (ps : List Tr) (j k : Nat) (q : List Nat), (k :: q) ∈ plsA [] j ps ↔ j ≤ k ∧ ((ps[k - j]?).bind fun p => sub p q).isSome = true
  | [], j, k, q => by simp [plsA]
  | p :: ps, j, k, q => by
    simp only [plsA, List.nil_append, List.mem_append]
    rw [pls_at [j] p, plsA_mem ps (j + 1) k q]
    have e : (k :: q ∈ (pls [] p).map ([j] ++ ·)) ↔ (k = j ∧ q ∈ pls [] p) := by
      simp only [List.mem_map, List.singleton_append, List.cons.injEq]
      constructor
      · rintro ⟨x, hx, rfl, rfl⟩; exact ⟨rfl, hx⟩
      · rintro ⟨rfl, h⟩; exact ⟨q, h, rfl, rfl⟩
    rw [e, pls_mem p q]
    by_cases hk : k = j
    · subst hk
      simp
      omega
    · by_cases hl : j + 1 ≤ k
      · have : k - j = (k - (j + 1)) + 1 := by omega
        rw [this]
        simp [hk, hl]
        omega
      · have : ¬ j ≤ k := by omega
        simp [hk, hl, this]
end
end Tt

set_option Elab.async false
set_option linter.all false
set_option maxRecDepth 100000
set_option maxHeartbeats 4000000
namespace Tt
open PySem L2 Td
/-! ### places within, beside -/
/-! ### what is written at a node -/
/-! ### notes in order -/
mutual
theorem pls_nodup : ∀ t : Tr, (pls [] t).Nodup
  | .mk ns h ps => by
    simp only [pls, List.nodup_cons]
    refine ⟨fun h => ?_, plsA_nodup 0 ps⟩
    have : ∀ (ps : List Tr) (j : Nat), [] ∉ plsA [] j ps := fun ps => by
      induction ps with
      | nil => intro j; simp [plsA]
      | cons p ps ih =>
        intro j h
        simp only [plsA, List.nil_append, List.mem_append] at h
        rcases h with h | h
        · rw [pls_at [j] p] at h
          obtain ⟨x, _, hx⟩ := List.mem_map.mp h
          simp at hx
        · exact ih _ h
    exact this ps 0 h
theorem plsA_nodup : ∀ (j : Nat) (ps : List Tr), (plsA [] j ps).Nodup
  | j, [] => by simp [plsA]
  | j, p :: ps => by
    simp only [plsA, List.nil_append]
    rw [List.nodup_append]
    refine ⟨?_, plsA_nodup (j + 1) ps, fun x hx y hy e => ?_⟩
    · rw [pls_at [j] p]
      exact List.nodup_iff_pairwise_ne.mpr (List.pairwise_map.mpr ((List.nodup_iff_pairwise_ne.mp (pls_nodup p)).imp fun {a b} n z => n (List.append_cancel_left z)))
    · rw [pls_at [j] p] at hx
      obtain ⟨z, _, rfl⟩ := List.mem_map.mp hx
      subst e
      have := (plsA_mem ps (j + 1) j z).mp hy
      omega
end
end Tt

set_option Elab.async false
set_option linter.all false
set_option maxRecDepth 100000
set_option maxHeartbeats 4000000
namespace Te
open PySem PySem.W PySem.Calls PySem.Spec PyProof.Rows L2 LamX NdefX
/-! ### ValueError.__init__ bound to an exception that is being made -/
section
variable {prog : Program} {w : World} {A : Around} {E : Value → Shared → Prop} {h : Heap} {g : Array GenState} {d : Drawn} {t : Nat} {os : OsState}
variable {nm q : Str} {C N : Addr} {bs bm : List Value} {hdct : Bool} {sn : List Str} {sub : List Value} {ab : Bool} {col : Option Bool} {dd : Option Addr} {k0 k1 k2 k3 k5 : Option Value}
theorem call_bwV {u e t0 : Addr} {rest : List Value} {Q : Value → Shared → Prop}
    (hC : h.get? C = some (excClassObj nm q C N bs bm hdct sn sub ab col dd k0 k1 k2 k3 k5 "ValueError.__new__")) (he : h.get? e = some (HandSPX.excO C t0)) (hu : h.get? u = some (kxs_mw "ValueError.__init__" e)) (hrest : rest.length ≤ sizeLine)
    (hq : ∀ h' t1, (∀ b o, b ≠ e → h.get? b = some o → h'.get? b = some o) → h'.get? e = some (HandSPX.excO C t1) → Q .none ⟨h', g, d, t, os⟩) :
    wpAny (model prog w) A (call (.ref u) rest) Q E ⟨h, g, d, t, os⟩ := by
  refine wpAny_call (codeAny_of_tree ?_)
  show wpAny _ A.in1 (callAny (.ref u) ⟨rest, []⟩) _ _ _
  simp only [callAny]
  refine wpAny_bind (wpAny_load hu ?_)
  simp only [kxs_mw, show (Value.type "method-wrapper" == Value.type "method" || Value.type "method-wrapper" == Value.type "builtin_function_or_method" || Value.type "method-wrapper" == Value.type "method-wrapper") = true by decide, if_true]
  refine W.KFB.if_so (by decide) ?_
  refine wpAny_bind (ESX.check_bound PySem.F.excBase_ValueError hC he rfl ?_)
  refine wpAny_bind (wpAny_pure (wpAny_pure ?_))
  refine ⟨Code.quiet_builtin _ (by decide +kernel), codeAny_builtin PySem.F.excBase_ValueError.initEntry ?_⟩
  rw [Around.under_plainId PySem.F.excBase_ValueError.init.plain _]
  wp_walk
  refine hq _ h.objs.size (fun b o hb ho => ?_) ?_
  · rw [Heap.get?_update_other _ _ (Ne.symm hb)]
    exact Heap.get?_push_of_some _ ho
  · rw [Heap.get?_update_self _ (Heap.get?_push_of_some _ he) rfl]
    rfl
end
/-- what the written part says of a class over ValueError whose __init__ says super().__init__(..) -/
structure SupC (K : Frag) (mg : Str → Option Value) (prog : Program) (C fI cc cda : Addr) (fd : FuncData) : Prop where
  oex : OexC K C
  fn : ∃ oc od osl, K.lookup fI = some ⟨oc, od, .func fd, osl⟩
  code : ∃ ccl cdd vs ccs file tf, K.lookup cda = some ⟨ccl, cdd, .fields vs, ccs⟩ ∧ vs[2]? = some (.str file tf) ∧ ((prog.main.file : Str) == file) = true
  cell : ∃ cl cld csl, K.lookup cc = some ⟨cl, cld, .cell (some (.ref C)), csl⟩
  sub : mroIn K C (.ref C) = some true
  sup : mg "super" = none
  any : nsIn K cStatics "thirdparty.any" = some none
  ini : ks_superIn K C C "__init__" = some (some (.builtin "ValueError.__init__"))
  isV : subIn K (.ref C) (.type "ValueError") = some true
  top : (prog.main.scope.names.lookup ("super" : Str)).isSome = false
section
variable {X : Cx} {σ : L2.St} {H : Hp} {s : Shared}
theorem super_run {C fI cc cda a : Addr} {fd : FuncData} {ar : Arg} {body : List Stmt} {e : Expr} {es : List Expr} {ta : TA} {p0 p1 p2 pos : Pos} {pl : Sem Bool} {R : Hp → Prop} (T : SupC X.K X.mg X.prog C fI cc cda fd) (I : Inv X [] σ H s)
    (hks : X.env.kindOf "super" = some .globalImplicit) (hkc : X.env.kindOf "__class__" = some .free) (hka : X.env.kindOf ar.arg = some .local) (hcl : X.env.cells.lookup ("__class__" : Str) = some cc) (hfu : X.env.func = some fI) (hco : X.env.code = .ref cda)
    (hp : (fd.params.posonlyargs ++ fd.params.args).head? = some ar) (hN : X.N[0]? = some ar.arg) (hσ : σ[0]? = some (some (.ref a))) (ea : H a = some (exo a C none)) (ha : PA X (e :: es) ta)
    (h : ta σ H fun vs H1 => vs.length ≤ 1000 ∧ H1 a = some (exo a C none) ∧ R H1)
    (he : eval (.Call (.Attribute (.Call (.Name "super" p0) [] [] p1) "__init__" p2) (e :: es) [] pos) X.env = (do
      let ov ← attributeBase (.Call (.Name "super" p0) [] [] p1) "__init__" X.env (eval (.Call (.Name "super" p0) [] [] p1) X.env)
      standAt p2.atName
      let (f, first) ← holding [ov] (getMethod ov "__init__" pl)
      callWith pos f first (backTo pos (starEach (e :: es) X.env)) []) := by rfl)
    (hs : starEach (e :: es) X.env = (false, eval e X.env) :: starEach es X.env := by rfl) (hpl : (backTo pos (starEach es X.env)).any (·.1) = false := by rfl) :
    _root_.PySem.wpAt (model X.prog X.w) X.A (.func body X.env) (eval (.Call (.Attribute (.Call (.Name "super" p0) [] [] p1) "__init__" p2) (e :: es) [] pos) X.env) (fun _ s' => ∃ H1, Inv X [] σ H1 s' ∧ R H1) X.xe s := by
  obtain ⟨oc, od, osl, hf⟩ := T.fn
  obtain ⟨ccl, cdd, vs, ccs, file, tf, hcode, hvs, hfile⟩ := T.code
  obtain ⟨cl, cld, csl, hcell⟩ := T.cell
  obtain ⟨nm, q, N', bs, bm, sn, sub, ab, col, dd, k0, k1, k2, k3, k5, hC, hbm⟩ := T.oex.cls
  have hclC : clsIn X.K C = some { name := nm, bases := bs, mro := .ref C :: bm, ns := N', qualname := q, hasDict := true, slotNames := sn, subclasses := sub, abstract := ab, collection := col, hasDel := false } := by unfold clsIn; rw [hC] <;> rfl
  obtain ⟨t1, ho⟩ := exo_at I.hok ea
  obtain ⟨mb, hb1, hb2⟩ := I.mod.blt
  obtain ⟨m, hn, hl⟩ := I.loc
  have hm : m ar.arg = some (.ref a) := by
    obtain ⟨u, ru, lk⟩ := hl 0 ar.arg (.ref a) hN hσ (.inl hka)
    rcases lk with ⟨_, z⟩ | ⟨k, _⟩
    · obtain rfl : u = Value.ref a := ru
      exact z
    · rcases k with k | k <;> rw [hka] at k <;> cases k
  have X1 := I.kIn
  refine ks_wpAt_MethodCall (pl := pl) (ks_wpAt_super_base hks hkc rfl hfu (X1 _ _ hf) rfl hp hco (X1 _ _ hcode) rfl hvs hfile T.top ?_) he
  refine ks_loadName_global I.ok.kind hks (loadGlobal_builtin (by rw [I.ok.glob]; exact I.mod.glob.keeps I.bk) T.sup (by rw [I.ok.blt]; exact hb1.keeps I.bk) ((hb2 _ (by decide)).trans Boot.«super») ⟨rfl, ?_⟩)
  refine wpAny_loadName_free I.ok.kind hkc hcl ⟨_, X1 _ _ hcell, rfl⟩ ?_
  refine wpAny_loadName_local I.ok.kind hka hn hm ?_
  obtain ⟨hh, g, d, t, os⟩ := s
  have hD1 := X1 _ _ hC
  refine ks_wpAny_isType_cls hD1 rfl ⟨rfl, ?_⟩
  refine ks_wpAny_call_super hD1 rfl ho rfl (fun c e => by cases e) (looks_mroIn X1 T.sub) (fun h' hso k => ?_)
  have I2 : Inv X [] σ H ⟨h', g, d, t, os⟩ := I.kept (t' := t) k
  have hini := T.ini
  unfold ks_superIn at hini
  rw [hclC] at hini
  have J : InstAt h' a ({ cls := .ref C, data := .fields #[.ref t1, .none, .none, .none, .bool false, .none] } : Obj) C none := ⟨k _ _ ho, rfl, rfl, trivial⟩
  have hI : Looks (model X.prog X.w) h' (isInstance (.ref a) (.type "ValueError")) true := J.type.andThen (looks_subIn I2.kIn T.isV)
  refine kxs_getMethod kxs_ValueError hso (looks_opaque I2.kIn T.any) (l₀ := .ref C :: bm) ?_ rfl I2.kIn hini hI (ks_ne I2.kIn J hclC) rfl ?_
  · exact fun A Q E s k q => wpAny_bind ((looks_clsIn I2.kIn hclC) A _ E s k (wpAny_pure q))
  have up : ∀ b o, h'.get? b = some o → (h'.push (kxs_mw "ValueError.__init__" a)).get? b = some o := fun b o e => Heap.get?_push_of_some _ e
  have I3 : Inv X [] σ H ⟨h'.push (kxs_mw "ValueError.__init__" a), g, d, t + 1, os⟩ := I2.kept (t' := t + 1) up
  have I4 : Inv X [(h'.objs.size, kxs_mw "ValueError.__init__" a)] σ H ⟨h'.push (kxs_mw "ValueError.__init__" a), g, d, t + 1, os⟩ := I3.pins_of fun p hp => by
    rw [List.mem_singleton] at hp
    subst hp
    exact ⟨Heap.get?_push_at rfl rfl, I2.hok.fresh (Nat.le_refl _), Nat.ne_of_gt I2.lt, I2.nofs (Nat.le_refl _), fun v z => by cases z⟩
  show wpAny _ _ (callWith pos (.ref h'.objs.size) [] (backTo pos (starEach (e :: es) X.env)) []) _ _ _
  have hrun : wpAny (model X.prog X.w) X.A (spliced (backTo pos (starEach (e :: es) X.env))) (fun us s5 => KxsAt "ValueError.__init__" h'.objs.size a s5.heap ∧ wpAny (model X.prog X.w) X.A (call (.ref h'.objs.size) us) (fun _ s' => ∃ H1, Inv X [] σ H1 s' ∧ R H1) X.xe s5) X.xe ⟨h'.push (kxs_mw "ValueError.__init__" a), g, d, t + 1, os⟩ := by
    refine thn (ha.run pos _ _ σ H _ I4 h) fun us s5 ⟨vs5, H5, I5, r5, hz, e5, hR⟩ => ?_
    have hmw : s5.heap.get? h'.objs.size = some (kxs_mw "ValueError.__init__" a) := (I5.pin (h'.objs.size, kxs_mw "ValueError.__init__" a) (List.mem_append_right _ List.mem_cons_self)).1
    refine ⟨hmw, ?_⟩
    obtain ⟨t5, ho5⟩ := exo_at I5.hok e5
    obtain ⟨hp5, g5, d5, tk5, os5⟩ := s5
    refine call_bwV (I5.kIn _ _ hC) ho5 hmw (by rw [← Paired.length r5, sizeLine_eq]; omega) fun h6 t6 k6 hx6 => ?_
    have I6 := I5.write (t' := tk5) (x := a) (e := a) (o := exo a C none) (by rw [e5]; exact True.intro) (.inl rfl) k6 ⟨_, hx6⟩ (exo_ok hx6)
    have eu : upd H5 a (exo a C none) = H5 := by
      funext b
      by_cases hb : b = a
      · rw [hb, upd_same, e5]
      · rw [upd_ne hb]
    rw [eu] at I6
    exact ⟨H5, Inv.unpinned (pins := []) I6, hR⟩
  rw [hs] at hrun ⊢
  exact kxs_callWith (i := "ValueError.__init__") (x := a) (by show (false || (backTo pos (starEach es X.env)).any (·.1)) = false; rw [hpl]; rfl) (evalArgs_plain hrun)
end
end Te

set_option Elab.async false
set_option linter.all false
set_option maxRecDepth 100000
set_option maxHeartbeats 4000000
namespace Te
open PySem PySem.W PySem.Calls PySem.Spec PyProof.Rows L2 LamX NdefX
/-! ### an __init__ that says super().__init__(..) first -/
section
variable {CX : CXT} {P : Program} {w : World} {K : Frag} {mg : Str → Option Value} {base : Heap} {N ps : List Str} {F : NF} {f C cc : Addr} {k : Nat} {sp : Sp}
theorem fn_sup {oc : Value} {od an : Option Addr} {osl : Array (Option Value)} {kV doc pm ctv : Value} {ar : Arg} {e : Expr} {es : List Expr} {rest : List Stmt} {p0 p1 p2 pos pos' : Pos} {pl : Env → Sem Bool}
    (lk : K.lookup f = some ⟨oc, od, .func (fnX F.name F.qual F.params F.body F.scope F.cl .none kV doc pm an (.ref F.c) ctv), osl⟩)
    (T : SupC K mg P C f cc F.c (fnX F.name F.qual F.params F.body F.scope F.cl .none kV doc pm an (.ref F.c) ctv)) (hcd : codeIn K (.ref F.c) F.qual = true) (S : NScope N ps ["__class__"] F.scope) (hcl : F.cl = [(("__class__" : Str), cc)])
    (hks : F.scope.names.lookup ("super" : Str) = some .globalImplicit) (hp : (F.params.posonlyargs ++ F.params.args).head? = some ar) (hps : ps.head? = some ar.arg)
    (hbd : F.body = .Expr (.Call (.Attribute (.Call (.Name "super" p0) [] [] p1) "__init__" p2) (e :: es) [] pos) pos' :: rest)
    (len : ∀ vs H Q E, sp vs H Q E → vs.length = ps.length)
    (hbody : ∀ (A : Around) (outer : List Env) (s : Shared) (H : Hp) (vs : List V) (Q : VK) (E : XK), Room k (A.deeper (envF F f s.heap.objs.size)) → sp vs H Q E →
      ∃ a vr ta t, vs = .ref a :: vr ∧ H a = some (exo a C none) ∧ PA (ncx CX P w K mg base N F f A outer s H E) (e :: es) ta ∧ PSs (ncx CX P w K mg base N F f A outer s H E) rest t ∧
        ta (startF N vs [none]) H fun ws H1 => ws.length ≤ 1000 ∧ H1 a = some (exo a C none) ∧ t { nx := fun _ H' => Q .non H', rt := Q } (startF N vs [none]) H1)
    (he : ∀ env : Env, eval (.Call (.Attribute (.Call (.Name "super" p0) [] [] p1) "__init__" p2) (e :: es) [] pos) env = (do
      let ov ← attributeBase (.Call (.Name "super" p0) [] [] p1) "__init__" env (eval (.Call (.Name "super" p0) [] [] p1) env)
      standAt p2.atName
      let (f, first) ← holding [ov] (getMethod ov "__init__" (pl env))
      callWith pos f first (backTo pos (starEach (e :: es) env)) []) := by intro _; rfl)
    (hs : ∀ env : Env, starEach (e :: es) env = (false, eval e env) :: starEach es env := by intro _; rfl) (hpl : ∀ env : Env, (backTo pos (starEach es env)).any (·.1) = false := by intro _; rfl)
    (hw : ∀ env : Env, swapsWith (.Call (.Attribute (.Call (.Name "super" p0) [] [] p1) "__init__" p2) (e :: es) [] pos) none pos'.line env = pure false := by intro _; rfl) :
    FnOk P w K mg base CX (k + 1) f (fnX F.name F.qual F.params F.body F.scope F.cl .none kV doc pm an (.ref F.c) ctv) ps sp := by
  refine ⟨len, fun A outer s H args us vs Q E hr e0 hb r hsp => ?_⟩
  have hl := len _ _ _ _ hsp
  have KX : K.In s.heap := e0.mod.kin.keeps fun b o e => (e0.bs b o e).1
  have lim : s.heap.NoLimit := e0.mod.nolimit.keeps fun b o e => (e0.bs b o e).1
  refine ks_codeAny_call_defAt hr.depth (KX _ _ lk) rfl lim (codeRec_of KX hcd) rfl hb S.nocell (fun ⟨n, v⟩ hy => S.par n (List.of_mem_zip hy).1) (fun h₀ hns kp => ?_) S.co S.gen S.kind
  obtain ⟨a, vr, ta, t, rfl, ea, ha, ht, hq⟩ := hbody A outer s H vs Q E (hr.deeper _) hsp
  obtain ⟨ccl, cld, csl, hcell⟩ := T.cell
  have CA : CellsAt F.cl ["__class__"] [none] s.heap H := by
    rw [hcl]
    have one : ∀ {y : Str} {c : Addr}, [(("__class__" : Str), cc)].lookup y = some c → y = "__class__" ∧ c = cc := fun {y c} h => by
      simp only [List.lookup] at h
      split at h
      · rename_i q
        exact ⟨beq_iff_eq.mp q, (Option.some.inj h).symm⟩
      · cases h
    refine ⟨rfl, fun y c h => ?_, fun x y c h1 h2 => (one h1).1.trans (one h2).1.symm, fun i y h => ?_⟩
    · obtain ⟨_, rfl⟩ := one h
      exact ⟨(e0.bs _ _ (e0.mod.kin _ _ hcell)).2, _, _, KX _ _ hcell, rfl⟩
    · have : i = 0 := by
        have := (List.getElem?_eq_some_iff.mp h).1
        simp at this
        exact this
      subst this
      cases h
      exact ⟨cc, by simp [List.lookup], fun v z => by cases z⟩
  have I : Inv (ncx CX P w K mg base N F f A outer s H E) [] (startF N (.ref a :: vr) [none]) H { s with heap := h₀, toks := s.toks + (ps.zip us).length } := inv_startN S hr.hd e0 hl r CA hns kp
  have hN : N[0]? = some ar.arg := by
    have h1 : (N.take (ps.length + 1))[0]? = (ps ++ [("__class__" : Str)])[0]? := by rw [← S.pre]; rfl
    rw [List.getElem?_take_of_lt (by omega)] at h1
    rw [h1]
    cases ps with
    | nil => cases hps
    | cons x xs => simpa using hps
  have hka : F.scope.names.lookup ar.arg = some .local := S.par _ (by cases ps with | nil => cases hps | cons x xs => simp at hps; subst hps; exact List.mem_cons_self)
  show _root_.PySem.wpAt _ (A.deeper (envF F f s.heap.objs.size)) (.func F.body (envF F f s.heap.objs.size)) (execs F.body (envF F f s.heap.objs.size)) _ _ _
  have hx : execs F.body (envF F f s.heap.objs.size) = execs (.Expr (.Call (.Attribute (.Call (.Name "super" p0) [] [] p1) "__init__" p2) (e :: es) [] pos) pos' :: rest) (envF F f s.heap.objs.size) := by rw [hbd]
  rw [hx]
  refine ks_wpAt_execs_cons (ks_wpAt_Expr_any (ks_wpAt_mono (super_run (X := ncx CX P w K mg base N F f A outer s H E) (pl := pl _) T I hks (S.frk _ List.mem_cons_self) hka (by show F.cl.lookup _ = _; rw [hcl]; simp [List.lookup]) rfl rfl hp hN rfl ea ha hq (he _) (hs _) (hpl _)) (fun _ s' hs' => ?_) fun e s' z => z) I.quiet (hw _))
  obtain ⟨H1, I1, q1⟩ := hs'
  refine wpAt_of_wpAny (wpAny_mono (ht.run [] s' _ H1 _ I1 q1) (fun fl s2 hs2 => ?_) fun e s' z => z)
  have fin : ∀ {σ' : L2.St} {H' : Hp} {v : V} {u : Value}, Inv (ncx CX P w K mg base N F f A outer s H E) [] σ' H' s2 → L2.RelV v u → Q v H' → CE outer P w H s Q u s2 :=
    fun {σ' H' v u} J rv q => ⟨v, H', J.os, J.bare, J.base, J.hok, rv, q⟩
  cases fl with
  | ret u =>
    obtain ⟨v, σ', H', J, rv, q⟩ := hs2
    exact fin J rv q
  | next =>
    obtain ⟨σ', H', J, q⟩ := hs2
    exact fin (v := V.non) (u := Value.none) J rfl q
  | brk =>
    obtain ⟨_, _, _, q⟩ := hs2
    exact False.elim q
  | cont =>
    obtain ⟨_, _, _, q⟩ := hs2
    exact False.elim q
end
end Te

set_option Elab.async false
set_option linter.all false
set_option maxRecDepth 100000
set_option maxHeartbeats 4000000
namespace Te
open PySem PySem.W PySem.Calls PySem.Spec PyProof.Rows L2 LamX NdefX
/-- one field, kept under the parameter's name -/
noncomputable def sp1 (K : Frag) (C : Addr) (f1 : Str) : Sp := fun vs H Q E => ∃ a v, vs = [.ref a, v] ∧ H a = some (exo a C none) ∧ ∀ dx, H dx = none → dx ≠ a → Q .non (upd (upd H dx (exd dx [(f1, v)])) a (exo a C (some dx)))
/-- two fields -/
noncomputable def sp2 (K : Frag) (C : Addr) (f1 f2 : Str) : Sp := fun vs H Q E => ∃ a v u, vs = [.ref a, v, u] ∧ H a = some (exo a C none) ∧ ∀ dx, H dx = none → dx ≠ a → Q .non (upd (upd H dx (exd dx [(f2, u), (f1, v)])) a (exo a C (some dx)))
section
variable {CX : CXT} {P : Program} {w : World} {K : Frag} {mg : Str → Option Value} {base : Heap} {F : NF} {f C cc : Addr} {x0 x1 x2 f1 f2 : Str}
theorem fn_sup1 {oc : Value} {od an : Option Addr} {osl : Array (Option Value)} {kV doc pm ctv : Value} {ar : Arg} {pl : Env → Sem Bool} {p0 p1 p2 p3 p4 p5 p6 pos pos' pos1 : Pos}
    (lk : K.lookup f = some ⟨oc, od, .func (fnX F.name F.qual F.params F.body F.scope F.cl .none kV doc pm an (.ref F.c) ctv), osl⟩)
    (T : SupC K mg P C f cc F.c (fnX F.name F.qual F.params F.body F.scope F.cl .none kV doc pm an (.ref F.c) ctv)) (hcd : codeIn K (.ref F.c) F.qual = true) (S : NScope [x0, x1, "__class__"] [x0, x1] ["__class__"] F.scope) (hcl : F.cl = [(("__class__" : Str), cc)])
    (hks : F.scope.names.lookup ("super" : Str) = some .globalImplicit) (hp : (F.params.posonlyargs ++ F.params.args).head? = some ar) (har : ar.arg = x0)
    (hbd : F.body = [.Expr (.Call (.Attribute (.Call (.Name "super" p0) [] [] p1) "__init__" p2) [.Name x1 p3] [] pos) pos', .Assign [.Attribute (.Name x0 p4) f1 p5] (.Name x1 p6) pos1])
    (hf1 : findIn K (.ref C) f1 = some none) (hd0 : (x0 == ("__debug__" : Str)) = false := by decide) (hd1 : (x1 == ("__debug__" : Str)) = false := by decide) (hc0 : (x0 == ("__classdict__" : Str)) = false := by decide) (hc1 : (x1 == ("__classdict__" : Str)) = false := by decide)
    (he : ∀ env : Env, eval (.Call (.Attribute (.Call (.Name "super" p0) [] [] p1) "__init__" p2) ([.Name x1 p3]) [] pos) env = (do
      let ov ← attributeBase (.Call (.Name "super" p0) [] [] p1) "__init__" env (eval (.Call (.Name "super" p0) [] [] p1) env)
      standAt p2.atName
      let (f, first) ← holding [ov] (getMethod ov "__init__" (pl env))
      callWith pos f first (backTo pos (starEach ([.Name x1 p3]) env)) []) := by intro _; rfl) :
    FnOk P w K mg base CX 1 f (fnX F.name F.qual F.params F.body F.scope F.cl .none kV doc pm an (.ref F.c) ctv) [x0, x1] (sp1 K C f1) := by
  refine fn_sup (k := 0) lk T hcd S hcl hks hp (by rw [har]; rfl) hbd (fun vs H Q E ⟨a, v, e, _⟩ => by rw [e]; rfl) (fun A outer s H vs Q E hr ⟨a, v, e, ea, hq⟩ => ?_) he
  · subst e
    have v0 : Vis F.scope x0 := .inl (S.par _ (by simp))
    have v1 : Vis F.scope x1 := .inl (S.par _ (by simp))
    refine ⟨a, [v], _, _, rfl, ea, pa_cons (pe_var (i := 1) rfl v1 hd1 hc1) pa_nil, pss_one (ps_ost (pe_var (i := 0) rfl v0 hd0 hc0) (pe_var (i := 1) rfl v1 hd1 hc1)), ?_⟩
    refine ⟨v, rfl, ?_, ea, ?_⟩
    · show 1 ≤ 1000; omega
    · exact ⟨v, rfl, .ref a, rfl, a, C, rfl, T.oex, hf1, .inl ⟨ea, fun dx h1 h2 => hq dx h1 h2⟩⟩
theorem fn_sup2 {oc : Value} {od an : Option Addr} {osl : Array (Option Value)} {kV doc pm ctv : Value} {ar : Arg} {pl : Env → Sem Bool} {p0 p1 p2 p3 p4 p5 p6 p7 p8 p9 p10 pos pos' pos1 pos2 : Pos}
    (lk : K.lookup f = some ⟨oc, od, .func (fnX F.name F.qual F.params F.body F.scope F.cl .none kV doc pm an (.ref F.c) ctv), osl⟩)
    (T : SupC K mg P C f cc F.c (fnX F.name F.qual F.params F.body F.scope F.cl .none kV doc pm an (.ref F.c) ctv)) (hcd : codeIn K (.ref F.c) F.qual = true) (S : NScope [x0, x1, x2, "__class__"] [x0, x1, x2] ["__class__"] F.scope) (hcl : F.cl = [(("__class__" : Str), cc)])
    (hks : F.scope.names.lookup ("super" : Str) = some .globalImplicit) (hp : (F.params.posonlyargs ++ F.params.args).head? = some ar) (har : ar.arg = x0)
    (hbd : F.body = [.Expr (.Call (.Attribute (.Call (.Name "super" p0) [] [] p1) "__init__" p2) [.Name x1 p3, .Name x2 p7] [] pos) pos', .Assign [.Attribute (.Name x0 p4) f1 p5] (.Name x1 p6) pos1, .Assign [.Attribute (.Name x0 p8) f2 p9] (.Name x2 p10) pos2])
    (hf1 : findIn K (.ref C) f1 = some none) (hf2 : findIn K (.ref C) f2 = some none) (hd0 : (x0 == ("__debug__" : Str)) = false := by decide) (hd1 : (x1 == ("__debug__" : Str)) = false := by decide) (hd2 : (x2 == ("__debug__" : Str)) = false := by decide)
    (hc0 : (x0 == ("__classdict__" : Str)) = false := by decide) (hc1 : (x1 == ("__classdict__" : Str)) = false := by decide) (hc2 : (x2 == ("__classdict__" : Str)) = false := by decide)
    (he : ∀ env : Env, eval (.Call (.Attribute (.Call (.Name "super" p0) [] [] p1) "__init__" p2) ([.Name x1 p3, .Name x2 p7]) [] pos) env = (do
      let ov ← attributeBase (.Call (.Name "super" p0) [] [] p1) "__init__" env (eval (.Call (.Name "super" p0) [] [] p1) env)
      standAt p2.atName
      let (f, first) ← holding [ov] (getMethod ov "__init__" (pl env))
      callWith pos f first (backTo pos (starEach ([.Name x1 p3, .Name x2 p7]) env)) []) := by intro _; rfl) :
    FnOk P w K mg base CX 1 f (fnX F.name F.qual F.params F.body F.scope F.cl .none kV doc pm an (.ref F.c) ctv) [x0, x1, x2] (sp2 K C f1 f2) := by
  refine fn_sup (k := 0) lk T hcd S hcl hks hp (by rw [har]; rfl) hbd (fun vs H Q E ⟨a, v, u, e, _⟩ => by rw [e]; rfl) (fun A outer s H vs Q E hr ⟨a, v, u, e, ea, hq⟩ => ?_) he
  · subst e
    have v0 : Vis F.scope x0 := .inl (S.par _ (by simp))
    have v1 : Vis F.scope x1 := .inl (S.par _ (by simp))
    have v2 : Vis F.scope x2 := .inl (S.par _ (by simp))
    refine ⟨a, [v, u], _, _, rfl, ea, pa_cons (pe_var (i := 1) rfl v1 hd1 hc1) (pa_cons (pe_var (i := 2) rfl v2 hd2 hc2) pa_nil), pss_cons (ps_ost (pe_var (i := 0) rfl v0 hd0 hc0) (pe_var (i := 1) rfl v1 hd1 hc1)) (pss_one (ps_ost (pe_var (i := 0) rfl v0 hd0 hc0) (pe_var (i := 2) rfl v2 hd2 hc2))), ?_⟩
    refine ⟨v, rfl, u, rfl, ?_, ea, ?_⟩
    · show 2 ≤ 1000; omega
    · refine ⟨v, rfl, .ref a, rfl, a, C, rfl, T.oex, hf1, .inl ⟨ea, fun dx h1 h2 => ?_⟩⟩
      have e1 : upd (upd H dx (exd dx [(f1, v)])) a (exo a C (some dx)) dx = some (exd dx [(f1, v)]) := by rw [upd_ne h2, upd_same]
      refine ⟨u, rfl, .ref a, rfl, a, C, rfl, T.oex, hf2, .inr ⟨dx, [(f1, v)], upd_same, e1, by simp, ?_⟩⟩
      have := hq dx h1 h2
      have eq : upd (upd (upd H dx (exd dx [(f1, v)])) a (exo a C (some dx))) dx (exd dx [(f2, u), (f1, v)]) = upd (upd H dx (exd dx [(f2, u), (f1, v)])) a (exo a C (some dx)) := by
        funext b
        by_cases hb : b = dx
        · subst hb; rw [upd_same, upd_ne h2, upd_same]
        · rw [upd_ne hb]
          by_cases hb2 : b = a
          · subst hb2; rw [upd_same, upd_same]
          · rw [upd_ne hb2, upd_ne hb2, upd_ne hb, upd_ne hb]
      rw [eq]
      exact this
end
/-! ### C(e), C(e, e') -/
theorem mk_upd {H1 : Hp} {a dx : Addr} {C : Addr} {fs : List (Str × V)} (ha : H1 a = none) (h1 : dx ≠ a) (h0 : upd H1 a (exo a C none) dx = none) :
    let H2 := upd (upd (upd H1 a (exo a C none)) dx (exd dx fs)) a (exo a C (some dx))
    H2 a = some (exo a C (some dx)) ∧ H2 dx = some (exd dx fs) ∧ H1 dx = none ∧ upd (del H2 a) dx (.xd fs) = upd H1 dx (.xd fs) := by
  intro H2
  refine ⟨upd_same, by show upd _ a _ dx = _; rw [upd_ne h1, upd_same], by rw [upd_ne h1] at h0; exact h0, ?_⟩
  funext b
  by_cases hb : b = dx
  · subst hb; rw [upd_same, upd_same]
  · rw [upd_ne hb, upd_ne hb]
    by_cases hb2 : b = a
    · subst hb2; rw [del_same, ha]
    · rw [del_ne hb2]
      show upd _ a _ b = _
      rw [upd_ne hb2, upd_ne hb, upd_ne hb2]
end Te

set_option Elab.async false
set_option linter.all false
set_option maxRecDepth 100000
set_option maxHeartbeats 4000000
namespace Te
open PySem PySem.Spec PyProof.Rows L2 Td
/-! ### raise C(e), raise C(e, e'): an own class by its name -/
noncomputable def sRz1 (n f1 : Str) (fa : FA) : FS := fun ρ w => (fa ρ w).thenS ρ fun ds w1 => match ds with
  | [d] => .ex ρ (.str n 0) [(f1, d)] w1
  | _ => .no
noncomputable def sRz2 (n f1 f2 : Str) (fa : FA) : FS := fun ρ w => (fa ρ w).thenS ρ fun ds w1 => match ds with
  | [d, e] => .ex ρ (.str n 0) [(f2, e), (f1, d)] w1
  | _ => .no
theorem xd_new {g : Gd} {H : Hp} {w : Ws} {dx : Addr} {vs : List (Str × V)} {fs : List (Str × PyData)} (r : Rp g H w) (h : H dx = none) (kv : KvR g vs fs) : Rp g (upd H dx (.xd vs)) w ∧ XdR g (upd H dx (.xd vs)) fs (some dx) := by
  refine ⟨r.skip h, r.fnone h, r.pnone h, fun l hl z => ?_, vs, upd_same, kv⟩
  have hlw : l < w.length := by rw [← r.len]; exact hl
  obtain ⟨o, ho⟩ := (r.cell l _ (List.getElem?_eq_getElem hlw)).there
  rw [z, h] at ho
  cases ho
theorem dq2 {g : Gd} {vs : List V} {d e : PyData} (h : DqA g vs [d, e]) : ∃ v u, vs = [v, u] ∧ Dq g v d ∧ Dq g u e := by
  cases h with
  | cons d0 dn =>
    cases dn with
    | cons d1 dn =>
      cases dn
      exact ⟨_, _, rfl, d0, d1⟩
/-- C(e, ..): the exception's record is known to have no context -/
theorem pmkN {X : Cx} {CX : CXT} {x : Str} {C fI : Addr} {k : Nat} {fd : FuncData} {ps : List Str} {sp : Sp} {e : Expr} {es : List Expr} {ta : TA} {p pos : Pos} (T : OexC X.K C) (iC : PySem.W.findIn X.K (.ref C) "__init__" = some (some (.ref fI))) (tI : PySem.W.typeIn X.K (.ref fI) = some (.type "function"))
    (F1 : FnOk X.prog X.w X.K X.mg X.base CX k fI fd ps sp) (hr : Room (k + 1) X.A) (hb : L2.Binds X.K fd ps []) (hx : Passes CX X (fun _ _ _ => False)) (hg : Gl X x) (hm : X.mg x = some (.ref C)) (ha : PA X (e :: es) ta)
    (hdb : (x == ("__debug__" : Str)) = false := by decide) (he : starEach (e :: es) X.env = (false, eval e X.env) :: starEach es X.env := by rfl) (hpl : (backTo pos (starEach es X.env)).any (·.1) = false := by rfl) :
    L2N.PMk X (.Call (.Name x p) (e :: es) [] pos) (tMkO C sp [] ta) := by
  intro pins s σ H Q I want
  obtain ⟨nm, q, N, bs, bm, sn, sub, ab, col, dd, k0, k1, k2, k3, k5, isC, family⟩ := T.cls
  refine wpAny_Call_Name_kw (ld_glob I hg hm (PySem.W.callWith_K (h₀ := X.base) I.ok.mod.kin T.kC (thn (ha.run pos pins s σ H _ I want) fun us s1 ⟨vs, H1, I1, args, few, mk⟩ => ⟨I1.kIn, ?_⟩) he hpl) hdb)
  show wpAny _ _ (call (.ref C) us) _ _ _
  rw [List.append_nil] at mk
  obtain ⟨h0, gn, dr, tk, os⟩ := s1
  obtain ⟨a, ea⟩ : ∃ a, a = h0.objs.size + 1 := ⟨_, rfl⟩
  obtain ⟨h1, e1⟩ : ∃ h1, h1 = (h0.push (PySem.W.kdv_tup us)).push (PySem.HandSPX.excO C h0.objs.size) := ⟨_, rfl⟩
  have above : h0.objs.size ≤ a := by rw [ea]; exact Nat.le_succ _
  have up : ∀ b o, h0.get? b = some o → h1.get? b = some o := fun b o z => by rw [e1]; exact Heap.get?_push_of_some _ (Heap.get?_push_of_some _ z)
  have at_a : h1.get? a = some (PySem.HandSPX.excO C h0.objs.size) := by rw [e1, ea]; heap_get
  have J : Inv X pins σ (upd H1 a (exo a C none)) ⟨h1, gn, dr, tk, os⟩ := I1.laid (t' := tk) up above (exo_ok at_a)
  have promise := mk a (I1.hok.fresh above)
  have all : Vals (V.ref a :: vs) (Value.ref a :: us) := .cons rfl args
  have many : (Value.ref a :: us ++ []).length = ps.length := by rw [List.append_nil, ← all.length]; exact F1.len _ _ _ _ promise
  have bound := hb ⟨h1, gn, dr, tk, os⟩ (Value.ref a :: us) J.kIn many
  rw [List.append_nil] at bound
  have fits : us.length ≤ sizeLine := by rw [← Paired.length args, sizeLine_eq]; omega
  have ran := F1.run (X.A.under (.builtin "type.__call__" ⟨.ref C :: us, []⟩)) X.stack ⟨h1, gn, dr, tk, os⟩ _ ⟨Value.ref a :: us, []⟩ (Value.ref a :: us) _ _ (fun _ _ _ => False) (hr.make C us []) (J.env0.make C us []) bound all promise
  rw [e1, ea] at ran
  refine wpAny_call (PySem.HandSPX.call_own F.excBase_ValueError (fun Y => PySem.HandSPX.refsVE_contains Y bm family) (I1.kIn _ _ isC) (PySem.W.looks_findIn I1.kIn iC) (fun self => PySem.W.bind_fn I1.kIn self tI) fits (codeAny_mono ran fun res s' fin => ?_))
  match res, fin with
  | .error er, fin => exact hx pins σ _ _ er s' (e1 ▸ ea ▸ J) fin
  | .ok (.ret u), fin =>
    rw [← e1, ← ea] at fin
    obtain ⟨v, H2, os2, bare2, un2, hok2, rv, ev, d, fs, f1, f2, f3, q2⟩ := fin
    subst ev
    obtain ⟨h2, g2, d2, t2, os'⟩ := s'
    obtain ⟨t0, G, K, kG, gone, lies, none_⟩ := mk_end0 (d2 := d2) (t2 := t2) I1 above up un2 hok2 os2 bare2 f1 f2 f3
    rw [← ea]
    exact ⟨rv, a, _, _, ⟨G, g2, d2, t2, os'⟩, _, .ref C, some d, rfl, K, kG, gone, lies, ⟨rfl, rfl, fun vs z => by cases z; rfl⟩, rfl, rfl, none_, rfl, bare2, raises_own T.exC T.tyC, q2⟩
section
variable {X : Cx} {W : WX}
theorem psf_raise2 {CX : CXT} {x f1 f2 : Str} {C fI : Addr} {fd : FuncData} {ps : List Str} {e e' : Expr} {fa : FA} {p pos pos' : Pos} (hc : X.calm = true) (tk : L2N.Takes X W) (T : OexC X.K C) (hC : ClsAt X.K x C) (iC : PySem.W.findIn X.K (.ref C) "__init__" = some (some (.ref fI))) (tI : PySem.W.typeIn X.K (.ref fI) = some (.type "function"))
    (F1 : FnOk X.prog X.w X.K X.mg X.base CX 1 fI fd ps (sp2 X.K C f1 f2)) (hr : Room 2 X.A) (hb : L2.Binds X.K fd ps []) (hx : Passes CX X (fun _ _ _ => False)) (hg : Gl X x) (hm : X.mg x = some (.ref C)) (ha : PAf X W [e, e'] fa)
    (hdb : (x == ("__debug__" : Str)) = false := by decide) (he : starEach [e, e'] X.env = (false, eval e X.env) :: starEach [e'] X.env := by rfl) (hpl : (backTo pos (starEach [e'] X.env)).any (·.1) = false := by rfl) :
    PSf X W (.Raise (some (.Call (.Name x p) [e, e'] [] pos)) none pos') (sRz2 x f1 f2 fa) := by
  refine ps_imp (L2N.ps_raise hc tk (pmkN T iC tI F1 hr hb hx hg hm ha hdb he hpl)) fun D σ H ⟨g, ρ, w, hK, r, en, q⟩ => ?_
  refine lX_then hK r en q fun vs H1 g1 ds w1 x1 r1 e1 dvs z => ?_
  split at z
  · rename_i d e0
    obtain ⟨v, u, rfl, d0, d1⟩ := dq2 dvs
    refine ⟨by simp, fun a ha' => ⟨a, v, u, rfl, upd_same, fun dx h1 h2 => ?_⟩⟩
    obtain ⟨m1, m2, m3, m4⟩ := mk_upd (fs := [(f2, u), (f1, v)]) ha' h2 h1
    refine ⟨rfl, dx, [(f2, u), (f1, v)], m1, m2, m3, ?_⟩
    rw [m4]
    obtain ⟨r2, xd⟩ := xd_new (vs := [(f2, u), (f1, v)]) (fs := [(f2, e0), (f1, d)]) r1 m3 (.cons ⟨rfl, d1⟩ (.cons ⟨rfl, d0⟩ .nil))
    exact z _ (some dx) σ _ g1 ⟨C, x1.k.trans hK ▸ hC, rfl⟩ (Xt.refl _) r2 e1 xd
  · exact z.elim
end
end Te

set_option Elab.async false
set_option linter.all false
set_option maxRecDepth 100000
set_option maxHeartbeats 4000000
namespace Te
open PySem PySem.Spec PyProof.Rows L2 L2H Td
/-! ### a comprehension over a range while an exception is handled -/
/-- the block's context that bears the handled exception -/
noncomputable abbrev blkP (X : Cx) (s : Shared) (H : Hp) (scope : Scope) (ce : Env) (fp : List Addr) (p : Addr × Obj) : Cx := (X.blk s H scope ce fp).tr [p] (fun _ _ => False)
theorem pinP {X : Cx} {fp : List Addr} {s : Shared} {H : Hp} {scope : Scope} {ce : Env} {p : Addr × Obj} {σ : L2.St} {H' : Hp} {s' : Shared} (I : Inv (X.blk s H scope ce fp) [p] σ H' s') : Inv (blkP X s H scope ce fp p) [] σ H' s' := I.toTry _
theorem unpinP {X : Cx} {fp : List Addr} {s : Shared} {H : Hp} {scope : Scope} {ce : Env} {p : Addr × Obj} {pl : List (Addr × Obj)} {σ : L2.St} {H' : Hp} {s' : Shared} (ok : (X.blk s H scope ce fp).Ok) (I : Inv (blkP X s H scope ce fp p) pl σ H' s') : Inv (X.blk s H scope ce fp) [p] σ H' s' := I.ofTry ok
theorem fpP {X : Cx} {fp : List Addr} {s : Shared} {H : Hp} {scope : Scope} {ce : Env} {p : Addr × Obj} {H' : Hp} (ok : (X.blk s H scope ce fp).Ok) (hp : ∀ b ∈ fp, p.1 ≠ b) (hn : ∀ b ∈ fp, H' b = none) : ∀ b ∈ fp, FpOk (blkP X s H scope ce fp p) [] H' b := fun b hb =>
  ⟨hn b hb, (ok.exf b hb).1, ok.exfs b hb, .inl hb, fun x c e => (ok.exf b hb).2 x c e, fun q hq => by
    rw [List.append_nil] at hq
    have : q = p := List.mem_singleton.mp hq
    rw [this]
    exact hp b hb⟩
section
variable {X : Cx}
theorem lcH_core {pins : List (Addr × Obj)} {s : Shared} {σ : L2.St} {H : Hp} {Q : VK} {p : Addr × Obj} {elt tg iter : Expr} {ifs : List Expr} {scope : Scope} {own : List (Str × Nat)} {pos pos' : Pos} {wi : TI} {g : TG} {tt : TT} {te : TE} {use : Option (Value → Sem Unit)} {Qf : Value → Shared → Prop} (hot : Hot1 X.A p) (hp : p ∈ X.pn) (hN : X.N.Nodup) (I : Inv X pins σ H s) (hi : PIH X tg iter wi) (ok : BlkOk X.N X.env.scope scope own)
    (hg : ∀ (s : Shared) (H : Hp) (C : Addr) (cl : List (Str × Addr)) (fp : List Addr), PG (X.blk s H scope (compEnvC scope cl C X.env) fp) tg g)
    (ht : ∀ (s : Shared) (H : Hp) (C : Addr) (cl : List (Str × Addr)) (fp : List Addr), PTs (X.blk s H scope (compEnvC scope cl C X.env) fp) ifs tt)
    (he : ∀ (s : Shared) (H : Hp) (C : Addr) (cl : List (Str × Addr)) (fp : List Addr), PE (X.blk s H scope (compEnvC scope cl C X.env) fp) elt te) (hs : ∀ x, foldedSetIterable iter X.env x = pure x)
    (want : tLc wi g tt te (own.map (·.2)) σ H Q) (back : ∀ D C s' m H', Inv X pins σ H' s' → Q (.ref D) H' → s'.heap.Ns C m → FpOk X pins H' C → compPost (model X.prog X.w) X.A X.xe use Qf (.ref D) C (.ok .next) s') :
    wpAny (model X.prog X.w) X.A (comprehension (.ListComp elt [⟨tg, iter, ifs, 0⟩] scope pos) scope X.env pos' (newList []) false (eval iter X.env) use) Qf X.xe s := by
  refine wpAny_comprehension_free (use := use) rfl hs (closure_ok fun y hy e => (ok.free y hy e).elim (fun k => I.ok.has _ (.inl k)) fun k => I.ok.has _ (.inr k)) ok.kind (fun y hy e => (ok.uniq y hy).trans (congrArg some e)) ?_
  refine thn (hi.run pins s σ H _ I want) fun xv sA hA => thn hA fun iv sB ⟨it, fp, tn, J, HB, e, IB, T, stB, fB, q⟩ => ?_
  subst e
  refine wpAny_newObj_type (newEnv_comp ?_) (by show 0 ≤ sizeLine; decide)
  obtain ⟨D, eD⟩ : ∃ D, D = sB.heap.objs.size := ⟨_, rfl⟩
  rw [← eD]
  have DB : HB D = none := IB.hok.fresh (Nat.le_of_eq eD.symm)
  obtain ⟨Wm, ⟨m0, w0⟩, turn⟩ := q D DB
  obtain ⟨sC, eC⟩ : ∃ sC : Shared, sC = { sB with heap := sB.heap.push { cls := .type "list", data := .seq ([] : List Value).toArray } } := ⟨_, rfl⟩
  have upC : ∀ b o, sB.heap.get? b = some o → sC.heap.get? b = some o := fun b o h => by rw [eC]; exact Heap.get?_push_of_some _ h
  have IC : Inv X pins σ (upd HB D (.lst [])) sC := by
    have at_D : sC.heap.get? D = some { cls := .type "list", data := .seq ([] : List Value).toArray } := by rw [eC, eD]; exact Heap.get?_push_size _ rfl
    have := IB.laid (t' := sB.toks) (a := D) (o := .lst []) (h' := sC.heap) upC (Nat.le_of_eq eD.symm) ⟨Nat.zero_le _, [], 0, .nil, at_D⟩
    rw [eC] at this ⊢
    exact this
  obtain ⟨HC, eH⟩ : ∃ HC, HC = upd HB D (.lst []) := ⟨_, rfl⟩
  rw [← eH] at IC w0
  have szC : sC.heap.objs.size = sB.heap.objs.size + 1 := by rw [eC]; exact Heap.size_push ..
  have fC : ∀ b ∈ fp, FpOk X pins HC b ∧ b < sC.heap.objs.size := fun b hb => by
    obtain ⟨o, ho, _⟩ := T.obj _ _ stB b hb
    have lt := Heap.lt_size ho
    exact ⟨⟨by rw [eH, upd_ne (by rw [eD]; exact Nat.ne_of_lt lt)]; exact (fB b hb).1, (fB b hb).2⟩, by rw [szC]; exact Nat.lt_succ_of_lt lt⟩
  have hpf : ∀ b ∈ fp, p.1 ≠ b := fun b hb => (fB b hb).2.2.2.2.2 p (List.mem_append_left _ hp)
  have ID := block_start IC ok hN fC
  obtain ⟨cl, ecl⟩ : ∃ cl, cl = cellsFrom (sC.heap.objs.size + 1) scope.names (cloFrom X.env.cells scope.names []) := ⟨_, rfl⟩
  obtain ⟨ce, ece⟩ : ∃ ce, ce = compEnvC scope cl sC.heap.objs.size X.env := ⟨_, rfl⟩
  obtain ⟨sD, esD⟩ : ∃ sD : Shared, sD = { sC with heap := pushCells (sC.heap.push { cls := .type "dict", data := .dict #[] }) scope.names } := ⟨_, rfl⟩
  have pg := hg sC HC sC.heap.objs.size cl fp
  have pt := ht sC HC sC.heap.objs.size cl fp
  have pe := he sC HC sC.heap.objs.size cl fp
  have hL : ce.locals = sC.heap.objs.size := by rw [ece]; rfl
  rw [← ecl, ← ece, ← esD] at ID
  rw [← ece] at pg pt pe
  have goal : codeAny (model X.prog X.w) X.A (.compStart (.ListComp elt [⟨tg, iter, ifs, 0⟩] scope pos) 0 (.ref it) (.ref D) ce) (compPost (model X.prog X.w) X.A X.xe use Qf (.ref D) sC.heap.objs.size) sD := by
    have upD : ∀ b o, sC.heap.get? b = some o → sD.heap.get? b = some o := fun b o h => by rw [esD]; exact pushCells_keeps _ _ _ _ (Heap.get?_push_of_some _ h)
    have stD : tn 0 sD.heap := T.keep _ _ _ stB fun b _ o h => upD _ _ (upC _ _ h)
    have okB := ID.ok
    have P0 := IC.pin p (List.mem_append_left _ hp)
    have IP : Inv (X.blk sC HC scope ce fp) [p] (wipe σ (own.map (·.2))) HC sD := ID.pins_of fun q' hq' => by
      have : q' = p := List.mem_singleton.mp hq'
      rw [this]
      refine ⟨upD _ _ P0.1, P0.2.1, by show p.1 ≠ ce.locals; rw [hL]; exact Nat.ne_of_lt (Heap.lt_size P0.1), fun hm => ?_, P0.2.2.2.2⟩
      exact (List.mem_cons.mp (IC.stkSub p.1 hm)).elim P0.2.2.1 P0.2.2.2.1
    have hotB : HotC (blkP X sC HC scope ce fp p) := ⟨p, hot, List.mem_cons_self⟩
    suffices turns : codeAny (model X.prog X.w) X.A (.compLoop (.ListComp elt [⟨tg, iter, ifs, 0⟩] scope pos) 0 (.ref it) (.ref D) ce) (compPost (model X.prog X.w) X.A X.xe use Qf (.ref D) sC.heap.objs.size) sD from codeAny_compStart_list turns (T.self X.A 0 _ _ _ stD turns)
    refine compLoop_any (fun n s' => ∃ i H', Inv (X.blk sC HC scope ce fp) [p] (wipe σ (own.map (·.2))) H' s' ∧ tn i s'.heap ∧ (∀ b ∈ fp, H' b = none) ∧ Wm i n H') ?_ m0 ⟨0, HC, IP, stD, fun b hb => (fC b hb).1.1, w0⟩
    rintro n s5 ⟨i, H5, I5, st5, n5, w5⟩
    rcases turn i n H5 w5 with ⟨stop, qq⟩ | ⟨go, Nx, hNx, step⟩
    · refine thnF (T.done (blkP X sC HC scope ce fp p) rfl rfl rfl hotB i [] s5 _ H5 (fun _ _ => False) (pinP I5) (fpP okB hpf n5) st5 stop) fun r s6 ⟨hr, I6⟩ => ?_
      subst hr
      have I7 : Inv X pins σ H5 s6 := IC.call' (ch := fp) I6.os I6.base I6.hok I6.bare fun b hb =>
        let f := (fC b hb).1
        ⟨f.2.2.2.1, f.2.1, f.2.2.2.2.1, f.2.2.2.2.2⟩
      have nL : H5 sC.heap.objs.size = none := hL ▸ (show H5 ce.locals = none from I6.free)
      obtain ⟨m, hm, _⟩ := I6.loc
      have hm : s6.heap.Ns ce.locals m := hm
      rw [hL] at hm
      exact back D sC.heap.objs.size s6 m H5 I7 qq hm (IC.fpOk (H' := H5) (Nat.le_refl _) nL)
    · refine thnF (T.item (blkP X sC HC scope ce fp p) rfl rfl rfl hotB i [] s5 _ H5 (fun _ _ => False) (pinP I5) (fpP okB hpf n5) st5 go) fun r s6 ⟨u, hr, h6⟩ => ?_
      subst hr
      refine thnF h6 fun _ s7 ⟨x, H7, I7, r7, y7, st7, n7⟩ => ?_
      have J7 := unpinP okB I7
      have fJ : ∀ b ∈ fp, FpOk (X.blk sC HC scope ce fp) [p] H7 b := fun b hb =>
        ⟨n7 b hb, (okB.exf b hb).1, okB.exfs b hb, .inl hb, fun x c e => (okB.exf b hb).2 x c e, fun q hq => by
          have : q = p := by simpa using hq
          rw [this]; exact hpf b hb⟩
      have K7 := J7.pinned fJ (T.obj _ _ st7)
      refine thnF (pg.run _ s7 _ H7 x u _ K7 r7 (step x H7 y7)) fun _ s8 ⟨σ8, H8, I8, hw8, q8⟩ => ?_
      refine thnF (pt.run _ s8 σ8 H8 _ I8 q8) fun b s9 ⟨H9, I9, q9⟩ => ?_
      have fin : ∀ {s' : Shared} {H' : Hp}, Inv (X.blk sC HC scope ce fp) ([p] ++ pinsAt fp s7.heap) σ8 H' s' → Nx H' →
          ∃ m, m < n ∧ ∃ i H', Inv (X.blk sC HC scope ce fp) [p] (wipe σ (own.map (·.2))) H' s' ∧ tn i s'.heap ∧ (∀ b ∈ fp, H' b = none) ∧ Wm i m H' := fun {s' H'} I' nx => by
        obtain ⟨m', hm, w'⟩ := hNx H' nx
        have kept : ∀ b ∈ fp, ∀ o, s7.heap.get? b = some o → s'.heap.get? b = some o ∧ H' b = none := fun b hb o h =>
          let z := I'.pin (b, o) (List.mem_append_right _ (List.mem_append_right _ (mem_pinsAt hb h)))
          ⟨z.1, z.2.1⟩
        refine ⟨m', hm, i + 1, H', (Inv.unpinned I').weak (by rw [← hw8, wipe_length]) fun j v h => (wipe_some (hw8.symm ▸ h)).1, T.keep _ _ _ st7 fun b hb o h => (kept b hb o h).1, fun b hb => ?_, w'⟩
        obtain ⟨o, h, _⟩ := T.obj _ _ st7 b hb
        exact (kept b hb o h).2
      cases b with
      | false => exact fin I9 q9
      | true =>
        have q9 : te σ8 H9 fun y H4 => ∃ acc, H4 D = some (.lst acc) ∧ acc.length < sizeLine ∧ Nx (upd H4 D (.lst (acc ++ [y]))) := q9
        refine thnF (pe.run _ s9 σ8 H9 _ I9 q9) fun z s10 ⟨yv, H10, I10, r10, acc, hD10, hz10, nx⟩ => ?_
        exact app_ok (X := X.blk sC HC scope ce fp) I10 hD10 hz10 r10 fun s11 I11 => fin I11 nx
  subst esD ece ecl eC
  exact goal
/-- the same, kept under a name -/
theorem ps_setLcH {p : Addr × Obj} {i : Nat} {y : Str} {py : Pos} {elt tg iter : Expr} {ifs : List Expr} {scope : Scope} {own : List (Str × Nat)} {pos spos : Pos} {wi : TI} {g : TG} {tt : TT} {te : TE} (hot : Hot1 X.A p) (hp : p ∈ X.pn) (hN : X.N.Nodup) (hy : X.N[i]? = some y) (loc : X.env.scope.names.lookup y = some .local)
    (sw : swapsWith (.ListComp elt [⟨tg, iter, ifs, 0⟩] scope pos) (some (.Name y py)) spos.line X.env = pure true) (hi : PIH X tg iter wi) (ok : BlkOk X.N X.env.scope scope own)
    (hg : ∀ (s : Shared) (H : Hp) (C : Addr) (cl : List (Str × Addr)) (fp : List Addr), PG (X.blk s H scope (compEnvC scope cl C X.env) fp) tg g)
    (ht : ∀ (s : Shared) (H : Hp) (C : Addr) (cl : List (Str × Addr)) (fp : List Addr), PTs (X.blk s H scope (compEnvC scope cl C X.env) fp) ifs tt)
    (he : ∀ (s : Shared) (H : Hp) (C : Addr) (cl : List (Str × Addr)) (fp : List Addr), PE (X.blk s H scope (compEnvC scope cl C X.env) fp) elt te) (hs : ∀ x, foldedSetIterable iter X.env x = pure x := by intro _; rfl) :
    PS X (.Assign [.Name y py] (.ListComp elt [⟨tg, iter, ifs, 0⟩] scope pos) spos) (tAsg (tLc wi g tt te (own.map (·.2))) (gName i)) := ⟨fun pins s σ H D I want => by
  rw [exec_Assign_Name_used _ _ _ _ sw]
  refine wpAny_bind (wpAny_standAt (wpAny_bind ?_))
  have want : tLc wi g tt te (own.map (·.2)) σ H (fun x H1 => gName i x σ H1 D.nx) := want
  refine wpAny_bind (thn (lcH_core (use := some (assign (.Name y py) X.env)) (Qf := fun _ s' => SP X pins D .next s') hot hp hN I hi ok hg ht he hs want fun L C s' m H' J q ns f => ?_) fun _ s' q => wpAny_pure (wpAny_pure q))
  refine wpAny_assign_Name (store_ok2 (v := V.ref L) J hN hy (.inl loc) rfl (fun s2 J2 ⟨a, sb, at_a⟩ => ?_) (.inr loc))
  have apart : C ≠ a := at_a.elim (fun z => by rw [z]; exact f.2.1) fun z e => f.2.2.2.2.1 y a z e.symm
  exact ⟨m, ns.sameBut sb apart, fun h3 sb3 => ⟨_, H', J2.turned (t' := s2.toks) (fun b o hb e => (sb3.2 b hb).trans e) f.1 f.2.1 f.2.2.2.1 f.2.2.2.2.1 f.2.2.2.2.2, q⟩⟩⟩
end
end Te

set_option Elab.async false
set_option linter.all false
set_option maxRecDepth 100000
set_option maxHeartbeats 4000000
namespace Te
open PySem PySem.Spec PyProof.Rows L2 LamX Td
/-! ### a lambda is made: what becomes of the table -/
/-- the table's new state: as before, or with one code object more -/
noncomputable def TabStep (H H1 : Hp) (P c' : Addr) (q : Str) (ps : Array Value) : Prop :=
  H1 = H ∨ ∃ ps' : Array Value, H c' = none ∧ H1 = upd (upd H c' (CodeO c' q)) P (.tbl ps') ∧ TriplesOk ps'.toList ∧ ∀ (pos : Pos) (cv : Value), codeAmong pos ps'.toList = some cv → cv = .ref c' ∨ codeAmong pos ps.toList = some cv
section
variable {X : Cx} {pins : List (Addr × Obj)} {σ : L2.St} {H : Hp} {s : Shared}
theorem lam3 {c P : Addr} {ps : Array Value} {params : Arguments} {body : Expr} {scope : Scope} {pos : Pos} {E : Value → Shared → Prop} {Q : Value → Shared → Prop} (I : Inv X pins σ H s) (TB : TabB X.base X.mg c P) (hcode : X.env.code = .ref c)
    (hP : H P = some (.tbl ps)) (ok : TriplesOk ps.toList) (old : ∀ (pos : Pos) (cv : Value), codeAmong pos ps.toList = some cv → ∃ c, cv = .ref c ∧ H c = some (CodeO c (X.env.qual ++ "<lambda>")))
    (hdef : defaultsOf params X.env = ([], [])) (hfree : ∀ y ∈ scope.names, y.2 = .free → ∃ c, X.env.cells.lookup y.1 = some c)
    (h : ∀ (f c' : Addr) (pm ctv : Value) (H1 : Hp) (s' : Shared), Inv X pins σ H1 s' → TabStep H H1 P c' (X.env.qual ++ "<lambda>") ps →
      s'.heap.get? f = some (PySem.W.kla_obj "<lambda>" (X.env.qual ++ "<lambda>") params body scope (cloFrom X.env.cells scope.names []) pm c' ctv) → H1 f = none → f ∉ frs X.stack → H1 c' = some (CodeO c' (X.env.qual ++ "<lambda>")) → Q (.ref f) s') :
    wpAny (model X.prog X.w) X.A (eval (.Lambda params body scope pos) X.env) Q E s := by
  refine PySem.W.kla_eval hdef ?_
  have lay : s.heap.get? P = some { cls := .none, data := .fields ps } := I.hok P _ hP
  have outside : ∀ f, s.heap.objs.size ≤ f → f ∉ frs X.stack := fun f hf hm =>
    (List.mem_cons.mp (I.stkSub _ hm)).elim (fun e => by have h1 := I.lt; rw [← e] at h1; exact Nat.lt_irrefl _ (Nat.lt_of_lt_of_le h1 hf)) fun hm => I.nofs hf hm
  cases found : codeAmong pos ps.toList with
  | some cv =>
    obtain ⟨c', rfl, at_c⟩ := old pos cv found
    refine PySem.W.kla_makeFunctionHit (mg := X.mg) (c := c) (P := P) (ps := ps) (closure_ok hfree) I.ok.glob (I.mod.glob.keeps I.bk) hcode (TB.code.keeps I.bk) lay ok found (TB.bm.keeps I.bk) fun ctv h' tk up grown => ?_
    have J := I.kept (t' := tk) (h' := h'.push (PySem.W.kla_obj "<lambda>" (X.env.qual ++ "<lambda>") params body scope (cloFrom X.env.cells scope.names []) ((X.mg "__name__").getD .none) c' ctv)) fun b o e => Heap.get?_push_of_some _ (up b o e)
    exact h _ c' _ ctv H _ J (.inl rfl) (Heap.get?_push_size _ rfl) (I.hok.fresh grown) (outside _ grown) at_c
  | none =>
    refine PySem.W.kla_makeFunction (mg := X.mg) (c := c) (P := P) (ps := ps) (closure_ok hfree) I.ok.glob (I.mod.glob.keeps I.bk) hcode (TB.code.keeps I.bk) lay ok found TB.gP (TB.bm.keeps I.bk) fun c' ctv h' tk up fresh below isCode newTab => ?_
    obtain ⟨c2, oc, vs, t, same, at_c, dat, nam⟩ := isCode
    cases same
    have nc : H c' = none := I.hok.fresh fresh
    have neP : P ≠ c' := ne_of_none hP nc
    have grown : s.heap.objs.size ≤ h'.objs.size := Nat.le_trans fresh (Nat.le_of_lt below)
    have J := inv_table (t' := tk) (q := X.env.qual ++ "<lambda>") (more := #[rawInt pos.line, rawInt pos.col, .ref c']) (h' := h'.push (PySem.W.kla_obj "<lambda>" (X.env.qual ++ "<lambda>") params body scope (cloFrom X.env.cells scope.names []) ((X.mg "__name__").getD .none) c' ctv)) I hP
      (fun b o hb e => Heap.get?_push_of_some _ (up b o hb e)) (Heap.get?_push_of_some _ newTab) fresh ⟨oc, vs, t, Heap.get?_push_of_some _ at_c, dat, nam⟩
    have flip : upd (upd H P (.tbl (ps ++ #[rawInt pos.line, rawInt pos.col, .ref c']))) c' (CodeO c' (X.env.qual ++ "<lambda>")) = upd (upd H c' (CodeO c' (X.env.qual ++ "<lambda>"))) P (.tbl (ps ++ #[rawInt pos.line, rawInt pos.col, .ref c'])) := by
      funext b
      by_cases h1 : b = P
      · subst h1; rw [upd_ne neP, upd_same, upd_same]
      · rw [upd_ne (a := P) h1]
        by_cases h2 : b = c'
        · subst h2; rw [upd_same, upd_same]
        · rw [upd_ne h2, upd_ne h2, upd_ne h1]
    have lst : (ps ++ #[rawInt pos.line, rawInt pos.col, .ref c']).toList = ps.toList ++ [rawInt pos.line, rawInt pos.col, .ref c'] := by simp
    refine h h'.objs.size c' _ ctv _ _ J (.inr ⟨_, nc, flip, by rw [lst]; exact PySem.TriplesOk_snoc _ _ _ _ ok, fun p cv hc => ?_⟩) (Heap.get?_push_size _ rfl) ?_ (outside _ grown) upd_same
    · rw [lst] at hc
      exact (among_app _ ok hc).symm
    · rw [upd_ne (Nat.ne_of_gt below), upd_ne (Nat.ne_of_gt (Nat.lt_of_lt_of_le (Heap.lt_size lay) grown))]
      exact I.hok.fresh grown
end
/-! ### the same over the store -/
theorem Rp.tabWrite {g : Gd} {H : Hp} {w : Ws} {P : Addr} {q : Str} {ps' : Array Value} (r : Rp g H w) (hp : (P, q) ∈ tabsL g.K) (hu : ∀ p ∈ tabsL g.K, p.1 = P → p.2 = q) (ok : TriplesOk ps'.toList)
    (codes : ∀ (pos : Pos) (cv : Value), codeAmong pos ps'.toList = some cv → ∃ c, cv = .ref c ∧ g.F c = some (CodeO c q)) : Rp g (upd H P (.tbl ps')) w := by
  obtain ⟨⟨ps, at_P, _⟩, nF, nP⟩ := r.tab _ hp
  have at_P : H P = some (.tbl ps) := at_P
  refine ⟨fun a u e => ?_, r.len, fun l ob e => ?_, r.inj, fun a u e => ?_, fun p hp2 => ?_⟩
  · rw [upd_ne (ne_of_none e nF)]
    exact r.fro a u e
  · have c := r.cell l ob e
    have stay : ∀ {b : Addr} {o : HO}, H b = some o → (∀ ts, o ≠ .tbl ts) → upd H P (.tbl ps') b = some o := fun {b o} hb nt => by
      rw [upd_ne fun z => ?_]
      · exact hb
      · rw [z, at_P] at hb
        exact nt ps (Option.some.inj hb).symm
    cases ob with
    | lst ds => obtain ⟨a, xs, hx, d⟩ := c; exact ⟨a, xs, stay hx (fun _ z => by cases z), d⟩
    | dK ds => obtain ⟨a, xs, hx, d⟩ := c; exact ⟨a, xs, stay hx (fun _ z => by cases z), d⟩
    | ins C fs => obtain ⟨a, dx, gs, ⟨C', hC, hx⟩, hd, n2, d⟩ := c; exact ⟨a, dx, gs, ⟨C', hC, stay hx (fun _ z => by cases z)⟩, stay hd (fun _ z => by cases z), n2, d⟩
    | dead =>
      obtain ⟨o, ho⟩ := c
      by_cases z : g.μ l = P
      · exact ⟨_, by rw [z]; exact upd_same⟩
      · exact ⟨o, (upd_ne z).trans ho⟩
  · obtain ⟨h1, h2, h3⟩ := r.pin a u e
    refine ⟨?_, h2, h3⟩
    rw [upd_ne (ne_of_none e nP)]
    exact h1
  · obtain ⟨t1, t2, t3⟩ := r.tab p hp2
    refine ⟨?_, t2, t3⟩
    by_cases z : p.1 = P
    · rw [z, hu p hp2 z]
      exact ⟨ps', upd_same, ok, codes⟩
    · exact t1.up (fun _ _ h => h) (upd_ne z)
theorem Rp.tabStep {g : Gd} {H H1 : Hp} {w : Ws} {P c' : Addr} {q : Str} {ps : Array Value} (r : Rp g H w) (hp : (P, q) ∈ tabsL g.K) (hu : ∀ p ∈ tabsL g.K, p.1 = P → p.2 = q) (at_P : H P = some (.tbl ps)) (st : TabStep H H1 P c' q ps) : ∃ g', Xt g g' ∧ Rp g' H1 w := by
  rcases st with rfl | ⟨ps', nc, rfl, ok, codes⟩
  · exact ⟨g, Xt.refl g, r⟩
  · have r1 := r.put (o := CodeO c' q) nc
    have x1 : Xt g (g.put c' (CodeO c' q)) := Xt.put (r.fnone nc)
    obtain ⟨⟨ps0, e0, _, old⟩, _, _⟩ := r.tab _ hp
    have e0 : H P = some (.tbl ps0) := e0
    obtain rfl : ps0 = ps := by
      rw [e0] at at_P
      cases at_P
      rfl
    refine ⟨_, x1, Rp.tabWrite r1 (q := q) hp hu ok fun pos cv hc => ?_⟩
    rcases codes pos cv hc with rfl | hc
    · exact ⟨c', rfl, upd_same⟩
    · obtain ⟨c, e1, e2⟩ := old pos cv hc
      exact ⟨c, e1, x1.ex _ _ e2⟩
end Te

set_option Elab.async false
set_option linter.all false
set_option maxRecDepth 100000
set_option maxHeartbeats 4000000
namespace Te
open PySem PySem.Spec PyProof.Rows L2 L2H Td
/-! ### the exception at hand, as a datum -/
/-- the exception at a, its dict at dd, the fields' names and data -/
noncomputable def exD (a dd : Addr) (ns : List Str) (ds : List PyData) : PyData := .dict [(.int (a : Int), .int (dd : Int)), (.tuple (ns.map .str), .tuple ds)]
theorem exD_dq {g : Gd} {a dd : Addr} {gs : List (Str × V)} {fs : List (Str × PyData)} (h : g.F dd = some (.xd gs)) (kv : KvR g gs fs) : Dq g (.ref a) (exD a dd (fs.map (·.1)) (fs.map (·.2))) := by
  have two : ∀ {gs : List (Str × V)} {fs : List (Str × PyData)}, KvR g gs fs → gs.map (·.1) = fs.map (·.1) ∧ DqA g (gs.map (·.2)) (fs.map (·.2)) := by
    intro gs
    induction gs with
    | nil => intro fs kv; cases kv; exact ⟨rfl, .nil⟩
    | cons x xs ih =>
      intro fs kv
      cases kv with
      | cons p q =>
        obtain ⟨i1, i2⟩ := ih q
        exact ⟨by rw [List.map_cons, List.map_cons, p.1, i1], .cons p.2 i2⟩
  obtain ⟨e1, e2⟩ := two kv
  have := Dq.exc (a := a) h e2
  unfold exD
  rw [← e1]
  simpa [List.map_map, Function.comp_def] using this
theorem exD_inv {g : Gd} {v : V} {a dd : Addr} {nsD : List PyData} {ds : List PyData} (h : Dq g v (.dict [(.int (a : Int), .int (dd : Int)), (.tuple nsD, .tuple ds)])) :
    ∃ gs : List (Str × V), v = .ref a ∧ g.F dd = some (.xd gs) ∧ nsD = gs.map (fun p => .str p.1) ∧ DqA g (gs.map (·.2)) ds := by
  generalize hd : PyData.dict [(.int (a : Int), .int (dd : Int)), (.tuple nsD, .tuple ds)] = D at h
  cases h with
  | ref hl => cases hd
  | @exc a' dd' gs ds' h1 h2 =>
    simp only [PyData.dict.injEq, List.cons.injEq, Prod.mk.injEq, PyData.int.injEq, PyData.tuple.injEq, and_true] at hd
    obtain ⟨⟨ea, ed⟩, en, es⟩ := hd
    have ea : a = a' := by have := ea; exact Int.ofNat.inj this
    have ed : dd = dd' := by have := ed; exact Int.ofNat.inj this
    subst ea ed es
    exact ⟨gs, rfl, h1, en, h2⟩
  | _ => cases hd
noncomputable def eIsE (i : Nat) (a dd : Addr) (b : Bool) : FE := fun ρ w => match ρ[i]? with
  | some (some (.dict [(.int a', .int dd'), (.tuple _, .tuple _)])) => if a' = (a : Int) ∧ dd' = (dd : Int) then .ok (.bool b) w else .no
  | _ => .no
noncomputable def lookF (f : Str) : List PyData → List PyData → Option PyData
  | .str n :: ns, d :: ds => if n = f then some d else lookF f ns ds
  | _, _ => none
noncomputable def eFlE (i : Nat) (a dd : Addr) (f : Str) : FE := fun ρ w => match ρ[i]? with
  | some (some (.dict [(.int a', .int dd'), (.tuple ns, .tuple ds)])) => if a' = (a : Int) ∧ dd' = (dd : Int) then Oc.of (lookF f ns ds) w else .no
  | _ => .no
theorem lookF_ok {g : Gd} {f : Str} : ∀ {gs : List (Str × V)} {ds : List PyData} {d : PyData}, DqA g (gs.map (·.2)) ds → lookF f (gs.map fun p => .str p.1) ds = some d → ∃ v, gs.lookup f = some v ∧ Dq g v d
  | [], _, _, _, e => by simp [lookF] at e
  | (n, v) :: gs, _, d, .cons h t, e => by
    simp only [List.map_cons, lookF] at e
    by_cases q : n = f
    · rw [if_pos q] at e
      cases e
      subst q
      exact ⟨v, by simp [List.lookup], h⟩
    · rw [if_neg q] at e
      obtain ⟨u, e1, e2⟩ := lookF_ok t e
      have : (f == n) = false := by simpa using fun z => q z.symm
      exact ⟨u, by simp [List.lookup, this, e1], e2⟩
/-- the exception's own record and dict, in the heap -/
theorem inst_of {X : Cx} {pins : List (Addr × Obj)} {σ : L2.St} {H : Hp} {s : Shared} {a dd D : Addr} {oe : Obj} {gs : List (Str × V)} (I : Inv X pins σ H s) (hp : (a, oe) ∈ X.pn) (hz : Zc (.ref D) (some dd) oe) (hf : ∃ vs, oe.data = .fields vs) (hd : H dd = some (.xd gs)) :
    ∃ od mA, PySem.W.InstAt s.heap a oe D (some od) ∧ s.heap.get? dd = some od ∧ s.heap.Ns1 dd mA ∧ ∀ f, RelO (gs.lookup f) (mA f) := by
  obtain ⟨mA, hns, hr⟩ := I.hok dd _ hd
  obtain ⟨od, es, ep, ho, rest⟩ := hns
  obtain ⟨vs, hv⟩ := hf
  refine ⟨od, mA, ⟨(I.pin (a, oe) (List.mem_append_left _ hp)).1, hz.1, by unfold PySem.W.notCls; rw [hv], ?_⟩, ho, ⟨od, es, ep, ho, rest⟩, hr⟩
  rw [hz.2]
  exact ho
section
variable {X : Cx} {W : WX} {a dd D : Addr} {oe : Obj} {i : Nat} {n c f : Str} {p p1 p2 pos : Pos}
theorem pf_isE {b : Bool} {vc : V} {cv : Value} (hp : (a, oe) ∈ X.pn) (hz : Zc (.ref D) (some dd) oe) (hf : ∃ vs, oe.data = .fields vs) (C : L2.ExcC X.K D) (hN : X.N[i]? = some n) (hv : Vis X.env.scope n) (hg : Gl X "isinstance") (hm : X.mg "isinstance" = none)
    (hcE : PE X (.Name c p2) (tC vc)) (hcv : ∀ u, RelV vc u → u = cv) (hk : PySem.W.kitOne X.K (.ref D) cv = some b) (hd : (n == ("__debug__" : Str)) = false := by decide) (hcd : (n == ("__classdict__" : Str)) = false := by decide)
    (hs1 : starEach [.Name n p1, .Name c p2] X.env = (false, eval (.Name n p1) X.env) :: starEach [.Name c p2] X.env := by rfl) (hs2 : starEach [.Name c p2] X.env = (false, eval (.Name c p2) X.env) :: starEach [] X.env := by rfl) (hpl : (backTo pos (starEach [.Name c p2] X.env)).any (·.1) = false := by rfl) :
    PF X W (.Call (.Name "isinstance" p) [.Name n p1, .Name c p2] [] pos) (eIsE i a dd b) := by
  have hc : CallR X (.builtin "isinstance") (fun xs H Q => ∃ gs, xs = [.ref a, vc] ∧ H dd = some (.xd gs) ∧ Q (.bl b) H) := by
    intro pins s σ H xs us Q I r ⟨gs, e, hdd, q⟩
    subst e
    cases r with
    | cons rx rr =>
      cases rr with
      | cons rt rr =>
        cases rr
        cases rx
        have ec := hcv _ rt
        subst ec
        obtain ⟨od, mA, J, _⟩ := inst_of I hp hz hf hdd
        exact PySem.W.kia_one (PySem.W.kitx_exc (od := some od) (by obtain ⟨cd, e1, _⟩ := PySem.W.any_some C.hd; rw [e1]; rfl) C.hg C.hk C.hs C.ha C.hn C.ht C.hm) I.kIn J hk (fun z => nomatch z) fun tk => ⟨.bl b, H, I.kept (t' := tk) fun _ _ z => z, rfl, q⟩
  refine pe_imp (pe_callB hc hg hm (by decide +kernel) (pa_cons (pe_var hN hv hd hcd) (pa_cons hcE pa_nil hs2) hs1) (by decide) (by decide) hs1 hpl) fun σ H Q ⟨g, ρ, w, hK, r, e, q⟩ => ?_
  unfold eIsE at q
  split at q
  · rename_i a' dd' nsD ds hρ
    split at q
    · rename_i hab
      obtain ⟨rfl, rfl⟩ := hab
      obtain ⟨v, hσ, dv⟩ := e.at_ i _ hρ
      obtain ⟨gs, rfl, hF, _, _⟩ := exD_inv dv
      exact ⟨.ref a, hσ, gs, rfl, r.fro _ _ hF, q _ H g (Xt.refl _) r (.bl _)⟩
    · exact q.elim
  · exact q.elim
theorem pf_flE (hp : (a, oe) ∈ X.pn) (hz : Zc (.ref D) (some dd) oe) (hf : ∃ vs, oe.data = .fields vs) (T : XfC X.K D) (hno : PySem.W.findIn X.K (.ref D) f = some none) (hN : X.N[i]? = some n) (hv : Vis X.env.scope n)
    (hd : (n == ("__debug__" : Str)) = false := by decide) (hcd : (n == ("__classdict__" : Str)) = false := by decide) (hb : attributeBase (.Name n p1) f X.env (eval (.Name n p1) X.env) = eval (.Name n p1) X.env := by rfl) :
    PF X W (.Attribute (.Name n p1) f pos) (eFlE i a dd f) := by
  refine ⟨fun pins s σ H Q I ⟨g, ρ, w, hK, r, e, q⟩ => ?_⟩
  unfold eFlE at q
  split at q
  · rename_i a' dd' nsD ds hρ
    split at q
    · rename_i hab
      obtain ⟨rfl, rfl⟩ := hab
      obtain ⟨v, hσ, dv⟩ := e.at_ i _ hρ
      obtain ⟨gs, rfl, hF, rfl, dA⟩ := exD_inv dv
      cases hl : lookF f (gs.map fun p => .str p.1) ds with
      | none => rw [hl] at q; exact q.elim
      | some d =>
        rw [hl] at q
        obtain ⟨u, hu, du⟩ := lookF_ok dA hl
        refine attr_of hb (thn ((pe_var hN hv hd hcd).run pins s σ H (fun v H1 => v = .ref a ∧ H1 = H) I ⟨.ref a, hσ, rfl, rfl⟩) fun x s1 ⟨y, H1, I1, rx, ey, eH⟩ => ?_)
        subst ey eH
        obtain rfl : x = Value.ref a := rx
        obtain ⟨od, mA, J, hod, hns, hr⟩ := inst_of I1 hp hz hf (r.fro _ _ hF)
        obtain ⟨od', ho', hlk⟩ := lookIn_ns hns
        obtain rfl : od' = od := by rw [ho'] at hod; exact Option.some.inj hod
        obtain ⟨z, hz1, rz⟩ := RelO.some_of (v := u) (o := mA f) (by rw [← hu]; exact hr f)
        exact HandSPX.exc_get I1.kIn J T.ga T.gg T.exC (PySem.W.findObj_own T.hdC hno rfl (by rw [hlk, hz1])) (handed_of rz) ⟨u, H1, I1.tok _, rz, q u H1 g (Xt.refl _) r du⟩
    · exact q.elim
  · exact q.elim
end
end Te

set_option Elab.async false
set_option linter.all false
set_option maxRecDepth 100000
set_option maxHeartbeats 4000000
namespace Te
open PySem PySem.Spec PyProof.Rows L2 L2H Td
/-! ### defs that are called while an exception is handled: gf gets the exception's address and its dict's -/
structure GxH (P : Program) (w : World) (K : PySem.W.Frag) (mg : Str → Option Value) (base : Heap) (k : Nat) (C : Addr) {x : Str} {st : Stmt} {ps : List Str} (D : DefAt K mg x st ps) (gf : Addr → Addr → FF) : Prop where
  run : ∀ (A : Around) (outer : List Env) (s : Shared) (H : Hp) (args : Args) (us : List Value) (vs : List V) (Q : VK) (E : XK) (p : Addr × Obj) (dd : Addr), RoomH k A → Hot1 A p → Zc (.ref C) (some dd) p.2 → PinOk outer H s p → A.guards = some [] → Env0 P w K mg base A outer s H →
    BindsTo s D.fd args (ps.zip us) → Vals vs us → spF K ps.length (gf p.1 dd) vs H Q E → codeAny (model P w) A (.call (.ref D.f) args) (CR (L2N.CX P w) outer P w H s Q E) s
  len : ∀ a dd as w, as.length ≠ ps.length → gf a dd as w = .no
section
variable {P : Program} {w : World} {K : PySem.W.Frag} {mg : Str → Option Value} {base : Heap}
theorem GxH.mono {x : Str} {st : Stmt} {ps : List Str} {j k : Nat} {C : Addr} {D : DefAt K mg x st ps} {gf : Addr → Addr → FF} (G : GxH P w K mg base j C D gf) (h : j ≤ k) : GxH P w K mg base k C D gf :=
  ⟨fun A outer s H args us vs Q E p dd hr => G.run A outer s H args us vs Q E p dd (hr.mono h), G.len⟩
theorem gxH_of {x : Str} {st : Stmt} {N ps : List Str} {k : Nat} {C : Addr} {bf : Addr → Addr → FS} (D : DefAt K mg x st ps) (S : FnScope N ps (defScope st))
    (hbody : ∀ (cdv : Value) (A : Around) (outer : List Env) (s : Shared) (H : Hp) (E : XK) (p : Addr × Obj) (dd : Addr), Hot1 A p → Zc (.ref C) (some dd) p.2 → RoomH k (A.deeper (envOfC x (defScope st) s.heap.objs.size D.f cdv)) → A.guards = some [] →
      PSsf (cxH (L2N.CX P w) P w K mg base N x (defScope st) D.f cdv A outer s H E p) (fun c d _ H => E c d H) (defBody st) (bf p.1 dd)) : GxH P w K mg base (k + 1) C D (fun a dd => defF N.length ps.length (bf a dd)) := by
  obtain ⟨f, fd, F, at_, bd⟩ := D
  obtain ⟨oc, od, kV, doc, pm, an, cdv, ct, osl, rfl, lk, hcd⟩ := F.ex
  refine ⟨fun A outer s H args us vs Q E p dd hr hot hz hpin hgu e0 hb hv ⟨g, ws, ds, hK, r, da, hl, q⟩ => ?_, fun a dd as w h => if_neg h⟩
  have inK : K.In s.heap := e0.mod.kin.keeps fun b ob z => (e0.bs b ob z).1
  have kinds : ∀ y ∈ ps.zip us, (defScope st).names.lookup y.1 = some .local ∨ ((defScope st).names.lookup y.1 = some .cell ∧ ((cellsFrom (s.heap.objs.size + 1) (defScope st).names []).lookup y.1).isSome = true) := fun ⟨nm, vl⟩ hy =>
    (S.par nm (List.of_mem_zip hy).1).imp id fun z => ⟨z, PySem.W.cellsFrom_some _ _ _ (Or.inl z)⟩
  refine codeAny_call_function hr.depth (inK _ _ lk) rfl S.co S.gen rfl (PySem.W.codeRec_of inK hcd) (hb _ _ _ _ (wpAny_newFunctionEnv_cells S.kind kinds ?_))
  rintro env rfl s1 nw
  refine ⟨(e0.mod.nolimit.keeps fun b ob z => (e0.bs b ob z).1).keeps nw.toInCall.keep, codeAny_func ?_⟩
  have J : Inv (cxH (L2N.CX P w) P w K mg base N x (defScope st) f cdv A outer s H E p) [] (L2.start N vs) H s1 := inv_startH S hpin e0 hl hv nw
  have want : lS K (fun c d _ H => E c d H) (bf p.1 dd) { nx := fun _ H' => Q .non H', rt := Q } (L2.start N vs) H := by
    have hd : ds.length = ps.length := by rw [← da.length]; exact hl
    rw [defF, if_pos hd] at q
    exact ⟨g, startE N.length ds, ws, hK, r, EnR.begin da, leave_ok r q⟩
  refine wpAny_mono ((hbody cdv A outer s H E p dd hot hz (hr.deeper _) hgu).run [] s1 _ H _ J want) (fun fl s' hs => ?_) fun _ _ z => z
  match fl, hs with
  | .next, ⟨_, H', K, z⟩ => exact ⟨.non, H', K.os, K.bare, K.base, K.hok, rfl, z⟩
  | .ret u, ⟨v, _, H', K, rv, z⟩ => exact ⟨v, H', K.os, K.bare, K.base, K.hok, rv, z⟩
  | .brk, ⟨_, _, _, z⟩ => exact z.elim
  | .cont, ⟨_, _, _, z⟩ => exact z.elim
end
section
variable {X : Cx} {W : WX} {k : Nat} {ps : List Str} {C dd : Addr} {gf : Addr → Addr → FF} {x : Str} {st : Stmt} {q pos : Pos} {p : Addr × Obj}
theorem pf_callH {D : DefAt X.K X.mg x st ps} {e : Expr} {es : List Expr} {fa : FA} (G : GxH X.prog X.w X.K X.mg X.base k C D gf) (hr : RoomH k X.A) (hot : Hot1 X.A p) (hp : p ∈ X.pn) (hz : Zc (.ref C) (some dd) p.2) (hgu : X.A.guards = some []) (hgl : Gl X x) (tk : L2N.Takes X W) (ha : PAf X W (e :: es) fa)
    (hdb : (x == ("__debug__" : Str)) = false := by decide) (he : starEach (e :: es) X.env = (false, eval e X.env) :: starEach es X.env := by rfl) (hpl : (backTo pos (starEach es X.env)).any (·.1) = false := by rfl) :
    PF X W (.Call (.Name x q) (e :: es) [] pos) (eCall (gf p.1 dd) [] fa) := by
  refine ⟨fun pins s σ H Q I h => ?_⟩
  have want := call_want (dvs := []) (des := []) (n := ps.length) (fun _ => .nil) (fun as => by
    by_cases h : (as ++ []).length = ps.length
    · exact Or.inl h
    · exact Or.inr fun w => G.len _ _ _ w h) h
  refine wpAny_Call_Name_kw (ld_glob I hgl D.at_ (PySem.W.callWith_K (h₀ := X.base) I.ok.mod.kin D.fn.kp (thn (ha.run pos pins s σ H _ I want) fun us s1 ⟨vs, H1, I1, rv, z⟩ => ⟨I1.kIn, ?_⟩) he hpl) hdb)
  show wpAny _ _ (call (.ref D.f) us) _ _ _
  have z : spF X.K ps.length (gf p.1 dd) (vs ++ []) H1 Q (fun c d H' => W c d σ H') := z
  rw [List.append_nil] at z
  have P1 := I1.pin p (List.mem_append_left _ hp)
  have pinned : PinOk X.stack H1 s1 p := ⟨P1.1, P1.2.1, fun hm => (List.mem_cons.mp (I1.stkSub p.1 hm)).elim P1.2.2.1 P1.2.2.2.1, P1.2.2.2.2⟩
  have many : us.length = ps.length := by
    obtain ⟨_, _, _, _, _, _, hl, _⟩ := z
    rw [← rv.length]; exact hl
  have bound := D.bd s1 us I1.kIn (by rw [List.append_nil]; exact many)
  rw [List.append_nil] at bound
  refine wpAny_call (codeAny_mono (G.run X.A X.stack s1 H1 ⟨us, []⟩ us vs Q _ p dd hr hot hz pinned hgu I1.env0 bound rv z) fun res s' fin => ?_)
  match res, fin with
  | .error e, fin => exact tk e s' (L2N.XE.of_call I1 (fun _ _ _ z => z) fin)
  | .ok (.ret u), fin => exact I1.after fin
/-- for k in range(n), within such a context -/
noncomputable abbrev PIfH (X : Cx) (W : WX) (tg e : Expr) (f : FA) : Prop := PIH X tg e (lI X.K W f)
theorem pif_range1H {tg a : Expr} {fa : FA} {p1 : Pos} (hg : Gl X "range") (hm : X.mg "range" = none) (ha : PAf X W [a] fa) (hs : starEach [a] X.env = [(false, eval a X.env)] := by rfl) : PIfH X W tg (.Call (.Name "range" p1) [a] [] pos) (iR1 fa) := by
  have key := pi_range1H (tg := tg) (p := p1) (pos := pos) hg hm ha hs
  refine ⟨fun pins s σ H R I ⟨g, ρ, w, hK, r, e, q⟩ => key.run pins s σ H R I ?_⟩
  refine lX_bind hK r e q fun v H1 g1 d w1 x r1 e1 dv z => ?_
  split at z
  · cases dv with
    | cons d0 dn =>
      cases dn; cases d0
      obtain ⟨hb, z⟩ := z.on
      have hb := of_decide_eq_true hb
      refine ⟨_, rfl, by omega, by omega, ?_⟩
      have := z _ H1 g1 (Xt.refl _) r1 (wk_rng (lo := 0))
      rw [Int.sub_zero] at this
      exact this
  · exact z.elim
theorem psf_setLcH {i : Nat} {y : Str} {py spos : Pos} {elt tg iter : Expr} {ifs : List Expr} {scope : Scope} {own : List (Str × Nat)} {fi : FA} {gt : FG} {tt : FT} {fe : FE} {is : List Nat} (hot : Hot1 X.A p) (hp : p ∈ X.pn) (hN : X.N.Nodup) (hy : X.N[i]? = some y) (loc : X.env.scope.names.lookup y = some .local)
    (sw : swapsWith (.ListComp elt [⟨tg, iter, ifs, 0⟩] scope pos) (some (.Name y py)) spos.line X.env = pure true) (hi : PIfH X W tg iter fi) (ok : BlkOk X.N X.env.scope scope own)
    (hg : ∀ (s : Shared) (H : Hp) (C : Addr) (cl : List (Str × Addr)) (fp : List Addr), PGf (X.blk s H scope (compEnvC scope cl C X.env) fp) is tg gt)
    (ht : ∀ (s : Shared) (H : Hp) (C : Addr) (cl : List (Str × Addr)) (fp : List Addr), PTs (X.blk s H scope (compEnvC scope cl C X.env) fp) ifs (lT X.K W0 tt))
    (he : ∀ (s : Shared) (H : Hp) (C : Addr) (cl : List (Str × Addr)) (fp : List Addr), PF (X.blk s H scope (compEnvC scope cl C X.env) fp) W0 elt fe)
    (hs : ∀ x, foldedSetIterable iter X.env x = pure x := by intro _; rfl) (his : ∀ i ∈ is, i ∈ own.map (·.2) := by decide) :
    PSf X W (.Assign [.Name y py] (.ListComp elt [⟨tg, iter, ifs, 0⟩] scope pos) spos) (sAsg (eLc fi gt tt fe (own.map (·.2))) (gN i)) := by
  refine ps_imp (ps_setLcH (g := lG X.K is gt) (tt := lT X.K W0 tt) (te := lE X.K W0 fe) hot hp hN hy loc sw hi ok hg ht he hs) fun D σ H ⟨g, ρ, w, hK, r, e, q⟩ => ?_
  exact lc_of (W := W) his σ H _ (lX_then hK r e q fun v H1 g1 d w1 x r1 e1 dv z => z _ H1 g1 (Xt.refl _) r1 (e1.set i dv))
end
end Te

set_option Elab.async false
set_option linter.all false
set_option maxRecDepth 100000
set_option maxHeartbeats 4000000
namespace Te
open PySem PySem.Spec PyProof.Rows L2 LamX Td
/-! ### the body of a lambda that may raise -/
/-- the body's context: what it lets out has no context -/
noncomputable def lamN (X : Cx) (A : Around) (outer : List Env) (s : Shared) (H : Hp) (E : XK) (scope : Scope) (f c' : Addr) : Cx :=
  (lamCx X A outer s H E scope f c').wish fun e s' => wpAny (model X.prog X.w) (A.deeper (lamEnv X scope s.heap.objs.size f c')) (leaving (lamEnv X scope s.heap.objs.size f c') e) (fun _ s'' => L2N.CX X.prog X.w outer H s E e s'') (fun e' s'' => L2N.CX X.prog X.w outer H s E e' s'') s'
theorem tkN {X : Cx} {A : Around} {outer : List Env} {s : Shared} {H : Hp} {E : XK} {scope : Scope} {f c' : Addr} : L2N.Takes (lamN X A outer s H E scope f c') (fun c d _ H => E c d H) := L2N.takes_of rfl rfl rfl rfl
section
variable {X : Cx} {pins : List (Addr × Obj)} {σ : L2.St} {H : Hp} {s : Shared}
/-- the call of what was handed over, in the def that got it -/
theorem pe_askN {CXg : CXT} {Eg : XK} {Ng : List Str} {qg : Str} {sg : Scope} {g f c' : Addr} {cdg pm ctv : Value} {params : Arguments} {body : Expr} {scope : Scope} {k i : Nat} {a : Str} {pn : List (Addr × Obj)} {xe : Value → Shared → Prop} {W : WX} {E : XK} {tb : TE} {p1 p2 : Pos}
    (I : Inv X pins σ H s) (L : LamS X.env.scope scope) (hf : s.heap.get? f = some (PySem.W.kla_obj "<lambda>" (X.env.qual ++ "<lambda>") params body scope (cloFrom X.env.cells scope.names []) pm c' ctv)) (hfn : H f = none) (hfr : f ∉ frs X.stack)
    (hbind : bindArgs (PySem.W.kla_fn "<lambda>" (X.env.qual ++ "<lambda>") params body scope (cloFrom X.env.cells scope.names []) pm (.ref c') ctv) ⟨[], []⟩ = pure [])
    (tk : L2N.Takes ((cxOf CXg X.prog X.w X.K X.mg X.base Ng qg sg g cdg X.A X.stack s H Eg).tr pn xe) W) (hW : ∀ cls d σ' H', E cls d H' → W cls d σ' H') (hr : Room (k + 1) (X.A.deeper (envOfC qg sg s.heap.objs.size g cdg))) (hgu : X.A.guards = some [])
    (hbody : ∀ (A : Around) (outer : List Env) (s : Shared) (H : Hp), Room k (A.deeper (lamEnv X scope s.heap.objs.size f c')) → A.guards = some [] → PE (lamN X A outer s H E scope f c') body tb)
    (hN : Ng[i]? = some a) (hv : Vis sg a) (hd : (a == ("__debug__" : Str)) = false := by decide) (hcd : (a == ("__classdict__" : Str)) = false := by decide) :
    PE ((cxOf CXg X.prog X.w X.K X.mg X.base Ng qg sg g cdg X.A X.stack s H Eg).tr pn xe) (.Call (.Name a p1) [] [] p2)
      (fun σZ HZ Q => σZ[i]? = some (some (.ref f)) ∧ HZ c' = some (CodeO c' (X.env.qual ++ "<lambda>")) ∧ tb σ HZ Q) := by
  refine ⟨fun pinsZ sZ σZ HZ Q IZ ⟨slot, code, want⟩ => ?_⟩
  refine wpAny_Call_Name_kw (thn ((pe_var (pos := p1) (i := i) hN hv hd hcd).run pinsZ sZ σZ HZ (fun v H1 => v = .ref f ∧ H1 = HZ) IZ ⟨.ref f, slot, rfl, rfl⟩) fun u s1 ⟨v, H1, I1, r1, ev, eH⟩ => ?_)
  subst ev eH
  obtain rfl : u = Value.ref f := r1
  have lies := I1.base.keep f _ hf hfn hfr (fun z => nomatch (show f ∈ ([] : List Addr) from z))
  have un : Un (frs X.stack) [] H H1 s.heap s1.heap := I1.base
  obtain ⟨⟨oc, vs, t, at_c, dat, nam⟩, _, _⟩ := I1.hok c' _ code
  refine PySem.W.callWith_F0 ⟨_, _, _, _, lies⟩ (wpAny_call (codeAny_mono (PySem.W.kla_callFunE hr.depth lies rfl L.co L.gen rfl ⟨c', oc, vs, t, rfl, at_c, dat, nam⟩ ?_ : codeAny (model X.prog X.w) (X.A.deeper (envOfC qg sg s.heap.objs.size g cdg)) (.call (.ref f) ⟨[], []⟩) (CR (L2N.CX X.prog X.w) (envOfC qg sg s.heap.objs.size g cdg :: X.stack) X.prog X.w H1 s1 Q E) s1) fun res s' fin => ?_))
  · rw [hbind]
    refine wpAny_pure (wpAny_newFunctionEnv (fun y hy => (L.own y hy).2) (fun y hy => absurd hy (by simp)) (fun h₁ hns hsb => ⟨I1.nolimit.fresh _ hsb, ?_⟩) L.kind)
    have up : ∀ b o, s1.heap.get? b = some o → h₁.get? b = some o := fun b o e => hsb.extBut b o (Nat.ne_of_lt (Heap.lt_size e)) (Heap.get?_push_of_some _ e)
    have J0 : Inv (lamCx X (X.A.deeper (envOfC qg sg s.heap.objs.size g cdg)) (envOfC qg sg s.heap.objs.size g cdg :: X.stack) s1 H1 E scope f c') [] σ H1 { s1 with heap := h₁, toks := s1.toks + ([] : List (Str × Value)).length } := lam_start2 I L I1.env0 hr.hd un hns up
    refine PySem.W.kla_codeExpr (wpAny_mono ((hbody _ _ s1 H1 (hr.deeper _) hgu).run [] _ _ H1 Q (J0.wish _) want) (fun v s' ⟨x, H', K, rv, q⟩ => ⟨x, H', K.os, K.bare, K.base, K.hok, rv, q⟩) fun e s' hq => hq)
  · match res, fin with
    | .error e, fin => exact L2N.passes_call tk hW pinsZ σZ H1 s1 e s' I1 fin
    | .ok (.ret u), fin => exact I1.after fin
end
end Te

set_option Elab.async false
set_option linter.all false
set_option maxRecDepth 100000
set_option maxHeartbeats 4000000
namespace Te
open PySem PySem.Spec PyProof.Rows L2 LamX L2H Td
/-! ### found = ('other',); try: found = ('result', ask()); except T as e: suite; return found -/
/-- what the def makes of what it is handed: outF tells the tuple that an exception gives -/
noncomputable def TE1 (K : PySem.W.Frag) (outF : Str → List (Str × PyData) → Option (List PyData)) (Q : VK) : XK := fun cls dd H' => ∃ g n C fs w1 ds, g.K = K ∧ ClsAt K n C ∧ cls = .ref C ∧ Rp g H' w1 ∧ XdR g H' fs dd ∧ outF n fs = some ds ∧ ∀ v' H'' g', Xt g g' → Rp g' H'' w1 → Dq g' v' (.tuple ds) → Q v' H''
noncomputable def TQ1 (K : PySem.W.Frag) (Q : VK) : VK := fun v H' => ∃ g d w1, g.K = K ∧ Rp g H' w1 ∧ Dq g v d ∧ ∀ v' H'' g', Xt g g' → Rp g' H'' w1 → Dq g' v' (.tuple [.str "result", d]) → Q v' H''
noncomputable def TTo (K : PySem.W.Frag) (outF : Str → List (Str × PyData) → Option (List PyData)) : (XK → Hp → VK → Prop) → Hp → VK → Prop := fun tl H Q => ∀ p0 (o : Obj), o.dict = none → H p0 = none → tl (TE1 K outF Q) (upd H p0 (.frz o (.tup [.str "other"]))) (TQ1 K Q)
/-- the exception's dict is frozen -/
theorem Rp.keepXd {g : Gd} {H : Hp} {w : Ws} {dd : Addr} {fs : List (Str × PyData)} (r : Rp g H w) (x : XdR g H fs (some dd)) : ∃ g' gs, Xt g g' ∧ Rp g' H w ∧ g'.F dd = some (.xd gs) ∧ KvR g' gs fs := by
  obtain ⟨nF, nP, nμ, gs, hd, kv⟩ := x
  have X : Xt g (g.fz dd (.xd gs)) := Xt.put nF
  refine ⟨g.fz dd (.xd gs), gs, X, ⟨fun a u e => ?_, r.len, fun l ob e => ?_, r.inj, fun a u e => ?_, fun p hp => ?_⟩, upd_same, kv.mono X.toXt0⟩
  · have e : upd g.F dd (.xd gs) a = some u := e
    by_cases q : a = dd
    · subst q; rw [upd_same] at e; exact hd.trans e
    · rw [upd_ne q] at e; exact r.fro a u e
  · have hl : l < g.n := by rw [r.len]; exact (List.getElem?_eq_some_iff.mp e).1
    have c := r.cell l ob e
    cases ob with
    | lst es => obtain ⟨a, b, c, d⟩ := c; exact ⟨(upd_ne (nμ l hl)).trans a, b, c, d.mono X.toXt0 _ _⟩
    | dK es => obtain ⟨a, b, c, d⟩ := c; exact ⟨(upd_ne (nμ l hl)).trans a, b, c, d.mono X.toXt0⟩
    | ins C fs =>
      obtain ⟨a, dx, gs', hC, own, n2, d⟩ := c
      refine ⟨(upd_ne (nμ l hl)).trans a, dx, gs', hC, own, (upd_ne fun z => ?_).trans n2, d.mono X.toXt0⟩
      rw [z, hd] at own
      cases own
    | dead => exact c
  · obtain ⟨h1, h2, h3⟩ := r.pin a u e
    refine ⟨h1, (upd_ne fun z => ?_).trans h2, h3⟩
    have e : g.P a = some u := e
    rw [z, nP] at e
    cases e
  · obtain ⟨t1, t2, t3⟩ := r.tab p hp
    refine ⟨t1.up X.ex rfl, (upd_ne (r.tab.ne hp fun ps z => ?_)).trans t2, t3⟩
    rw [hd] at z
    cases z
/-- the def's text -/
noncomputable abbrev askB (a found te en : Str) (j1 j2 : Nat) (k1 k2 : Nat) (q1 q2 q3 q4 q5 q6 q7 q8 q9 q10 q11 q12 q13 q14 q15 : Pos) (b0 : Stmt) (suite : List Stmt) : List Stmt :=
  [.Assign [.Name found q1] (.Tuple [.Constant (.str "other") j1 q2] k1 q3) q4,
   .Try [.Assign [.Name found q5] (.Tuple [.Constant (.str "result") j2 q6, .Call (.Name a q7) [] [] q8] k2 q9) q10] [.ExceptHandler (some (.Name te q11)) (some en) (b0 :: suite) q12] [] [] q13,
   .Return (some (.Name found q14)) q15]
theorem pe_less {X : Cx} {e : Expr} {t : TE} (h : PE X e t) : PE X e (fun σ H Q => ∃ Q1 : VK, (∀ v H', Q1 v H' → Q v H') ∧ t σ H Q1) := ⟨fun pins s σ H Q I ⟨Q1, up, want⟩ =>
  thn (h.run pins s σ H Q1 I want) fun u s' ⟨v, H', J, rv, q⟩ => ⟨v, H', J, rv, up _ _ q⟩⟩
theorem ask_body {X : Cx} {Ng : List Str} {x : Str} {sg : Scope} {g : Addr} {cdg : Value} {a found te en q : Str} {cT f c' : Addr} {s : Shared} {H : Hp} {Q : VK} {tl : XK → Hp → VK → Prop} {outF : Str → List (Str × PyData) → Option (List PyData)} {bS : Str → Addr → Addr → FS}
    {j1 j2 k1 k2 : Nat} {q1 q2 q3 q4 q5 q6 q7 q8 q9 q10 q11 q12 q13 q14 q15 : Pos} {b0 : Stmt} {suite : List Stmt} {Z : Cx} (hZ : Z = (cxOf C8.CX0 X.prog X.w X.K X.mg X.base Ng x sg g cdg X.A X.stack s H C8.E0).nox)
    (nd : Ng.Nodup) (at0 : Ng[0]? = some a) (at1 : Ng[1]? = some found) (at2 : Ng[2]? = some en) (l1 : sg.names.lookup found = some .local) (l2 : sg.names.lookup en = some .local)
    (d1 : (found == ("__debug__" : Str)) = false) (c1 : (found == ("__classdict__" : Str)) = false)
    (act : ∀ (W : WX) (pn : List (Addr × Obj)) (xe : Value → Shared → Prop) (E : XK) (p1 p2 : Pos), L2N.Takes (Z.tr pn xe) W → (∀ cls d σ' H', E cls d H' → W cls d σ' H') →
      PE (Z.tr pn xe) (.Call (.Name a p1) [] [] p2) (fun σZ HZ Q => σZ[0]? = some (some (.ref f)) ∧ HZ c' = some (CodeO c' q) ∧ tl E HZ Q))
    (code : H c' = some (CodeO c' q)) (nm : Names Z te (.ref cT)) (caught : ∀ n C fs ds, ClsAt X.K n C → outF n fs = some ds → PySem.W.exmOne X.K (.ref C) (.ref cT) = some true)
    (hsu : ∀ n C fs ds, ClsAt X.K n C → outF n fs = some ds → ∀ (a : Addr) (oe : Obj) (dd : Addr) (pn : List (Addr × Obj)), L2N.Zn (.ref C) (some dd) oe → (∃ vs, oe.data = .fields vs) → PSsf (Z.suite a ((a, oe) :: pn)) W0 (b0 :: suite) (bS n a dd))
    (hgo : ∀ n fs ds, outF n fs = some ds → ∀ a dd w, ∃ ρ', bS n a dd ((List.replicate Ng.length none).set 2 (some (exD a dd (fs.map (·.1)) (fs.map (·.2))))) w = .nx ρ' w ∧ ρ'[1]? = some (some (.tuple ds)))
    (noD : ∀ n fs ds, outF n fs = some ds → fs ≠ []) (h : TTo X.K outF tl H Q) :
    ∃ t, PSs Z (askB a found te en j1 j2 k1 k2 q1 q2 q3 q4 q5 q6 q7 q8 q9 q10 q11 q12 q13 q14 q15 b0 suite) t ∧ t { nx := fun _ H' => Q .non H', rt := Q } (L2.start Ng [.ref f]) H := by
  have two : 2 < Ng.length := (List.getElem?_eq_some_iff.mp at2).1
  have ZN : Z.N = Ng := by rw [hZ]; rfl
  have ZK : Z.K = X.K := by rw [hZ]; rfl
  have vis1 : Vis Z.env.scope found := by rw [hZ]; exact .inl l1
  have loc1 : Loc Z.env.scope found := by rw [hZ]; exact .inl l1
  let ts : Addr → Value → Option Addr → TS := fun a cls d D σ H => σ.length = Ng.length → ∃ n C dd fs ds, cls = .ref C ∧ d = some dd ∧ ClsAt X.K n C ∧ outF n fs = some ds ∧ lS X.K W0 (bS n a dd) D σ H
  have hts : ∀ (a : Addr) (oe : Obj) (cls : Value) (d : Option Addr) (pn : List (Addr × Obj)), L2N.Zn cls d oe → (∃ vs, oe.data = .fields vs) → PSs (Z.suite a ((a, oe) :: pn)) (b0 :: suite) (ts a cls d) := fun a oe cls d pn hz hf => by
    refine ⟨fun pins s' σ' H' D I want => ?_⟩
    obtain ⟨n, C, dd, fs, ds, rfl, rfl, hC, ho, w⟩ := want (by rw [I.len]; show Z.N.length = _; rw [ZN])
    have := hsu n C fs ds hC ho a oe dd pn hz hf
    exact this.run pins s' σ' H' D I (by rw [show (Z.suite a ((a, oe) :: pn)).K = X.K from ZK]; exact w)
  let tb : WX → TS := fun W D σ H => ∃ (E : XK) (Q1 : VK), (∀ cls d σ' H', E cls d H' → W cls d σ' H') ∧ σ[0]? = some (some (.ref f)) ∧ H c' = some (CodeO c' q) ∧ tl E H Q1 ∧ ∀ v H', Q1 v H' → ∀ p (o : Obj), o.dict = none → H' p = none → D.nx (σ.set 1 (some (.ref p))) (upd H' p (.frz o (.tup [.str "result", v])))
  have htb : ∀ (W : WX) (pn : List (Addr × Obj)) (xe : Value → Shared → Prop), L2N.Takes (Z.tr pn xe) W → PassesOwn (model Z.prog Z.w) Z.A Z.env xe → PSs (Z.tr pn xe) [.Assign [.Name found q5] (.Tuple [.Constant (.str "result") j2 q6, .Call (.Name a q7) [] [] q8] k2 q9) q10] (tb W) := fun W pn xe tk _ => by
    refine ⟨fun pins s' σ' H' D I ⟨E, Q1, hW, s0, hc, want, fin⟩ => ?_⟩
    have pe := pe_less (act W pn xe E q7 q8 tk hW)
    have ps := pss_one (ps_set (X := Z.tr pn xe) (pos := q10) (pos' := q5) (i := 1) (x := found) (by show Z.N.Nodup; rw [ZN]; exact nd) (by show Z.N[1]? = _; rw [ZN]; exact at1) loc1 (pe_tupP (x1 := k2) (pos := q9) (pa_cons (pe_str (x := ("result" : Str)) (j := j2) (pos := q6)) (pa_cons pe pa_nil))) rfl (.inr (by rw [hZ]; exact l1)))
    refine ps.run pins s' σ' H' D I ?_
    refine ⟨Q1, fun v H1 h1 => ⟨by rw [sizeLine_eq]; show 2 ≤ _; decide, fun p o ho hp => fin v H1 h1 p o ho hp⟩, s0, hc, want⟩
  refine ⟨_, pss_cons (ps_set (X := Z) (pos := q4) (pos' := q1) (i := 1) (x := found) (by rw [ZN]; exact nd) (by rw [ZN]; exact at1) loc1 (pe_tupP (x1 := k1) (pos := q3) (pa_cons (pe_str (x := ("other" : Str)) (j := j1) (pos := q2)) pa_nil)) rfl (.inr (by rw [hZ]; exact l1)))
    (pss_cons (L2N.ps_try_as (X := Z) (Wout := W0) (i := 2) (np := q11) (pos := q13) (pos' := q12) (by rw [hZ]; rfl) (by rw [hZ]; rfl) (by rw [ZN]; exact nd) (by rw [ZN]; exact at2) (by rw [hZ]; exact l2) nm takesW0 htb hts)
      (pss_one (ps_ret (pos := q15) (pe_var (pos := q14) (i := 1) (by rw [ZN]; exact at1) vis1 d1 c1)))), ?_⟩
  refine ⟨by rw [sizeLine_eq]; show 1 ≤ _; decide, fun p0 o0 ho0 hp0 => ?_⟩
  have fresh : c' ≠ p0 := ne_of_none code hp0
  refine ⟨TE1 X.K outF Q, TQ1 X.K Q, fun cls d σ' H' e1 => ?_, ?_, by rw [upd_ne fresh]; exact code, h p0 o0 ho0 hp0, fun v H' e1 p o ho hp => ?_⟩
  · obtain ⟨g1, n, C, fs, w1, ds, hK, hC, rfl, r1, xd, ho, fin⟩ := e1
    refine ⟨true, by rw [ZK]; exact caught n C fs ds hC ho, fun _ a ha => fun len => ?_, fun z => by cases z⟩
    cases d with
    | none => exact absurd (show fs = [] from xd) (noD n fs ds ho)
    | some dd =>
      obtain ⟨g2, gs, x2, r2, hF, kv⟩ := Rp.keepXd r1 xd
      refine ⟨n, C, dd, fs, ds, rfl, rfl, hC, ho, ?_⟩
      obtain ⟨ρ', e1, e2⟩ := hgo n fs ds ho a dd w1
      refine ⟨g2, (List.replicate Ng.length none).set 2 (some (exD a dd (fs.map (·.1)) (fs.map (·.2)))), w1, x2.k.trans hK, r2, ⟨?_, fun i y e => ?_⟩, ?_⟩
      · simp only [List.length_set, List.length_replicate] at len ⊢; exact len
      · by_cases hi : i = 2
        · subst hi
          have lt : 2 < σ'.length := by rw [List.length_set] at len; omega
          rw [List.getElem?_set_self (by rw [List.length_replicate]; exact two)] at e
          cases e
          exact ⟨.ref a, List.getElem?_set_self lt, exD_dq hF kv⟩
        · rw [List.getElem?_set_ne (Ne.symm hi), List.getElem?_replicate] at e
          split at e <;> cases e
      · rw [e1]
        intro σ3 H3 g3 x3 r3 en3
        obtain ⟨v, hv, dv⟩ := en3.at_ 1 _ e2
        exact ⟨v, by rw [List.getElem?_set_ne (by decide)]; exact hv, fin v H3 g3 (x2.trans x3) r3 dv⟩
  · show ((L2.start Ng [.ref f]).set 1 _)[0]? = _
    rw [List.getElem?_set_ne (by decide)]
    rfl
  · obtain ⟨g1, d, w1, hK, r1, dv, fin⟩ := e1
    have lt1 : 1 < ((L2.start Ng [V.ref f]).set 1 (some (.ref p0))).length := by
      rw [List.length_set]
      unfold L2.start
      rw [List.length_append, List.length_map, List.length_replicate, List.length_singleton]
      omega
    have one : 2 ≤ sizeLine := by rw [sizeLine_eq]; decide
    have r2 := r1.put (o := .frz o (.tup [.str "result", v])) hp
    exact ⟨.ref p, List.getElem?_set_self lt1, fin _ _ _ (Xt.put (r1.fnone hp)) r2 (newT r1 ho hp (.cons (.str _) (.cons dv .nil)))⟩
end Te

set_option Elab.async false
set_option linter.all false
set_option maxRecDepth 100000
set_option maxHeartbeats 4000000
namespace Te
open PySem PySem.Spec PyProof.Rows L2 LamX L2H Td
/-! ### what a def makes of a lambda that it asks within try -/
/-- the reading: ('result', d), or what outF tells of the exception's fields -/
noncomputable def eOut (outF : Str → List (Str × PyData) → Option (List PyData)) (f : FE) : FE := fun ρ w => match f ρ w with
  | .ok d w1 => .ok (.tuple [.str "result", d]) w1
  | .ex c fs w1 => (match c with
    | .str n _ => (match outF n fs with
      | some ds => .ok (.tuple ds) w1
      | none => .no)
    | _ => .no)
  | .no => .no
/-- the asking def's text does so -/
noncomputable def GivesOut (X : Cx) (Ng : List Str) (x : Str) (sg : Scope) (g : Addr) (cdg : Value) (bg : List Stmt) (a q : Str) (outF : Str → List (Str × PyData) → Option (List PyData)) : Prop :=
  ∀ (f c' : Addr) (s : Shared) (H : Hp) (Q : VK) (tl : XK → Hp → VK → Prop),
    (∀ (W : WX) (pn : List (Addr × Obj)) (xe : Value → Shared → Prop) (E : XK) (p1 p2 : Pos), L2N.Takes ((cxOf C8.CX0 X.prog X.w X.K X.mg X.base Ng x sg g cdg X.A X.stack s H C8.E0).nox.tr pn xe) W → (∀ cls d σ' H', E cls d H' → W cls d σ' H') →
      PE ((cxOf C8.CX0 X.prog X.w X.K X.mg X.base Ng x sg g cdg X.A X.stack s H C8.E0).nox.tr pn xe) (.Call (.Name a p1) [] [] p2) (fun σZ HZ Q => σZ[0]? = some (some (.ref f)) ∧ HZ c' = some (CodeO c' q) ∧ tl E HZ Q)) →
    H c' = some (CodeO c' q) → TTo X.K outF tl H Q →
    ∃ t, PSs (cxOf C8.CX0 X.prog X.w X.K X.mg X.base Ng x sg g cdg X.A X.stack s H C8.E0).nox bg t ∧ t { nx := fun _ H' => Q .non H', rt := Q } (L2.start Ng [.ref f]) H
theorem to_TTo {X : Cx} {W : WX} {outF : Str → List (Str × PyData) → Option (List PyData)} {f : FE} {σ : L2.St} {H : Hp} {Q : VK} {g : Gd} {ρ : Ev} {w : Ws} (hK : g.K = X.K) (r : Rp g H w) (en : EnR g σ ρ) (ok : ∀ g', Xt g g' → oX W σ Dq g' Q (eOut outF f ρ w)) :
    TTo X.K outF (fun E H' Q' => lE X.K (fun c d _ H => E c d H) f σ H' Q') H Q := by
  intro p0 o0 ho0 hp0
  have xp : Xt g (g.put p0 (.frz o0 (.tup [.str "other"]))) := Xt.put (r.fnone hp0)
  have ok := ok _ xp
  refine ⟨_, ρ, w, xp.k.trans hK, r.put hp0, en.mono xp.toXt0, ?_⟩
  unfold eOut at ok
  cases q : f ρ w with
  | no => rw [q] at ok; exact ok.elim
  | ok d w1 =>
    rw [q] at ok
    intro v H' g' x r' dv
    exact ⟨g', d, w1, x.k.trans (xp.k.trans hK), r', dv, fun v' H'' g'' x2 r'' d'' => ok v' H'' g'' (x.trans x2) r'' d''⟩
  | ex c fs w1 =>
    rw [q] at ok
    intro cv dd H' g' hc x r' xd
    cases c with
    | str n j =>
      obtain ⟨C, hC, rfl⟩ := hc
      cases ho : outF n fs with
      | none => simp only [ho] at ok; exact ok.elim
      | some ds =>
        simp only [ho] at ok
        have hK' : g'.K = X.K := x.k.trans (xp.k.trans hK)
        exact ⟨g', n, C, fs, w1, ds, hK', by rw [← xp.k.trans hK]; exact hC, rfl, r', xd, ho, fun v' H'' g'' x2 r'' d'' => ok v' H'' g'' (x.trans x2) r'' d''⟩
    | _ => exact ok.elim
section
variable {X : Cx} {W : WX}
theorem pf_out {x a : Str} {g c P : Addr} {k : Nat} {pg : Arguments} {bg : List Stmt} {sg : Scope} {dV kV doc pm cdv ct oc : Value} {an od : Option Addr} {osl : Array (Option Value)} {Ng : List Str} {outF : Str → List (Str × PyData) → Option (List PyData)}
    {params : Arguments} {body : Expr} {scope : Scope} {fb : FE} {p lpos pos : Pos} (hg : Gl X x) (hm : X.mg x = some (.ref g)) (hk : PySem.W.keepIn X.K (.ref g) = true)
    (lk : X.K.lookup g = some ⟨oc, od, .func (PySem.W.fnOf x x pg bg sg dV kV doc pm an cdv ct), osl⟩) (hcg : PySem.W.codeIn X.K cdv x = true) (hb : L2.Binds X.K (PySem.W.fnOf x x pg bg sg dV kV doc pm an cdv ct) [a] []) (Sg : FnScope Ng [a] sg) (hNg : Ng[0]? = some a) (hva : Vis sg a)
    (hG : GivesOut X Ng x sg g cdv bg a (X.env.qual ++ "<lambda>") outF)
    (TB : TabB X.base X.mg c P) (hcode : X.env.code = .ref c) (hmT : (P, X.env.qual ++ "<lambda>") ∈ tabsL X.K) (hu : ∀ p ∈ tabsL X.K, p.1 = P → p.2 = X.env.qual ++ "<lambda>") (hr : Room (k + 2) X.A) (hgu : X.A.guards = some []) (L : LamS X.env.scope scope) (hdef : defaultsOf params X.env = ([], []))
    (hbind : ∀ (q : Str) (cl : List (Str × Addr)) (pm cv ctv : Value), bindArgs (PySem.W.kla_fn "<lambda>" q params body scope cl pm cv ctv) ⟨[], []⟩ = pure [])
    (hbody : ∀ (A : Around) (outer : List Env) (s : Shared) (H : Hp) (E : XK) (f c' : Addr), Room k (A.deeper (lamEnv X scope s.heap.objs.size f c')) → A.guards = some [] → PF (lamN X A outer s H E scope f c') (fun c d _ H => E c d H) body fb)
    (hdb : (x == ("__debug__" : Str)) = false := by decide) (hd : (a == ("__debug__" : Str)) = false := by decide) (hcd : (a == ("__classdict__" : Str)) = false := by decide) :
    PF X W (.Call (.Name x p) [.Lambda params body scope lpos] [] pos) (eOut outF fb) := by
  refine ⟨fun pins s σ H Q I ⟨g0, ρ, w, hK, r, en, ok⟩ => ?_⟩
  obtain ⟨⟨ps, at_P, ok3, old⟩, _, _⟩ := r.tab _ (show (P, X.env.qual ++ "<lambda>") ∈ tabsL g0.K by rw [hK]; exact hmT)
  refine wpAny_Call_Name_kw (ld_glob I hg hm (PySem.W.callWith_K (h₀ := X.base) I.ok.mod.kin hk ?_ (by rfl) (by rfl)) hdb)
  show wpAny _ _ (spliced ((false, eval (.Lambda params body scope lpos) X.env) :: backTo pos (starEach [] X.env))) _ _ s
  refine Calls.spliced_cons (lam3 I TB hcode at_P ok3 (fun ps cv hc => let ⟨c0, e1, e2⟩ := old ps cv hc; ⟨c0, e1, r.fro _ _ e2⟩) hdef (L.has I.ok) fun f c' pm' ctv H1 s' I1 st hf hfn hfr hco => ?_)
  refine Calls.spliced_nil ⟨I1.kIn, ?_⟩
  obtain ⟨g1, x1, r1⟩ := Rp.tabStep r (by rw [hK]; exact hmT) (by rw [hK]; exact hu) at_P st
  have want : TTo X.K outF (fun E H' Q' => lE X.K (fun c d _ H => E c d H) fb σ H' Q') H1 Q := to_TTo (x1.k.trans hK) r1 (en.mono x1.toXt0) fun g' x' => oX.mono (x1.trans x') ok
  have rc : codeAny (model X.prog X.w) X.A (.call (.ref g) ⟨[.ref f], []⟩) (CR C8.CX0 X.stack X.prog X.w H1 s' Q C8.E0) s' := by
    refine run_ofS (N := Ng) (ps := [a]) (us := [.ref f]) (vs := [.ref f]) lk hcg Sg hr I1.env0 (hb s' [.ref f] I1.kIn rfl) (.cons rfl .nil) rfl fun hr' => ?_
    obtain ⟨t', ht', hq'⟩ := hG f c' s' H1 Q (fun E H' Q' => lE X.K (fun c d _ H => E c d H) fb σ H' Q') (fun W pn xe E p1 p2 tk hW => pe_askN (CXg := C8.CX0) (Eg := C8.E0) (Ng := Ng) (tb := lE X.K (fun c d _ H => E c d H) fb) (E := E) (i := 0) I1 L hf hfn hfr (hbind _ _ _ _ _) tk hW hr' hgu (fun A outer s H hr2 hg2 => hbody A outer s H E f c' hr2 hg2) hNg hva hd hcd) hco want
    exact ⟨t', ht'.nox, hq'⟩
  refine wpAny_call (codeAny_mono rc fun res s2 hq => ?_)
  match res, hq with
  | .ok (.ret u), hq => exact I1.after hq
end
end Te

set_option Elab.async false
set_option linter.all false
set_option maxRecDepth 100000
set_option maxHeartbeats 4000000
namespace Te
open PySem PySem.W PySem.Spec PyProof.Rows L2 LamX L2H Td
set_option genInjectivity false in
set_option genSizeOf false in
/-! ### own exception classes of a program, in one piece each -/
structure ExD (P : Program) (K : Frag) (mg : Str → Option Value) (n : Str) (ps fs : List Str) (sp : Frag → Addr → Sp) where
  C : Addr
  at_ : ClsAt K n C
  mgat : mg n = some (.ref C)
  oex : OexC K C
  isx : L2.ExcC K C
  xfc : XfC K C
  nof : ∀ f ∈ fs, findIn K (.ref C) f = some none
  fI : Addr
  fd : FuncData
  iC : findIn K (.ref C) "__init__" = some (some (.ref fI))
  tI : typeIn K (.ref fI) = some (.type "function")
  bd : Binds K fd ps []
  ok : ∀ (CX : CXT) (w : World) (base : Heap), FnOk P w K mg base CX 1 fI fd ps (sp K C)
set_option genInjectivity false in
set_option genSizeOf false in
/-- what the written part says of such a class and of its __init__ -/
structure ExQ (P : Program) (K : Frag) (n qual : Str) (params : Arguments) (body : List Stmt) (scope : Scope) (C fI cc c : Addr) where
  aC : nsIn K mainGlobals n = some (some (.ref C))
  nm : Str
  q : Str
  N : Addr
  bs : List Value
  bm : List Value
  sn : List Str
  sub : List Value
  ab : Bool
  col : Option Bool
  dd : Option Addr
  k0 : Option Value
  k1 : Option Value
  k2 : Option Value
  k3 : Option Value
  k5 : Option Value
  lC : K.lookup C = some (excClassObj nm q C N bs bm true sn sub ab col dd k0 k1 k2 k3 k5 "ValueError.__new__")
  rV : PySem.HandSPX.refsVE bm = true
  sa : findIn K (.ref C) "__setattr__" = some (some (.builtin "object.__setattr__"))
  eC : subIn K (.ref C) (.type "BaseException") = some true
  tC : typeIn K (.ref C) = some (.type "type")
  kC : keepIn K (.ref C) = true
  ga : findIn K (.ref C) "__getattribute__" = some (some (.builtin "BaseException.__getattribute__"))
  gg : findIn K (.ref C) "__getattr__" = some none
  hd : hasDictIn K C = true
  ca : findIn K (.ref C) "__class__" = some (some (.builtin "object.__class__"))
  cn : specialIn K (.builtin "object.__class__") "__get__" = some (some (.builtin "getset_descriptor.__get__"))
  ct : takesIn K (.builtin "object.__class__") = some true
  cm : mroIn K C (.type "object") = some true
  aI : findIn K (.ref C) "__init__" = some (some (.ref fI))
  tI : typeIn K (.ref fI) = some (.type "function")
  oc : Value
  od : Option Addr
  kV : Value
  doc : Value
  pm : Value
  an : Option Addr
  ctv : Value
  osl : Array (Option Value)
  lI : K.lookup fI = some ⟨oc, od, .func (fnX "__init__" qual params body scope [(("__class__" : Str), cc)] .none kV doc pm an (.ref c) ctv), osl⟩
  cI : codeIn K (.ref c) qual = true
  ccl : Value
  cdd : Option Addr
  vs : Array Value
  ccs : Array (Option Value)
  lc : K.lookup c = some ⟨ccl, cdd, .fields vs, ccs⟩
  file : Str
  tf : Tok
  v2 : vs[2]? = some (.str file tf)
  ef : ((P.main.file : Str) == file) = true
  cl : Value
  cld : Option Addr
  csl : Array (Option Value)
  ll : K.lookup cc = some ⟨cl, cld, .cell (some (.ref C)), csl⟩
  ms : mroIn K C (.ref C) = some true
  su : nsIn K mainGlobals "super" = some none
  any : nsIn K cStatics "thirdparty.any" = some none
  si : ks_superIn K C C "__init__" = some (some (.builtin "ValueError.__init__"))
  sv : subIn K (.ref C) (.type "ValueError") = some true
  tp : (P.main.scope.names.lookup ("super" : Str)).isSome = false
/-- the same from its facts alone -/
noncomputable def exQ_of {P : Program} {K : Frag} {n qual : Str} {params : Arguments} {body : List Stmt} {scope : Scope} {C fI cc c : Addr} {nm : Str} {q : Str} {N : Addr} {bs : List Value} {bm : List Value} {sn : List Str} {sub : List Value} {ab : Bool} {col : Option Bool} {dd : Option Addr} {k0 : Option Value} {k1 : Option Value} {k2 : Option Value} {k3 : Option Value} {k5 : Option Value} {oc : Value} {od : Option Addr} {kV : Value} {doc : Value} {pm : Value} {an : Option Addr} {ctv : Value} {osl : Array (Option Value)} {ccl : Value} {cdd : Option Addr} {vs : Array Value} {ccs : Array (Option Value)} {file : Str} {tf : Tok} {cl : Value} {cld : Option Addr} {csl : Array (Option Value)}
    (aC : nsIn K mainGlobals n = some (some (.ref C))) (lC : K.lookup C = some (excClassObj nm q C N bs bm true sn sub ab col dd k0 k1 k2 k3 k5 "ValueError.__new__")) (rV : PySem.HandSPX.refsVE bm = true) (sa : findIn K (.ref C) "__setattr__" = some (some (.builtin "object.__setattr__"))) (eC : subIn K (.ref C) (.type "BaseException") = some true) (tC : typeIn K (.ref C) = some (.type "type")) (kC : keepIn K (.ref C) = true) (ga : findIn K (.ref C) "__getattribute__" = some (some (.builtin "BaseException.__getattribute__"))) (gg : findIn K (.ref C) "__getattr__" = some none) (hd : hasDictIn K C = true) (ca : findIn K (.ref C) "__class__" = some (some (.builtin "object.__class__"))) (cn : specialIn K (.builtin "object.__class__") "__get__" = some (some (.builtin "getset_descriptor.__get__"))) (ct : takesIn K (.builtin "object.__class__") = some true) (cm : mroIn K C (.type "object") = some true) (aI : findIn K (.ref C) "__init__" = some (some (.ref fI))) (tI : typeIn K (.ref fI) = some (.type "function")) (lI : K.lookup fI = some ⟨oc, od, .func (fnX "__init__" qual params body scope [(("__class__" : Str), cc)] .none kV doc pm an (.ref c) ctv), osl⟩) (cI : codeIn K (.ref c) qual = true) (lc : K.lookup c = some ⟨ccl, cdd, .fields vs, ccs⟩) (v2 : vs[2]? = some (.str file tf)) (ef : ((P.main.file : Str) == file) = true) (ll : K.lookup cc = some ⟨cl, cld, .cell (some (.ref C)), csl⟩) (ms : mroIn K C (.ref C) = some true) (su : nsIn K mainGlobals "super" = some none) (any : nsIn K cStatics "thirdparty.any" = some none) (si : ks_superIn K C C "__init__" = some (some (.builtin "ValueError.__init__"))) (sv : subIn K (.ref C) (.type "ValueError") = some true) (tp : (P.main.scope.names.lookup ("super" : Str)).isSome = false) : ExQ P K n qual params body scope C fI cc c :=
  ⟨aC, nm, q, N, bs, bm, sn, sub, ab, col, dd, k0, k1, k2, k3, k5, lC, rV, sa, eC, tC, kC, ga, gg, hd, ca, cn, ct, cm, aI, tI, oc, od, kV, doc, pm, an, ctv, osl, lI, cI, ccl, cdd, vs, ccs, lc, file, tf, v2, ef, cl, cld, csl, ll, ms, su, any, si, sv, tp⟩
section
variable {P : Program} {K : Frag} {n qual : Str} {params : Arguments} {body : List Stmt} {scope : Scope} {C fI cc c : Addr} {h : Heap} {mg : Str → Option Value}
theorem ExQ.oex (E : ExQ P K n qual params body scope C fI cc c) : OexC K C := ⟨⟨E.nm, E.q, E.N, E.bs, E.bm, E.sn, E.sub, E.ab, E.col, E.dd, E.k0, E.k1, E.k2, E.k3, E.k5, E.lC, E.rV⟩, E.sa, E.eC, E.tC, E.kC⟩
theorem ExQ.isx (E : ExQ P K n qual params body scope C fI cc c) : L2.ExcC K C := ⟨E.ga, E.gg, E.eC, E.hd, E.ca, E.cn, E.ct, E.cm⟩
theorem ExQ.xfc (E : ExQ P K n qual params body scope C fI cc c) : XfC K C := ⟨E.ga, E.gg, E.eC, E.hd⟩
noncomputable abbrev ExQ.fd (E : ExQ P K n qual params body scope C fI cc c) : FuncData := fnX "__init__" qual params body scope [(("__class__" : Str), cc)] .none E.kV E.doc E.pm E.an (.ref c) E.ctv
theorem ExQ.sup (E : ExQ P K n qual params body scope C fI cc c) (X : K.In h) (G : h.Ns mainGlobals mg) : SupC K mg P C fI cc c E.fd :=
  ⟨E.oex, ⟨_, _, _, E.lI⟩, ⟨_, _, _, _, _, _, E.lc, E.v2, E.ef⟩, ⟨_, _, _, E.ll⟩, E.ms, mg_none_of X G E.su, E.any, E.si, E.sv, E.tp⟩
noncomputable def ExQ.mk1 (E : ExQ P K n qual params body scope C fI cc c) (X : K.In h) (G : h.Ns mainGlobals mg) {ps fs : List Str} {sp : Frag → Addr → Sp} (nof : ∀ f ∈ fs, findIn K (.ref C) f = some none) (bd : ∀ us : List Value, us.length = ps.length → bindArgs E.fd ⟨us, []⟩ = pure (ps.zip us))
    (ok : SupC K mg P C fI cc c E.fd → ∀ (CX : CXT) (w : World) (base : Heap), FnOk P w K mg base CX 1 fI E.fd ps (sp K C)) : ExD P K mg n ps fs sp :=
  ⟨C, E.aC, mg_of X G E.aC, E.oex, E.isx, E.xfc, nof, fI, E.fd, E.aI, E.tI, .all bd, ok (E.sup X G)⟩
end
section
variable {X : Cx} {W : WX}
theorem pf_no {e : Expr} : PF X W e (fun _ _ => .no) := ⟨fun pins s σ H Q I ⟨g, ρ, w, _, _, _, z⟩ => z.elim⟩
theorem psf_raiseE2 {n f1 f2 : Str} {ps fs : List Str} (D : ExD X.prog X.K X.mg n ps fs fun K C => sp2 K C f1 f2) {e e' : Expr} {fa : FA} {p pos pos' : Pos} (hc : X.calm = true) (tk : L2N.Takes X W) (hr : Room 2 X.A) (hg : Gl X n) (ha : PAf X W [e, e'] fa)
    (hdb : (n == ("__debug__" : Str)) = false := by decide) (he : starEach [e, e'] X.env = (false, eval e X.env) :: starEach [e'] X.env := by rfl) (hpl : (backTo pos (starEach [e'] X.env)).any (·.1) = false := by rfl) :
    PSf X W (.Raise (some (.Call (.Name n p) [e, e'] [] pos)) none pos') (sRz2 n f1 f2 fa) :=
  psf_raise2 (CX := C8.CX0) hc tk D.oex D.at_ D.iC D.tI (D.ok _ _ _) hr D.bd (fun _ _ _ _ _ _ _ z => z.elim) hg D.mgat ha hdb he hpl
end
/-! ### which exceptions an asking def tells -/
noncomputable def outL (l : List (Str × (List (Str × PyData) → Option (List PyData)))) : Str → List (Str × PyData) → Option (List PyData) := fun m fs => (l.lookup m).bind (· fs)
theorem outL_some {l : List (Str × (List (Str × PyData) → Option (List PyData)))} {m : Str} {fs : List (Str × PyData)} {ds : List PyData} (h : outL l m fs = some ds) : ∃ g, (m, g) ∈ l ∧ g fs = some ds := by
  unfold outL at h
  cases q : l.lookup m with
  | none => rw [q] at h; cases h
  | some g => rw [q] at h; exact ⟨g, PySem.mem_of_lookup q, h⟩
theorem clsAt_eq {K : Frag} {n : Str} {C D : Addr} (h : ClsAt K n C) (h' : ClsAt K n D) : C = D := by
  have z := h.symm.trans h'
  cases z
  rfl
/-- a class of a family is caught as one of the family -/
theorem caught_of {K : Frag} {C T : Addr} (hk : kitOne K (.ref C) (.ref T) = some true) (hs : subIn K (.ref T) (.type "BaseException") = some true) (ne : (Value.ref C == Value.ref T) = false) : exmOne K (.ref C) (.ref T) = some true := by
  unfold exmOne
  unfold kitOne at hk
  rw [ne] at hk
  rw [hs]
  exact hk
theorem hot_suite {X : Cx} {a : Addr} {oe : Obj} {pn : List (Addr × Obj)} {cls : Value} {d : Option Addr} (hz : L2N.Zn cls d oe) (hf : ∃ vs, oe.data = .fields vs) : Hot1 (X.suite a ((a, oe) :: pn)).A (a, oe) :=
  ⟨rfl, let ⟨vs, e⟩ := hf; ⟨vs, e, hz.2.2 vs e⟩⟩
end Te

set_option Elab.async false
set_option linter.all false
set_option maxRecDepth 100000
set_option maxHeartbeats 4000000
namespace Te
open PySem PySem.W PySem.Spec PyProof.Rows L2 LamX L2H Td
/-- the suite of a def's one try -/
noncomputable def trySuite (l : List Stmt) : List Stmt := match l with
  | [_, .Try _ [.ExceptHandler _ _ b _] _ _ _, _] => b
  | _ => []
theorem hu64H {k : Nat} {A : Around} (hr : RoomH k A) : A.units + 64 < cLine := by have := hr.un; omega
/-! ### the law's own call where lambdas are made -/
section
variable {P : Program} {w : World} {K : Frag} {mg mb : Str → Option Value} {base : Heap}
set_option genInjectivity false in
set_option genSizeOf false in
/-- a def that makes lambdas: its code object, and the table of their code objects -/
structure LamD (K : Frag) (fd : FuncData) (q : Str) where
  c : Addr
  P : Addr
  code : fd.code = .ref c
  mem : (P, q ++ ".<locals>." ++ "<lambda>") ∈ tabsL K
  hu : ∀ p ∈ tabsL K, p.1 = P → p.2 = q ++ ".<locals>." ++ "<lambda>"
theorem gx_ofT {x : Str} {st : Stmt} {N ps : List Str} {k : Nat} {bf : FS} {c : Addr} (D : DefAt K mg x st ps) (S : FnScope N ps (defScope st)) (hc : D.fd.code = .ref c)
    (hbody : ∀ (A : Around) (outer : List Env) (s : Shared) (H : Hp) (E : XK), Room k (A.deeper (envOfC x (defScope st) s.heap.objs.size D.f (.ref c))) → A.guards = some [] →
      PSsf (cxOf (L2N.CX P w) P w K mg base N x (defScope st) D.f (.ref c) A outer s H E) (fun c d _ H => E c d H) (defBody st) bf) : Gx P w K mg base (k + 1) D (defF N.length ps.length bf) :=
  ⟨fnG_ofT D.fn S fun cdv hcd A outer s H E hr hg => by
    obtain rfl : Value.ref c = cdv := hc.symm.trans hcd
    exact hbody A outer s H E hr hg, fun as w h => if_neg h⟩
/-- the abstract heap at the entry: the empty tables, and the script -/
noncomputable def H0T (K : Frag) (ts : List Addr) (a : Addr) (o : Obj) (ns : List Int) : Hp := fun b => if b ∈ ts then some (.tbl #[]) else H00 K a o ns b
theorem H0T_in {ts : List Addr} {a b : Addr} {o : Obj} {ns : List Int} (h : b ∈ ts) : H0T K ts a o ns b = some (.tbl #[]) := if_pos h
theorem H0T_out {ts : List Addr} {a b : Addr} {o : Obj} {ns : List Int} (h : b ∉ ts) : H0T K ts a o ns b = H00 K a o ns b := if_neg h
theorem lawGT {k : Nat} {fa a : Addr} {cs : List (Addr × Addr)} {fd : FuncData} {x : Str} {gf : FF} {s1 : Shared} {vs : List Value} {ns : List Int} {wf : Ws}
    (inK : K.In s1.heap) (nsG : s1.heap.Ns mainGlobals mg) (nsB : s1.heap.Ns builtinsNs mb) (boot : ∀ y : Str, y ≠ "__name__" → mb y = bootBuiltins y) (lim : s1.heap.NoLimit) (noGen : s1.gens = #[])
    (heads : ∀ p ∈ cs, CodeHd s1.heap p.1 p.2 ∧ s1.heap.get? p.2 = some (tabObj #[]) ∧ K.lookup p.2 = none) (tabs : ∀ t ∈ tabsL K, ∃ c, (c, t.1) ∈ cs)
    (bmain : ∃ (bm : Addr) (ob : Obj), mg "__builtins__" = some (.ref bm) ∧ bm ≠ builtinsNs ∧ s1.heap.get? bm = some ob ∧ ob.cls = .type "module" ∧ ob.dict = some builtinsNs ∧ ob.data = .plain)
    (at_a : s1.heap.get? a = some { cls := .type "list", data := .seq vs.toArray }) (hi : IntsAre vs ns) (hl : ns.length ≤ sizeLine) (hr : Room k callerA)
    (F : ∀ base : Heap, K.In base → base.Ns mainGlobals mg → (∀ p ∈ cs, TabB base mg p.1 p.2) → FnG P w K mg base k fa fd [x] gf) (hbind : ∀ (s : Shared) (u : Value), BindsTo s fd ⟨[u], []⟩ [(x, u)])
    (hv : gf [intsD ns] [] = .ok (.bool true) wf) :
    codeAny (model P w) callerA (.call (.ref fa) ⟨[.ref a], []⟩) (fun r s' => r = .ok (.ret (.bool true)) ∧ OldK s1.heap s'.heap ∧ s'.os = s1.os ∧ AllBare s'.gens) s1 := by
  obtain ⟨ob, hob⟩ : ∃ ob : Obj, ob = { cls := .type "list", data := .seq vs.toArray } := ⟨_, rfl⟩
  rw [← hob] at at_a
  obtain ⟨ts, hts⟩ : ∃ ts, ts = cs.map (·.2) := ⟨_, rfl⟩
  have ofT : ∀ b ∈ ts, ∃ c, (c, b) ∈ cs := fun b hb => by
    rw [hts] at hb
    obtain ⟨p, hp, rfl⟩ := List.mem_map.mp hb
    exact ⟨p.1, hp⟩
  have inT : ∀ p ∈ cs, p.2 ∈ ts := fun p hp => by rw [hts]; exact List.mem_map_of_mem hp
  have tabAt : ∀ b ∈ ts, s1.heap.get? b = some (tabObj #[]) := fun b hb => let ⟨_, hp⟩ := ofT b hb; (heads _ hp).2.1
  have aT : a ∉ ts := fun z => by
    have q := tabAt a z
    rw [at_a, hob] at q
    cases q
  obtain ⟨H, hH⟩ : ∃ H, H = H0T K ts a ob ns := ⟨_, rfl⟩
  have rv : Vals (ns.map V.int) vs := vals_ints hi
  have who : ∀ {b u}, H b = some u → (b ∈ ts ∧ u = .tbl #[]) ∨ (b ∉ ts ∧ b = a ∧ K.lookup a = none ∧ u = .frz ob (.lst (ns.map V.int))) := fun {b u} h => by
    by_cases hb : b ∈ ts
    · rw [hH, H0T_in hb] at h
      exact .inl ⟨hb, (Option.some.inj h).symm⟩
    · rw [hH, H0T_out hb] at h
      exact .inr ⟨hb, H00_some h⟩
  have sq : SqL K (H00 K a ob ns) a (ns.map V.int) := by
    cases q : K.lookup a with
    | none => exact .inl (.inr ⟨ob, by rw [H00, if_pos ⟨rfl, q⟩]⟩)
    | some o =>
      have z := (inK a o q).symm.trans at_a
      cases z
      subst hob
      exact .inr ⟨_, vs.toArray, _, q, rfl, rfl, rfl, by rw [List.size_toArray, hi.length]; exact hl, by simpa using rv⟩
  have hok : HOk P w H s1.heap := fun b u h => by
    rcases who h with ⟨hb, rfl⟩ | ⟨_, rfl, _, rfl⟩
    · exact tabAt b hb
    · refine ⟨at_a, by rw [List.length_map]; exact hl, vs, 0, rv, at_a.trans ?_⟩
      rw [hob]
  have clear : ∀ {b o}, s1.heap.get? b = some o → (∀ its n, o.data ≠ .seq its n) → o.data ≠ .fields #[] → H b = none := fun {b o} h nd nt => by
    cases q : H b with
    | none => rfl
    | some u =>
      rcases who q with ⟨hb, _⟩ | ⟨_, rfl, _, _⟩
      · rw [tabAt b hb] at h
        cases h
        exact absurd rfl nt
      · rw [at_a] at h
        cases h
        exact absurd (by rw [hob]) (nd vs.toArray _)
  have nsH : ∀ {b m}, s1.heap.Ns b m → (hidT s1.heap H).Ns b m := fun {b m} ⟨o, es, ep, h1, h2, h3⟩ => ⟨o, es, ep, hidT_get h1 (clear h1 (fun _ _ z => by rw [h2] at z; cases z) fun z => by rw [h2] at z; cases z), h2, h3⟩
  have inH : K.In (hidT s1.heap H) := fun b o h => by
    refine hidT_get (inK b o h) ?_
    cases q : H b with
    | none => rfl
    | some u =>
      rcases who q with ⟨hb, _⟩ | ⟨_, rfl, z, _⟩
      · obtain ⟨c, hp⟩ := ofT b hb
        rw [(heads _ hp).2.2] at h
        cases h
      · rw [z] at h
        cases h
  have TB : ∀ p ∈ cs, TabB (hidT s1.heap H) mg p.1 p.2 := fun p hp => by
    obtain ⟨⟨o, us, file, tf, flags, tg, inF, text, tt, h1, h2, h3, h4, rest⟩, h5, _⟩ := heads p hp
    refine ⟨⟨o, us, file, tf, flags, tg, inF, text, tt, hidT_get h1 (clear h1 (fun _ _ z => by rw [h3] at z; cases z) fun z => ?_), h2, h3, h4, rest⟩, ?_, fun z => ?_⟩
    · rw [h3] at z
      cases z
      cases h4
    · obtain ⟨bm, o2, b1, b2, b3, b4, b5, b6⟩ := bmain
      refine ⟨bm, o2, b1, b2, fun z => ?_, fun z => ?_, hidT_get b3 (clear b3 (fun _ _ z => by rw [b6] at z; cases z) fun z => by rw [b6] at z; cases z), b4, b5, b6⟩
      · obtain ⟨o3, es, ep, g1, g2, _⟩ := nsG
        rw [z, g1] at b3
        cases b3
        rw [g2] at b6
        cases b6
      · rw [z, h5] at b3
        cases b3
        cases b6
    · obtain ⟨o3, es, ep, g1, g2, _⟩ := nsG
      rw [z, h5] at g1
      cases g1
      cases g2
  obtain ⟨mc, l1, l2⟩ := lim
  have e0 : Env0 P w K mg (hidT s1.heap H) callerA [] s1 H := {
    frames := rfl
    mod := ⟨inH, nsH nsG, ⟨mb, nsH nsB, boot⟩, ⟨mc, nsH l1, l2⟩⟩
    bs := fun b o h => of_hidT h
    bsz := Nat.le_of_eq (hidT_size _ _)
    funs := trivial
    frf := fun b h => nomatch h
    hok := hok
    bare := .of_eq noGen }
  have want : spF K 1 gf [.ref a] H (fun v _ => v = .bl true) fun _ _ _ => False := by
    refine ⟨⟨K, H00 K a ob ns, fun _ => none, fun _ => 0, 0⟩, [], [intsD ns], rfl, ⟨fun b o z => ?_, rfl, fun l ob e => by simp at e, fun l m hl _ _ => absurd hl (Nat.not_lt_zero _), (fun a o z => by cases z), fun t ht => ?_⟩, .cons (.lst sq (dqa_ints ns)) .nil, rfl, ?_⟩
    · have z : H00 K a ob ns b = some o := z
      obtain ⟨rfl, _, _⟩ := H00_some z
      rw [hH, H0T_out aT]
      exact z
    · have ht : t ∈ tabsL K := ht
      obtain ⟨c, hp⟩ := tabs t ht
      have hb := inT _ hp
      refine ⟨⟨#[], by rw [hH]; exact H0T_in hb, trivial, fun pos cv h => ?_⟩, ?_, rfl⟩
      · cases h
      · show H00 K a ob ns t.1 = none
        cases q : H00 K a ob ns t.1 with
        | none => rfl
        | some u =>
          obtain ⟨z, _⟩ := H00_some q
          exact absurd (z ▸ hb) aT
    rw [hv]
    intro v H' g' _ _ dv
    cases dv
    rfl
  refine codeAny_mono ((F _ inH (nsH nsG) TB).run callerA [] s1 H ⟨[.ref a], []⟩ [.ref a] [.ref a] _ _ hr rfl e0 (hbind s1 (.ref a)) (.cons rfl .nil) want) ?_
  intro res s' hq
  match res, hq with
  | .error e, hq =>
    obtain ⟨_, _, _, _, _, _, _, _, _, _, _, _, z⟩ := hq
    exact z.elim
  | .ok (.ret u), hq =>
    obtain ⟨v, H', os, bare, un, hok', rr, rfl⟩ := hq
    cases rr
    have same : ∀ b o, b ∉ ts → s1.heap.get? b = some o → s'.heap.get? b = some o := fun b o hb h => by
      cases q : H b with
      | none => exact un.keep b o h q (fun z => nomatch z) (fun z => nomatch z)
      | some u =>
        rcases who q with ⟨z, _⟩ | ⟨_, rfl, _, rfl⟩
        · exact absurd z hb
        · have h2 := (hok' _ _ (un.frzs _ _ _ q)).1
          rw [at_a] at h
          cases h
          exact h2
    have more : ∀ b ∈ ts, ∃ ps, s'.heap.get? b = some (tabObj ps) := fun b hb => by
      obtain ⟨ps, z⟩ := un.tbls b #[] (by rw [hH]; exact H0T_in hb)
      exact ⟨_, hok' b _ z⟩
    refine ⟨rfl, ⟨fun b o h => ?_, fun b o h => ?_⟩, os, bare⟩
    · by_cases hb : b ∈ ts
      · obtain ⟨c, hp⟩ := ofT b hb
        obtain ⟨ps, h2⟩ := more b hb
        have h1 := tabAt b hb
        rw [h] at h1
        obtain rfl : o = tabObj #[] := Option.some.inj h1
        exact .inr (.inl ⟨((heads _ hp).1.tab (heads _ hp).2.1).isCodeTable, rfl, #[], ps, rfl, by rw [Array.empty_append]; exact h2⟩)
      · exact .inl (same b o hb h)
    · by_cases hb : b ∈ ts
      · obtain ⟨ps, h2⟩ := more b hb
        exact ⟨_, h2⟩
      · exact ⟨o, same b o hb h⟩
end
theorem walkGT {l : OpenLaw} {n k : Nat} {q : Program} {loose : List Str} {XP : (Str → Option Value) → Heap → Prop} {YP : World → Heap → Prop} {d : DefRec} {K : Params → Frag} {gf : FF} {x : Str} {ts : List Addr}
    (hn : l.most = some n) (hn2 : n ≤ sizeLine) (hdf : d.params.defaults = []) (hr : Room k callerA) (hY : ∀ (w : World) (h : Heap), YP w h → (K w.params).In h) (hT : ∀ (w : World) (h : Heap), YP w h → ∀ P ∈ ts, h.get? P = some (tabObj #[]))
    (F : ∀ (w : World) (mg : Str → Option Value) (fa : Addr) (h : Heap), (K w.params).In h → h.Ns mainGlobals mg → mg d.name = some (.ref fa) →
      ∃ (fd : FuncData) (cs : List (Addr × Addr)), (∀ p ∈ cs, (K w.params).lookup p.2 = none ∧ p.2 ∈ ts ∧ codeHdIn (K w.params) p.1 p.2 = true) ∧ (∀ t ∈ tabsL (K w.params), ∃ c, (c, t.1) ∈ cs) ∧
        (∀ (s : Shared) (u : Value), BindsTo s fd ⟨[u], []⟩ [(x, u)]) ∧ ∀ base : Heap, (K w.params).In base → base.Ns mainGlobals mg → (∀ p ∈ cs, TabB base mg p.1 p.2) → FnG l.prog w (K w.params) mg base k fa fd [x] gf)
    (hv : ∀ ns : List Int, ns.length ≤ n → ∃ wf, gf [intsD ns] [] = .ok (.bool true) wf) :
    WalkO q loose XP YP l.row.toRowW d [] (fun f vs => PySem.call f vs) := by
  refine Att.attach_call hn hdf fun w s0 s1 mg mb fa o pm cd doc a vs ns G Y ho hd hcd hmg hobj hints hlen hg => ?_
  have inK := hY w _ Y
  obtain ⟨fd, cs, hc, tabs, hb, hF⟩ := F w mg fa _ inK G.T.g hmg
  obtain ⟨wf, hwf⟩ := hv ns hlen
  refine lawGT inK G.T.g G.T.b G.T.builtins G.T.nolimit hg (fun p hp => ?_) tabs G.T.bmain hobj hints (Nat.le_trans hlen hn2) hr hF hb hwf
  obtain ⟨h1, h2, h3⟩ := hc p hp
  exact ⟨codeHd_of_K inK h3, hT w _ Y _ h2, h1⟩
/-! ### an asked lambda, in one piece -/
section
variable {X : Cx} {W : WX}
theorem pf_outD {st : Stmt} {x a q : Str} {k : Nat} {Ng : List Str} {outF : Str → List (Str × PyData) → Option (List PyData)} {fd : FuncData} {params : Arguments} {body : Expr} {scope : Scope} {fb : FE} {p lpos pos : Pos} (D : DefAt X.K X.mg x st [a]) (Ld : LamD X.K fd q) (TB : TabB X.base X.mg Ld.c Ld.P)
    (Sg : FnScope Ng [a] (defScope st)) (hNg : Ng[0]? = some a) (hva : Vis (defScope st) a) (hG : ∀ cdv, GivesOut X Ng x (defScope st) D.f cdv (defBody st) a (q ++ ".<locals>." ++ "<lambda>") outF) (hr : Room (k + 2) X.A) (hgu : X.A.guards = some []) (hg : Gl X x) (hq : X.env.qual = q ++ ".<locals>.") (hcode : X.env.code = .ref Ld.c)
    (L : LamS X.env.scope scope) (hdef : defaultsOf params X.env = ([], [])) (hbind : ∀ (q : Str) (cl : List (Str × Addr)) (pm cv ctv : Value), bindArgs (PySem.W.kla_fn "<lambda>" q params body scope cl pm cv ctv) ⟨[], []⟩ = pure [])
    (hbody : ∀ (A : Around) (outer : List Env) (s : Shared) (H : Hp) (E : XK) (f c' : Addr), Room k (A.deeper (lamEnv X scope s.heap.objs.size f c')) → A.guards = some [] → PF (lamN X A outer s H E scope f c') (fun c d _ H => E c d H) body fb)
    (hdb : (x == ("__debug__" : Str)) = false := by decide) (hd : (a == ("__debug__" : Str)) = false := by decide) (hcd : (a == ("__classdict__" : Str)) = false := by decide) :
    PF X W (.Call (.Name x p) [.Lambda params body scope lpos] [] pos) (eOut outF fb) := by
  obtain ⟨f, fd', ⟨⟨oc, od, kV, doc, pm, an, cdv, ct, osl, rfl, lk, hcg⟩, hk⟩, hm, hb⟩ := D
  exact pf_out hg hm hk lk hcg hb Sg hNg hva (by rw [hq]; exact hG cdv) TB hcode (by rw [hq]; exact Ld.mem) (by rw [hq]; exact Ld.hu) hr hgu L hdef hbind hbody hdb hd hcd
end
end Te

set_option Elab.async false
set_option linter.all false
set_option maxRecDepth 100000
set_option maxHeartbeats 4000000
namespace Td
open PySem L2 PyProof.Rows
/-! ### sorted(set(xs)) of a tuple, too -/
section
variable {P : Program} {w : World} {A : Around} {E : Value → Shared → Prop} {s : Shared} {a : Addr} {L : List Str}
end
end Td
namespace Td
open PySem L2 PySem.Spec PyProof.Rows
section
variable {X : Cx} {W : WX}
end
end Td

set_option Elab.async false
set_option linter.all false
set_option maxRecDepth 100000
set_option maxHeartbeats 4000000
namespace Td
open PySem L2 PySem.Spec PyProof.Rows
/-! ### xs[a:b:c] of a list, c a whole number other than 0 -/
section
variable {X : Cx} {W : WX}
noncomputable def stpIx (n : Nat) (lo hi : Option Int) (c : Int) : List Nat := sliceRange (sliceBounds lo hi (some c) n).1 (sliceBounds lo hi (some c) n).2.1 (sliceBounds lo hi (some c) n).2.2
noncomputable def stpL {α : Type} (xs : List α) (lo hi : Option Int) (c : Int) : List α := (stpIx xs.length lo hi c).filterMap (xs[·]?)
theorem vals_pick {xs : List V} {us : List Value} (h : Vals xs us) (is : List Nat) : Vals (is.filterMap (xs[·]?)) (is.filterMap (us[·]?)) := by
  induction is with
  | nil => exact .nil
  | cons i is ih =>
    by_cases hi : i < xs.length
    · obtain ⟨u, hu, ru⟩ := h.get (List.getElem?_eq_getElem hi)
      rw [List.filterMap_cons_some (List.getElem?_eq_getElem hi), List.filterMap_cons_some hu]
      exact .cons ru ih
    · rw [List.filterMap_cons_none (List.getElem?_eq_none (by omega)), List.filterMap_cons_none (List.getElem?_eq_none (by rw [← h.length]; omega))]
      exact ih
theorem dqA_get {g : Gd} : ∀ {vs : List V} {ds : List PyData} {i : Nat} {v : V}, DqA g vs ds → vs[i]? = some v → ∃ d, ds[i]? = some d ∧ Dq g v d
  | _, _, 0, _, .cons h _, e => by cases e; exact ⟨_, rfl, h⟩
  | _, _, i + 1, _, .cons _ t, e => by
    obtain ⟨d, h1, h2⟩ := dqA_get (i := i) t (by simpa using e)
    exact ⟨d, by simpa using h1, h2⟩
theorem dqA_pick {g : Gd} {vs : List V} {ds : List PyData} (h : DqA g vs ds) (is : List Nat) : DqA g (is.filterMap (vs[·]?)) (is.filterMap (ds[·]?)) := by
  induction is with
  | nil => exact .nil
  | cons i is ih =>
    by_cases hi : i < vs.length
    · obtain ⟨d, hd, dd⟩ := dqA_get h (List.getElem?_eq_getElem hi)
      rw [List.filterMap_cons_some (List.getElem?_eq_getElem hi), List.filterMap_cons_some hd]
      exact .cons dd ih
    · rw [List.filterMap_cons_none (List.getElem?_eq_none (by omega)), List.filterMap_cons_none (List.getElem?_eq_none (by rw [← h.length]; omega))]
      exact ih
noncomputable def stpD (w : Ws) (d : PyData) (lo hi : Option Int) (c : Int) : Option PyData := match lstOf w d with
  | some ds => if decide (c ≠ 0) && szOk (stpL ds lo hi c).length then some (.list (stpL ds lo hi c)) else none
  | none => none
noncomputable def eSt (f : FE) (fl fh : FO) (c : Int) : FE := fun ρ w => (f ρ w).bind fun d w1 => (fl ρ w1).bind fun l w2 => (fh ρ w2).bind fun h w3 => Oc.of (stpD w3 d l h c) w3
theorem pf_step {e : Expr} {lo hi : Option Expr} {c : Int} {k : Nat} {p1 p2 pos : Pos} {f : FE} {fl fh : FO} (he : PF X W e f) (hl : PO X lo (lO X.K W fl)) (hh : PO X hi (lO X.K W fh)) : PF X W (.Subscript e (.Slice lo hi (some (.Constant (.int c) k p1)) p2) pos) (eSt f fl fh c) := by
  refine ⟨fun pins s σ H Q I h => ?_⟩
  obtain ⟨g, ρ, w, hK, r, e0, q⟩ := h
  have want : lE X.K W f σ H fun x H1 => lO X.K W fl σ H1 fun l H2 => lO X.K W fh σ H2 fun h H3 => ∃ a xs, x = .ref a ∧ SqL X.K H3 a xs ∧ c ≠ 0 ∧ (stpL xs l h c).length ≤ sizeLine ∧ ∀ p, H3 p = none → Q (.ref p) (upd H3 p (.lst (stpL xs l h c))) := by
    refine lX_bind hK r e0 q fun v H1 g1 d w1 x r1 e1 dv z => ?_
    refine lX_bind (x.k.trans hK) r1 e1 z fun l H2 g2 l' w2 x2 r2 e2 hl2 z2 => ?_
    refine lX_bind (x2.k.trans (x.k.trans hK)) r2 e2 z2 fun h H3 g3 h' w3 x3 r3 e3 hh3 z3 => ?_
    subst hl2 hh3
    cases hz : stpD w3 d l h c with
    | none => rw [hz] at z3; exact z3.elim
    | some y =>
      rw [hz] at z3
      unfold stpD at hz
      split at hz
      · rename_i ds hds
        split at hz
        · rename_i hs
          rw [Bool.and_eq_true] at hs
          cases hz
          obtain ⟨a, vs, rfl, sq, da⟩ := lstOf_ok r3 (dv.mono (x2.trans x3) _ _) hds
          have hlen := da.length
          have dp : DqA g3 (stpL vs l h c) (stpL ds l h c) := by
            unfold stpL
            rw [da.length]
            exact dqA_pick da _
          refine ⟨a, vs, rfl, (x3.k.trans (x2.k.trans (x.k.trans hK))) ▸ sq, of_decide_eq_true hs.1, ?_, fun p hp => ?_⟩
          · rw [dp.length]; exact of_decide_eq_true hs.2
          · exact z3 _ _ _ (Xt.put (r3.fnone hp)) (r3.put hp) (newL r3 hp dp)
        · cases hz
      · cases hz
  refine Subscript_ (thn (he.run pins s σ H _ I want) fun v s1 ⟨x, H1, I1, r1, q1⟩ => ?_)
  have step : PO X (some (.Constant (.int c) k p1)) (tPart (tC (.int c))) := po_some pe_int
  refine wpAny_Slice (thn (hl.run pins s1 σ H1 _ I1 q1) fun vl s2 ⟨l, H2, I2, pl, q2⟩ => thn (hh.run pins s2 σ H2 _ I2 q2) fun vu s3 ⟨u, H3, I3, pu, q3⟩ => ?_)
  refine thn (step.run pins s3 σ H3 (fun o H4 => o = some c ∧ H4 = H3) I3 ⟨c, rfl, rfl, rfl⟩) fun vs s4 ⟨o, H4, I4, ps, eo, e4⟩ => ?_
  subst eo e4
  obtain ⟨a, xs, rfl, hx, hc0, hz2, qq⟩ := q3
  cases r1
  have I5 : Inv X pins σ H4 { s4 with heap := s4.heap.push { cls := .type "slice", data := .fields #[vl, vu, vs] } } := I4.kept (t' := s4.toks) fun b ob q => Heap.get?_push_of_some _ q
  obtain ⟨its, rv, ht, hz⟩ := I5.list hx
  have hlen := rv.length
  show wpAny (model X.prog X.w) X.A (subscriptTail e (.Slice lo hi (some (.Constant (.int c) k p1)) p2) (.ref a) (.ref s4.heap.objs.size)) (EP X pins σ Q) X.xe { s4 with heap := s4.heap.push { cls := .type "slice", data := .fields #[vl, vu, vs] } }
  refine tail_any (ops := [.ref a, .ref s4.heap.objs.size]) ht.isList.typeIs (PySem.slot_list_getitem.lookup) ?_ (by with_unfolding_all rfl)
  refine wpAny_getItem_list_slice ht.isList (Heap.IsSliceOf.new _ vl vu vs) pl pu ps (by simpa using hc0) ?_ (by rw [List.size_toArray]; omega)
  have e1 : slicePick its.toArray l u (some c) = (stpL its l u c).toArray := by
    unfold slicePick stpL stpIx
    simp
  have hv : Vals (stpL xs l u c) (stpL its l u c) := by
    unfold stpL
    rw [rv.length]
    exact vals_pick rv _
  rw [e1]
  refine ⟨.ref _, _, I5.laid (t' := s4.toks) (o := .lst (stpL xs l u c)) (fun b ob q => Heap.get?_push_of_some _ q) (Nat.le_refl _) ?_, rfl, qq _ (I5.hok.fresh (Nat.le_refl _))⟩
  exact ⟨hz2, _, 0, hv, Heap.get?_push_size _ rfl⟩
/-! ### is, is not (None) -/
end
end Td

set_option Elab.async false
set_option linter.all false
set_option maxRecDepth 100000
set_option maxHeartbeats 4000000
namespace Td
open PySem L2 PySem.Spec PyProof.Rows
/-! ### xs + ys, into the store -/
section
variable {X : Cx} {W : WX}
noncomputable def eAdS (fa fb : FE) : FE := fun ρ w => (fa ρ w).bind fun d w1 => (fb ρ w1).bind fun e w2 => match lstOf w2 d, lstOf w2 e with
  | some a, some b => Oc.on (szOk (a.length + b.length)) (.ok (rf w2.length) (w2 ++ [.lst (a ++ b)]))
  | _, _ => .no
noncomputable def rAdS (K : PySem.W.Frag) : R2 := fun x y H Q => ∃ a xs b ys, x = .ref a ∧ y = .ref b ∧ SqL K H a xs ∧ SqL K H b ys ∧ xs.length + ys.length ≤ sizeLine ∧ ∀ p, H p = none → Q (.ref p) (upd H p (.lst (xs ++ ys)))
theorem op_AdS : OpR X (binaryOp .Add) (rAdS X.K) := by
  intro pins s σ H x y v u Q I rx ry ⟨a, xs, b, ys, hx, hy, ha, hb, hz, q⟩
  subst hx hy
  cases rx
  cases ry
  exact cat_lists I ha hb hz q
theorem pf_addS {a b : Expr} {fa fb : FE} {pos : Pos} (ha : PF X W a fa) (hb : PF X W b fb) : PF X W (.BinOp a .Add b pos) (eAdS fa fb) := by
  refine pe_imp (pe_op op_AdS ha hb) fun σ H Q ⟨g, ρ, w, hK, r, e, q⟩ => ?_
  refine lX_bind hK r e q fun v H1 g1 d w1 x r1 e1 dv z => ?_
  refine lX_bind (x.k.trans hK) r1 e1 z fun u H2 g2 e' w2 x2 r2 e2 du z2 => ?_
  have hK2 := x2.k.trans (x.k.trans hK)
  split at z2
  · rename_i xs ys hx hy
    obtain ⟨hs, z3⟩ := z2.on
    obtain ⟨p1, vs, rfl, s1, d1⟩ := lstOf_ok r2 (dv.mono x2.toXt0 _ _) hx
    obtain ⟨p2, us, rfl, s2, d2⟩ := lstOf_ok r2 du hy
    refine ⟨_, _, _, _, rfl, rfl, hK2 ▸ s1, hK2 ▸ s2, ?_, fun p hp => ?_⟩
    · rw [d1.length, d2.length]; exact of_decide_eq_true hs
    · obtain ⟨h1, h2⟩ := newS r2 hp (d1.append d2)
      exact z3 _ _ _ Gd.al_xt h1 h2
  · exact z2.elim
end
end Td

set_option Elab.async false
set_option linter.all false
set_option maxRecDepth 100000
set_option maxHeartbeats 4000000
namespace Td
open PySem L2 PySem.Spec PyProof.Rows
/-! ### d | e of two dicts -/
namespace DOr
section
variable {prog : Program} {w : World} {K : Type} [DecidableEq K] {knd : KeyKind prog w K} {A : Around} {E : Value → Shared → Prop} {s : Shared}
end
end DOr
section
variable {X : Cx} {W : WX}
/-- a new dict in the store -/
theorem newDk {g : Gd} {H : Hp} {w : Ws} {ks : List (Key × V)} {kvs : List (Key × PyData)} (r : Rp g H w) {p : Addr} (hp : H p = none) (d : KvR g ks kvs) : Rp (g.al p) (upd H p (.dK ks)) (w ++ [.dK kvs]) ∧ Dq (g.al p) (.ref p) (rf w.length) := by
  refine ⟨r.alloc hp (fun a z => nomatch z) ⟨r.fnone hp, ks, upd_same, d.mono Gd.al_xt.toXt0⟩, ?_⟩
  rw [← r.len]
  exact Gd.al_ref
end
/-! ### dict(xs), xs a list of pairs -/
noncomputable def prsD : List PyData → Option (List (Key × PyData))
  | [] => some []
  | .tuple [k, v] :: r => match keyD k, prsD r with
    | some k, some kvs => some ((k, v) :: kvs)
    | _, _ => none
  | _ => none
/-! ### {k: v for .. in ..} -/
noncomputable def dcL (gt : FG) (tt : FT) (fk fe : FE) (ρ : Ev) : List PyData → Ws → List (Key × PyData) → Oc (List (Key × PyData))
  | [], w, acc => .ok acc w
  | d :: ds, w, acc => match gt d ρ w with
    | .ok ρ1 w1 => match tt ρ1 w1 with
      | .ok true w2 => match fk ρ1 w2 with
        | .ok c w3 => match fe ρ1 w3 with
          | .ok y w4 => match keyD c with
            | some k => if acc.length < sizeLine then dcL gt tt fk fe ρ ds w4 (putD acc k y) else .no
            | none => .no
          | _ => .no
        | _ => .no
      | .ok false w2 => dcL gt tt fk fe ρ ds w2 acc
      | _ => .no
    | _ => .no
noncomputable def eDc (fi : FA) (gt : FG) (tt : FT) (fk fe : FE) (vs : List Nat) : FE := fun ρ w => (fi ρ w).bind fun ds w1 => (dcL gt tt fk fe (wipeE ρ vs) ds w1 []).bind fun acc w2 => .ok (rf w2.length) (w2 ++ [.dK acc])
section
variable {X : Cx} {W : WX}
theorem dc_of {fi : FA} {gt : FG} {tt : FT} {fk fe : FE} {vs is : List Nat} {K : PySem.W.Frag} (hs : ∀ i ∈ is, i ∈ vs) : ∀ σ H Q, lE K W (eDc fi gt tt fk fe vs) σ H Q → tDc (lI K W fi) (lG K is gt) (lT K W0 tt) (lE K W0 fk) (lE K W0 fe) vs σ H Q := fun σ H Q ⟨g, ρ, w, hK, r, e, q⟩ => by
  refine lX_bind hK r e q fun J H1 g1 ds w1 x r1 e1 wk z => ?_
  intro D hD
  have hK1 := x.k.trans hK
  have pD : g1.P D = none := by
    cases h : g1.P D with
    | none => rfl
    | some o => rw [(r1.pin D o h).1] at hD; cases hD
  have r0 := pin_new r1 hD (.dK [])
  refine ⟨fun i m H' => m = ds.length - i ∧ i ≤ ds.length ∧ ∃ g' w' acc dacc, Xt0 g1 g' ∧ g'.P = upd g1.P D (.dK acc) ∧ Rp g' H' w' ∧ KvR g' acc dacc ∧ dcL gt tt fk fe (wipeE ρ vs) (ds.drop i) w' dacc = dcL gt tt fk fe (wipeE ρ vs) ds w1 [],
    ⟨ds.length, by simp, Nat.zero_le _, _, w1, [], [], g1.pn_xt _, rfl, r0, .nil, rfl⟩, ?_⟩
  rintro i m H' ⟨rfl, hi, g', w', acc, dacc, x', hP, r', da, z'⟩
  by_cases hlt : i < ds.length
  · refine .inr ⟨wk.go g' H' w' i x' r' hlt, fun H2 => i + 1 ≤ ds.length ∧ ∃ g' w' acc dacc, Xt0 g1 g' ∧ g'.P = upd g1.P D (.dK acc) ∧ Rp g' H2 w' ∧ KvR g' acc dacc ∧ dcL gt tt fk fe (wipeE ρ vs) (ds.drop (i + 1)) w' dacc = dcL gt tt fk fe (wipeE ρ vs) ds w1 [],
      fun H2 n => ⟨ds.length - (i + 1), by omega, rfl, n⟩, fun v H2 y => ?_⟩
    obtain ⟨g2, d, hd, x2, r2, dv⟩ := wk.yld g' H' w' i v H2 x' r' hlt y
    have ed : ds.drop i = d :: ds.drop (i + 1) := by
      rw [List.drop_eq_getElem_cons hlt]
      rw [List.getElem?_eq_getElem hlt] at hd
      rw [Option.some.inj hd]
    rw [ed, dcL] at z'
    rw [← z'] at z
    refine ⟨g2, wipeE ρ vs, w', d, x2.k.trans (x'.k.trans hK1), r2, (e1.mono (x'.trans x2.toXt0)).wipe vs, dv, ?_⟩
    cases hgt : gt d (wipeE ρ vs) w' with
    | ok ρ1 w1' =>
      rw [hgt] at z z'
      refine fun σ3 H3 g3 x3 r3 e3 sm => ⟨wipe_of_sm sm hs, g3, ρ1, w1', x3.k.trans (x2.k.trans (x'.k.trans hK1)), r3, e3, ?_⟩
      simp only at z z'
      cases htt : tt ρ1 w1' with
      | ok b w2 =>
        rw [htt] at z z'
        intro b' H4 g4 x4 r4 eb
        subst eb
        have P4 : g4.P = upd g1.P D (.dK acc) := x4.p.trans (x3.p.trans (x2.p.trans hP))
        have y4 : Xt0 g1 g4 := x'.trans (x2.toXt0.trans (x3.toXt0.trans x4.toXt0))
        have da4 : KvR g4 acc dacc := da.mono (x2.toXt0.trans (x3.toXt0.trans x4.toXt0))
        cases b' with
        | false => exact iteF ⟨hlt, g4, w2, acc, dacc, y4, P4, r4, da4, z'⟩
        | true =>
          refine iteT ⟨g4, ρ1, w2, y4.k.trans hK1, r4, e3.mono x4.toXt0, ?_⟩
          simp only at z z'
          cases hfk : fk ρ1 w2 with
          | ok c w3 =>
            rw [hfk] at z z'
            intro v5 H5 g5 x5 r5 dv5
            simp only at z z'
            have P5 : g5.P = upd g1.P D (.dK acc) := x5.p.trans P4
            refine ⟨g5, ρ1, w3, x5.k.trans (y4.k.trans hK1), r5, e3.mono (x4.toXt0.trans x5.toXt0), ?_⟩
            cases hfe : fe ρ1 w3 with
            | ok d5 w4 =>
              rw [hfe] at z z'
              intro v6 H6 g6 x6 r6 dv6
              simp only at z z'
              have P6 : g6.P = upd g1.P D (.dK acc) := x6.p.trans P5
              cases hk : keyD c with
              | none => rw [hk] at z; exact z.elim
              | some k =>
                rw [hk] at z z'
                simp only at z z'
                by_cases hsz : dacc.length < sizeLine
                · rw [if_pos hsz] at z'
                  have ek := keyD_ok dv5 hk
                  have pD6 := r6.pin D (.dK acc) (by rw [P6]; exact upd_same)
                  refine ⟨acc, k, ek, pD6.1, by rw [da.length]; exact hsz, hlt, g6.pn (upd g1.P D (.dK (putK acc k v6))), w4, putK acc k v6, putD dacc k d5, ((y4.trans x5.toXt0).trans x6.toXt0).trans (g6.pn_xt _), rfl, pin_set r6 P6 (fun a z => nomatch z), ?_, z'⟩
                  exact ((da4.mono (x5.toXt0.trans x6.toXt0)).put dv6).mono (g6.pn_xt _)
                · rw [if_neg hsz] at z
                  exact z.elim
            | ex c fs w4 => rw [hfe] at z; exact z.elim
            | no => rw [hfe] at z; exact z.elim
          | ex c fs w3 => rw [hfk] at z; exact z.elim
          | no => rw [hfk] at z; exact z.elim
      | ex c fs w2 => rw [htt] at z; exact z.elim
      | no => rw [htt] at z; exact z.elim
    | ex c fs w2 => rw [hgt] at z; exact z.elim
    | no => rw [hgt] at z; exact z.elim
  · have ei : i = ds.length := by omega
    subst ei
    rw [List.drop_length, dcL] at z'
    rw [← z'] at z
    refine .inl ⟨wk.stop g' H' w' x' r', ?_⟩
    have pD' := r'.pin D (.dK acc) (by rw [hP]; exact upd_same)
    have ra := pin_alloc (o' := .dK acc) (ob := .dK dacc) r' hP (fun a z => nomatch z) pD ⟨pD'.2.1, _, upd_same, da.mono alloc_xt⟩
    have eH : upd H' D (.dK acc) = H' := by
      funext a
      by_cases h : a = D
      · rw [h, upd_same]; exact pD'.1.symm
      · rw [upd_ne h]
    rw [eH] at ra
    refine z _ H' _ ⟨x'.trans alloc_xt, rfl⟩ ra ?_
    rw [← r'.len]
    exact alloc_ref
theorem pf_dc {kx vx tg iter : Expr} {ifs : List Expr} {scope : Scope} {own : List (Str × Nat)} {pos : Pos} {fi : FA} {gt : FG} {tt : FT} {fk fe : FE} {is : List Nat} (hc : X.calm = true) (hN : X.N.Nodup) (hi : PIf X W tg iter fi) (ok : BlkOk X.N X.env.scope scope own)
    (hg : ∀ (s : Shared) (H : Hp) (C : Addr) (cl : List (Str × Addr)) (fp : List Addr), PGf (X.blk s H scope (compEnvC scope cl C X.env) fp) is tg gt)
    (ht : ∀ (s : Shared) (H : Hp) (C : Addr) (cl : List (Str × Addr)) (fp : List Addr), PTs (X.blk s H scope (compEnvC scope cl C X.env) fp) ifs (lT X.K W0 tt))
    (hk : ∀ (s : Shared) (H : Hp) (C : Addr) (cl : List (Str × Addr)) (fp : List Addr), PF (X.blk s H scope (compEnvC scope cl C X.env) fp) W0 kx fk)
    (he : ∀ (s : Shared) (H : Hp) (C : Addr) (cl : List (Str × Addr)) (fp : List Addr), PF (X.blk s H scope (compEnvC scope cl C X.env) fp) W0 vx fe)
    (hs : ∀ x, foldedSetIterable iter X.env x = pure x := by intro _; rfl) (his : ∀ i ∈ is, i ∈ own.map (·.2) := by decide) :
    PF X W (.DictComp kx vx [⟨tg, iter, ifs, 0⟩] scope pos) (eDc fi gt tt fk fe (own.map (·.2))) := pe_imp (pe_dc hc hN hi ok hg ht hk he hs) (dc_of his)
end
end Td

set_option Elab.async false
set_option linter.all false
set_option maxRecDepth 100000
set_option maxHeartbeats 4000000
namespace Td
open PySem L2
section
variable {X : Cx} {W : WX}
/-! ### k in d, k not in d, d a dict of the store -/
end
end Td

set_option Elab.async false
set_option linter.all false
set_option maxRecDepth 100000
set_option maxHeartbeats 4000000
namespace Td
open PySem L2 PySem.Spec PyProof.Rows
section
variable {X : Cx} {W : WX}
/-! ### a text times a number, also 0 and 1 -/
/-! ### sum of a list of whole numbers -/
/-! ### x += e, whole numbers -/
end
end Td

set_option Elab.async false
set_option linter.all false
set_option maxRecDepth 100000
set_option maxHeartbeats 4000000
namespace Td
open PySem L2 PySem.Spec PyProof.Rows
section
variable {X : Cx} {W : WX}
/-! ### s.split(t) -/
/-! ### int(text) -/
end
end Td

set_option Elab.async false
set_option linter.all false
set_option maxRecDepth 100000
set_option maxHeartbeats 4000000
namespace Td
open PySem L2
/-! ### a logic of readings that also may raise -/
noncomputable abbrev XP := Value → List (Str × PyData) → Ws → Prop
inductive xO {α : Type} (E : XP) (Q : α → Ws → Prop) : Oc α → Prop
  | mk {a : α} {w : Ws} (h : Q a w) : xO E Q (.ok a w)
  | xc {c : Value} {fs : List (Str × PyData)} {w : Ws} (h : E c fs w) : xO E Q (.ex c fs w)
/-- E: raises, B: leaves the loop, C: next turn, N: goes on, R: returns -/
inductive xS (E : XP) (B C N : Ev → Ws → Prop) (R : PyData → Ws → Prop) : Os → Prop
  | nx {ρ : Ev} {w : Ws} (h : N ρ w) : xS E B C N R (.nx ρ w)
  | bk {ρ : Ev} {w : Ws} (h : B ρ w) : xS E B C N R (.bk ρ w)
  | ct {ρ : Ev} {w : Ws} (h : C ρ w) : xS E B C N R (.ct ρ w)
  | rt {d : PyData} {w : Ws} (h : R d w) : xS E B C N R (.rt d w)
  | xc {ρ : Ev} {c : Value} {fs : List (Str × PyData)} {w : Ws} (h : E c fs w) : xS E B C N R (.ex ρ c fs w)
section
variable {α β : Type} {E : XP} {Q : α → Ws → Prop} {B C N : Ev → Ws → Prop} {R : PyData → Ws → Prop} {ρ : Ev} {w : Ws}
end
end Td

set_option Elab.async false
set_option linter.all false
set_option maxRecDepth 100000
set_option maxHeartbeats 4000000
namespace Te
open PySem L2 PySem.Spec PyProof.Rows Td L2H
section
variable {X : Cx} {W : WX} {a dd D : Addr} {oe : Obj} {i : Nat} {n : Str} {p p1 pos tpos : Pos}
end
end Te

namespace Td
open PySem L2 PySem.Spec PyProof.Rows
section
variable {X : Cx} {W : WX}
end
end Td

namespace Td
open PySem L2 PySem.Spec PyProof.Rows
section
variable {X : Cx} {W : WX}
end
end Td

set_option Elab.async false
set_option linter.all false
set_option maxRecDepth 100000
set_option maxHeartbeats 4000000
namespace Td
open PySem L2 PySem.Spec PyProof.Rows
/-! ### dict(xs), xs a list of pairs whose keys are tuples -/
section
variable {X : Cx}
end
end Td

set_option Elab.async false
set_option linter.all false
set_option maxRecDepth 100000
set_option maxHeartbeats 4000000
namespace Td
open PySem L2 PySem.Spec PyProof.Rows
/-! ### dicts that change no more, as data -/
noncomputable def keysD : List PyData → Option (List Key)
  | [] => some []
  | d :: ds => match keyD d, keysD ds with
    | some k, some ks => some (k :: ks)
    | _, _ => none
theorem keyD_ky : ∀ k : Key, keyD (kyD k) = some k
  | .inl _ => rfl
  | .inr _ => rfl
theorem keysD_ky : ∀ ks : List Key, keysD (ks.map kyD) = some ks
  | [] => rfl
  | k :: ks => by simp only [List.map_cons, keysD, keyD_ky, keysD_ky ks]
noncomputable def kyT : PyData → Option (List Key)
  | .tuple ds => keysD ds
  | _ => none
noncomputable def fkD (kvs : List (Key × PyData)) : PyData := .dict [(.none, .none), (.tuple (kvs.map fun p => kyD p.1), .tuple (kvs.map (·.2)))]
noncomputable def fkOf : PyData → Option (List (Key × PyData))
  | .dict [(.none, .none), (.tuple ks, .tuple ds)] => (keysD ks).map fun ks => ks.zip ds
  | _ => none
theorem zip_self {α β : Type} : ∀ L : List (α × β), (L.map (·.1)).zip (L.map (·.2)) = L
  | [] => rfl
  | p :: L => by simp only [List.map_cons, List.zip_cons_cons, zip_self L]
theorem fkOf_fk (kvs : List (Key × PyData)) : fkOf (fkD kvs) = some kvs := by
  have e : kvs.map (fun p => kyD p.1) = (kvs.map (·.1)).map kyD := by rw [List.map_map]; rfl
  simp only [fkD, fkOf, e, keysD_ky, Option.map_some, zip_self]
theorem KvR.keysP {κ : Type} {g : Gd} : ∀ {xs : List (κ × V)} {kvs : List (κ × PyData)}, KvR g xs kvs → xs.map (·.1) = kvs.map (·.1) ∧ DqA g (xs.map (·.2)) (kvs.map (·.2))
  | _, _, .nil => ⟨rfl, .nil⟩
  | _, _, .cons h t => ⟨by simp only [List.map_cons]; rw [h.1, (KvR.keysP t).1], .cons h.2 (KvR.keysP t).2⟩
theorem KvR.ofP {κ : Type} {g : Gd} : ∀ {xs : List (κ × V)} {ds : List PyData}, DqA g (xs.map (·.2)) ds → KvR g xs ((xs.map (·.1)).zip ds)
  | [], _, h => by cases h; exact .nil
  | x :: xs, _, h => by
    rw [List.map_cons] at h
    cases h with
    | cons h t => exact .cons ⟨rfl, h⟩ (KvR.ofP t)
theorem dq_fk {g : Gd} {a : Addr} {o : Obj} {ks : List (Key × V)} {kvs : List (Key × PyData)} (h : g.F a = some (.frz o (.dK ks))) (k : KvR g ks kvs) : Dq g (.ref a) (fkD kvs) := by
  obtain ⟨e1, e2⟩ := k.keysP
  have e : kvs.map (fun p => kyD p.1) = ks.map fun p => kyD p.1 := by
    have := congrArg (List.map kyD) e1
    rw [List.map_map, List.map_map] at this
    exact this.symm
  unfold fkD
  rw [e]
  exact .fk h e2
theorem fkOf_ok {g : Gd} {v : V} {d : PyData} (h : Dq g v d) {kvs : List (Key × PyData)} (e : fkOf d = some kvs) : ∃ a o ks, v = .ref a ∧ g.F a = some (.frz o (.dK ks)) ∧ KvR g ks kvs := by
  cases h with
  | @fk a o ks ds h1 h2 =>
    have e' : ks.map (fun p => kyD p.1) = (ks.map (·.1)).map kyD := by rw [List.map_map]; rfl
    simp only [fkOf, e', keysD_ky, Option.map_some, Option.some.injEq] at e
    exact ⟨a, o, ks, rfl, h1, e ▸ KvR.ofP h2⟩
  | _ => cases e
section
variable {κ : Type} [DecidableEq κ]
noncomputable def valP (kvs : List (κ × PyData)) (k : κ) : Option PyData := (kvs.find? fun kv => decide (kv.1 = k)).map (·.2)
theorem KvR.valP {g : Gd} : ∀ {ks : List (κ × V)} {kvs : List (κ × PyData)} (k : κ), KvR g ks kvs → (∀ d, Td.valP kvs k = some d → ∃ v, valV ks k = some v ∧ Dq g v d) ∧ (valV ks k).isSome = (Td.valP kvs k).isSome
  | _, _, k, .nil => ⟨fun d e => by simp [Td.valP] at e, rfl⟩
  | p :: ks, q :: kvs, k, .cons h t => by
    have hk : p.1 = q.1 := h.1
    by_cases z : q.1 = k
    · have e1 : Td.valP (q :: kvs) k = some q.2 := by simp [Td.valP, List.find?_cons, z]
      have e2 : valV (p :: ks) k = some p.2 := valV_pos (hk.trans z)
      rw [e1, e2]
      exact ⟨fun d e => by cases e; exact ⟨p.2, rfl, h.2⟩, rfl⟩
    · have e1 : Td.valP (q :: kvs) k = Td.valP kvs k := by simp [Td.valP, List.find?_cons, z]
      have e2 : valV (p :: ks) k = valV ks k := valV_neg (by rw [hk]; exact z)
      rw [e1, e2]
      exact KvR.valP k t
end
/-! dict(xs) with tuple keys -/
section
variable {X : Cx} {W : WX}
/-! the same of dicts with int and text keys -/
noncomputable def eFk (fa fb : FE) : FE := fun ρ w => (fa ρ w).bind fun d w1 => (fb ρ w1).bind fun e w2 => Oc.of ((fkOf d).bind fun kvs => (keyD e).bind fun k => valP kvs k) w2
theorem pf_fkget {o i : Expr} {pos : Pos} {fa fb : FE} (hu : X.A.units + 1 < cLine) (ho : PF X W o fa) (hi : PF X W i fb) (hs : NoSl i := by exact fun _ _ => rfl) : PF X W (.Subscript o i pos) (eFk fa fb) := by
  refine pe_imp (pe_dget hu ho hi hs) fun σ H Q ⟨g, ρ, w, hK, r, e, q⟩ => ?_
  refine lX_bind hK r e q fun v H1 g1 d w1 x r1 e1 dv z => ?_
  refine lX_bind (x.k.trans hK) r1 e1 z fun u H2 g2 c w2 x2 r2 e2 du z2 => ?_
  cases hz : (fkOf d).bind fun kvs => (keyD c).bind fun k => valP kvs k with
  | none => rw [hz] at z2; exact z2.elim
  | some y =>
    rw [hz] at z2
    obtain ⟨kvs, h1, hz⟩ := Option.bind_eq_some_iff.mp hz
    obtain ⟨k, h2, h3⟩ := Option.bind_eq_some_iff.mp hz
    obtain ⟨a, o', xs, rfl, hF, kv⟩ := fkOf_ok (dv.mono x2.toXt0 _ _) h1
    obtain ⟨v', h4, h5⟩ := (kv.valP k).1 y h3
    have ek := keyD_ok du h2
    subst ek
    refine ⟨_, v', rfl, ?_, z2 _ H2 g2 (Xt.refl _) r2 h5⟩
    rw [← h4]
    exact .inl ⟨xs, k, .inr ⟨o', r2.fro _ _ hF⟩, rfl, rfl⟩
end
/-! ### a dict of the store changes no more -/
theorem Rp.lockK {g : Gd} {H : Hp} {w : Ws} (r : Rp g H w) {l : Nat} {kvs : List (Key × PyData)} (hl : w[l]? = some (.dK kvs)) :
    ∃ ks, H (g.μ l) = some (.dK ks) ∧ ∀ od, ∃ g', Xt g g' ∧ Rp g' (upd H (g.μ l) (.frz od (.dK ks))) (w.set l .dead) ∧ Dq g' (.ref (g.μ l)) (fkD kvs) := by
  obtain ⟨hn, xs, hx, dx⟩ := r.cell l _ hl
  refine ⟨xs, hx, fun od => ?_⟩
  have hlt : l < g.n := by rw [r.len]; exact (List.getElem?_eq_some_iff.mp hl).1
  have X : Xt g (g.fz (g.μ l) (.frz od (.dK xs))) := Xt.put hn
  refine ⟨_, X, ⟨fun a u e => ?_, by rw [List.length_set]; exact r.len, fun m ob e => ?_, r.inj, fun a u e => ?_, fun p hp => by
    obtain ⟨t1, t2, t3⟩ := r.tab p hp
    have ne := r.tab.ne hp fun ps z => by rw [hx] at z; cases z
    exact ⟨t1.up X.ex (upd_ne ne), (upd_ne ne).trans t2, t3⟩⟩, dq_fk upd_same (dx.mono X.toXt0)⟩
  · have e : upd g.F (g.μ l) (.frz od (.dK xs)) a = some u := e
    by_cases q : a = g.μ l
    · subst q; rw [upd_same] at e ⊢; exact e
    · rw [upd_ne q] at e ⊢; exact r.fro a u e
  · by_cases q : l = m
    · subst q
      rw [List.getElem?_set_self (by rw [← r.len]; exact hlt)] at e
      cases e
      exact ⟨_, upd_same⟩
    · rw [List.getElem?_set_ne q] at e
      have hm : m < g.n := by rw [r.len]; exact (List.getElem?_eq_some_iff.mp e).1
      have nm : g.μ m ≠ g.μ l := fun z => q (r.inj m l hm hlt z).symm
      have c := r.cell m ob e
      cases ob with
      | lst es => obtain ⟨a, b, c, d⟩ := c; exact ⟨(upd_ne nm).trans a, b, (upd_ne nm).trans c, d.mono X.toXt0 _ _⟩
      | dK es => obtain ⟨a, b, c, d⟩ := c; exact ⟨(upd_ne nm).trans a, b, (upd_ne nm).trans c, d.mono X.toXt0⟩
      | ins k es =>
        obtain ⟨a, dx', gs, ⟨C', hC, h⟩, hd, hn2, d⟩ := c
        have nx : dx' ≠ g.μ l := fun z => by rw [z, hx] at hd; cases hd
        exact ⟨(upd_ne nm).trans a, dx', gs, ⟨C', hC, (upd_ne nm).trans h⟩, (upd_ne nx).trans hd, (upd_ne nx).trans hn2, d.mono X.toXt0⟩
      | dead =>
        obtain ⟨o2, h⟩ := c
        exact ⟨o2, (upd_ne nm).trans h⟩
  · obtain ⟨q1, q2, q3⟩ := r.pin a u e
    have na : a ≠ g.μ l := fun z => q3 l hlt z.symm
    exact ⟨(upd_ne na).trans q1, (upd_ne na).trans q2, q3⟩
end Td

set_option Elab.async false
set_option linter.all false
set_option maxRecDepth 100000
set_option maxHeartbeats 4000000
namespace Td
open PySem L2 PySem.Spec PyProof.Rows
/-! ### sorted of a list of tuples that are alike -/
section
variable {X : Cx} {pins : List (Addr × Obj)} {σ : L2.St} {H : Hp} {s : Shared}
mutual
theorem reads_dq {g : Gd} {w : Ws} (I : Inv X pins σ H s) (hK : g.K = X.K) (r : Rp g H w) : ∀ (d : PyData) (v : V) (u : Value), PySem.W.alike d d = true → Dq g v d → RelV v u → ∃ as, Reads s.heap u d as
  | .none, v, u, _, h, rv => by
    cases h
    obtain rfl : u = .none := rv
    exact ⟨_, .none⟩
  | .bool b, v, u, _, h, rv => by
    cases h
    obtain rfl : u = .bool b := rv
    exact ⟨_, .bool b⟩
  | .int i, v, u, _, h, rv => by
    cases h
    obtain ⟨t, rfl⟩ := rv
    exact ⟨_, .int i t⟩
  | .str x, v, u, _, h, rv => by
    cases h
    obtain ⟨t, rfl⟩ := rv
    exact ⟨_, .str x t⟩
  | .list ds, v, u, hl, h, rv => by
    rw [PySem.W.alike] at hl
    cases h with
    | @lst a xs _ q da =>
      obtain rfl : u = .ref a := rv
      obtain ⟨its, rvs, p, _⟩ := I.list (hK ▸ r.sqL q)
      obtain ⟨as, ra⟩ := reads_dqA I hK r ds xs its hl da rvs
      obtain ⟨o, ho, hc, n, hd⟩ := p.isList
      exact ⟨_, .list ho hc hd (by simpa using ra)⟩
  | .tuple ds, v, u, hl, h, rv => by
    rw [PySem.W.alike] at hl
    cases h with
    | @tup a xs _ q da =>
      obtain rfl : u = .ref a := rv
      obtain ⟨ob, eb, _⟩ := q
      obtain ⟨_, _, its, rvs, o, ho, hc, n, hd⟩ := I.hok _ _ (r.fro _ _ eb)
      obtain ⟨as, ra⟩ := reads_dqA I hK r ds xs its hl da rvs
      exact ⟨_, .tuple ho hc hd (by simpa using ra)⟩
  | .dict kvs, _, _, hl, _, _ => by simp [PySem.W.alike] at hl
theorem reads_dqA {g : Gd} {w : Ws} (I : Inv X pins σ H s) (hK : g.K = X.K) (r : Rp g H w) : ∀ (ds : List PyData) (xs : List V) (us : List Value), PySem.W.alikeAll ds ds = true → DqA g xs ds → Vals xs us → ∃ as, ReadsAll s.heap us ds as
  | [], xs, us, _, h, rv => by
    cases h
    cases rv
    exact ⟨_, .nil⟩
  | d :: ds, xs, us, hl, h, rv => by
    obtain ⟨l1, l2⟩ := PySem.W.alike_all_cons hl
    cases h with
    | cons h1 h2 =>
      cases rv with
      | cons rv1 rv2 =>
        obtain ⟨as, r1⟩ := reads_dq I hK r d _ _ l1 h1 rv1
        obtain ⟨bs, r2⟩ := reads_dqA I hK r ds _ _ l2 h2 rv2
        exact ⟨_, .cons r1 r2⟩
end
end
end Td

set_option Elab.async false
set_option linter.all false
set_option maxRecDepth 100000
set_option maxHeartbeats 4000000
namespace Tg
open PySem PySem.Spec PyProof.Rows L2 Td GenW
/-! ### sorted({e for x in .. if ..}), texts, over what is no generator -/
section
variable {X : Cx} {W : WX}
end
end Tg

set_option Elab.async false
set_option linter.all false
set_option maxRecDepth 100000
set_option maxHeartbeats 4000000
namespace Td
open PySem L2 PySem.Spec PyProof.Rows
/-! ### [e for x in ..] into the store -/
section
variable {X : Cx} {W : WX}
end
end Td

set_option Elab.async false
set_option linter.all false
set_option maxRecDepth 100000
set_option maxHeartbeats 4000000
namespace Td
open PySem L2 PySem.Spec PyProof.Rows
/-! ### o.f as a target -/
noncomputable def gFld (K : PySem.W.Frag) (ta : TE) (f : Str) : TG := fun v σ H Q => ta σ H fun x H2 => ∃ a C dx fs, x = .ref a ∧ H2 a = some (.ins C dx fs) ∧ Cls K C ∧ NoAttr K C f ∧ fs.length < 1000 ∧ Q σ (upd H2 a (.ins C dx (putF f v fs)))
section
variable {X : Cx} {W : WX} {c f : Str} {o : Expr} {fo : FE} {pos : Pos}
theorem pg_fld {ta : TE} (ho : PE X o ta)
    (ha : ∀ v, assign (.Attribute o f pos) X.env v = (do let ov ← holding [v] (eval o X.env); standAt pos.atName; holding [v, ov] (setAttr ov f v); release [v, ov] []) := by intro _; rfl) : PG X (.Attribute o f pos) (gFld X.K ta f) := by
  refine ⟨fun pins s σ H v u Q I r h => ?_⟩
  rw [ha]
  refine wpAny_bind (wpAny_holding (thn (ho.run pins s σ H _ I h) fun ov s1 ⟨x, H1, I1, r1, a, C, dx, fs, ex, ea, c, n, l, q⟩ => ?_))
  subst ex
  obtain rfl : ov = Value.ref a := r1
  refine wpAny_bind (wpAny_standAt (wpAny_bind (wpAny_holding (setattr_ok I1 ea c n l r fun s3 I3 => ?_))))
  exact wpAny_release ⟨σ, _, I3, q⟩
noncomputable def gFd (c f : Str) (fo : FE) : FG := fun d ρ w => (fo ρ w).bind fun o w1 => match updI w1 o c (fun fs => if fs.length < 1000 then some (putFD f d fs) else none) with
  | some w3 => .ok ρ w3
  | none => .no
theorem pgf_fld (D : ClsD X.K X.mg c) (hn : NoAttr X.K D.C f) (ho : PF X W0 o fo)
    (ha : ∀ v, assign (.Attribute o f pos) X.env v = (do let ov ← holding [v] (eval o X.env); standAt pos.atName; holding [v, ov] (setAttr ov f v); release [v, ov] []) := by intro _; rfl) : PGf X [] (.Attribute o f pos) (gFd c f fo) := by
  refine pg_imp (pg_fld ho ha) fun v σ H Q ⟨g, ρ, w, d, hK, r, e, dv, q⟩ => ?_
  have q' : oX W0 σ (fun g' (_ : Unit) ρ' => EnR g' σ ρ') g (fun _ H' => Q σ H') (gFd c f fo d ρ w) := by
    cases hz : gFd c f fo d ρ w with
    | ok ρ' w' => rw [hz] at q; exact fun _ H' g' x r' e' => q σ H' g' x r' e' (Sm.refl _ _)
    | ex c fs w' => rw [hz] at q; exact q.elim
    | no => rw [hz] at q; exact q
  refine lX_bind hK r e q' fun u H2 g2 o' w2 x2 r2 e2 du z2 => ?_
  split at z2
  · rename_i w3 hu
    obtain ⟨p, C, dx, gs, fs, fs', rfl, hC, hH, kv, hk, hw⟩ := updI_ok r2 du hu
    split at hk
    · rename_i hl
      cases hk
      have eC : C = D.C := ((x2.k.trans hK) ▸ hC : ClsAt X.K c C).eq D.at_
      subst eC
      have dv2 := dv.mono x2.toXt0 _ _
      exact ⟨p, _, dx, gs, rfl, hH, D.cls, hn, by rw [kv.length]; exact hl, z2 () _ g2 (Xt.refl _) (hw _ (kv.putF dv2)) e2⟩
    · cases hk
  · exact z2.elim
end
end Td

set_option Elab.async false
set_option linter.all false
set_option maxRecDepth 100000
set_option maxHeartbeats 4000000
namespace Td
open PySem L2 PySem.Spec PyProof.Rows
/-! ### for k, v in e.items(): the dict of the store changes no more -/
section
variable {X : Cx} {W : WX}
/-- what is told is locked for good -/
noncomputable def tGhE (t : TE) : TE := fun σ H Q => t σ H fun v H1 => ∃ d u, H1 d = some u ∧ Mut (some u) ∧ ∀ od, Q v (upd H1 d (.frz od u))
theorem pe_gh {e : Expr} {t : TE} (h : PE X e t) : PE X e (tGhE t) := by
  refine ⟨fun pins s σ H Q I hw => thn (h.run pins s σ H _ I hw) fun v s1 ⟨x, H1, I1, r, d, u, hd, mu, q⟩ => ?_⟩
  obtain ⟨od, I2⟩ := I1.lock hd mu
  exact ⟨x, _, I2, r, q od⟩
noncomputable def eFzK (f : FE) : FE := fun ρ w => (f ρ w).bind fun d w1 => match dkOf w1 d, locOf d with
  | some kvs, some l => .ok (fkD kvs) (w1.set l .dead)
  | _, _ => .no
theorem pf_fzK {e : Expr} {f : FE} (h : PF X W e f) : PF X W e (eFzK f) := by
  refine pe_imp (pe_gh h) fun σ H Q ⟨g, ρ, w, hK, r, e, q⟩ => ?_
  refine lX_bind hK r e q fun v H1 g1 d w1 x r1 e1 dv z => ?_
  cases hk : dkOf w1 d with
  | none => simp only [hk] at z; exact z.elim
  | some kvs =>
    cases hl : locOf d with
    | none => simp only [hk, hl] at z; exact z.elim
    | some l =>
      simp only [hk, hl] at z
      obtain ⟨l', xs, rfl, rfl, hw, hn, hH, kv⟩ := dkOf_ok r1 dv hk
      obtain rfl : l' = l := by simpa [locOf, rf] using hl
      obtain ⟨ks, hks, hg⟩ := r1.lockK hw
      refine ⟨g1.μ l', .dK ks, hks, trivial, fun od => ?_⟩
      obtain ⟨g', x', r', dv'⟩ := hg od
      exact z _ _ g' x' r' dv'
end
end Td

set_option Elab.async false
set_option linter.all false
set_option maxRecDepth 100000
set_option maxHeartbeats 4000000
/-! ### dict(zip(t, u)) of two tuples -/
namespace Zt
open PySem
open PySem.Sem (wp)
section
variable {prog : Program} {w : World} {A : Around} {E : Value → Shared → Prop} {s : Shared}
end
section
variable {prog : Program} {w : World}
end
end Zt
namespace Td
open PySem L2 PySem.Spec PyProof.Rows
section
variable {X : Cx} {W : WX}
end
end Td

set_option Elab.async false
set_option linter.all false
set_option maxRecDepth 100000
set_option maxHeartbeats 4000000
namespace Td
open PySem L2 PySem.Spec PyProof.Rows Tg
/-! ### [elt for tg in iter for tg1 in iter1] -/
noncomputable def eLc2 (fi : FA) (gt : FG) (fi1 : FA) (gt1 : FG) (fe : FE) (vs vs1 : List Nat) : FE := fun ρ w => (fi ρ w).bind fun ds w1 => (lc2L gt fi1 gt1 fe vs1 (wipeE ρ vs) ds w1 []).bind fun acc w2 => .ok (.list acc) w2
theorem lc2_of {W : WX} {fi fi1 : FA} {gt gt1 : FG} {fe : FE} {vs vs1 is is1 : List Nat} {K : PySem.W.Frag} (hs : ∀ i ∈ is, i ∈ vs) (hs1 : ∀ i ∈ is1, i ∈ vs1) : ∀ σ H Q, lE K W (eLc2 fi gt fi1 gt1 fe vs vs1) σ H Q → tLc2 (lI K W fi) (lG K is gt) (lT K W0 tYs) (lI K W0 fi1) (lG K is1 gt1) (lT K W0 tYs) (lE K W0 fe) vs vs1 σ H Q := fun σ H Q ⟨g, ρ, w, hK, r, e, q⟩ => by
  refine lX_bind hK r e q fun J H1 g1 ds w1 x r1 e1 wk z => ?_
  intro D hD
  have hK1 := x.k.trans hK
  have pD : g1.P D = none := by
    cases h : g1.P D with
    | none => rfl
    | some o => rw [(r1.pin D o h).1] at hD; cases hD
  have r0 := pin_new r1 hD (.lst [])
  refine ⟨fun i m H' => m = ds.length - i ∧ i ≤ ds.length ∧ ∃ g' w' acc dacc, Xt0 g1 g' ∧ g'.P = upd g1.P D (.lst acc) ∧ Rp g' H' w' ∧ DqA g' acc dacc ∧ lc2L gt fi1 gt1 fe vs1 (wipeE ρ vs) (ds.drop i) w' dacc = lc2L gt fi1 gt1 fe vs1 (wipeE ρ vs) ds w1 [],
    ⟨ds.length, by simp, Nat.zero_le _, _, w1, [], [], g1.pn_xt _, rfl, r0, .nil, rfl⟩, ?_⟩
  rintro i m H' ⟨rfl, hi, g', w', acc, dacc, x', hP, r', da, z'⟩
  by_cases hlt : i < ds.length
  · refine .inr ⟨wk.go g' H' w' i x' r' hlt, fun H2 => i + 1 ≤ ds.length ∧ ∃ g' w' acc dacc, Xt0 g1 g' ∧ g'.P = upd g1.P D (.lst acc) ∧ Rp g' H2 w' ∧ DqA g' acc dacc ∧ lc2L gt fi1 gt1 fe vs1 (wipeE ρ vs) (ds.drop (i + 1)) w' dacc = lc2L gt fi1 gt1 fe vs1 (wipeE ρ vs) ds w1 [],
      fun H2 n => ⟨ds.length - (i + 1), by omega, rfl, n⟩, fun v H2 y => ?_⟩
    obtain ⟨g2, d, hd, x2, r2, dv⟩ := wk.yld g' H' w' i v H2 x' r' hlt y
    have ed : ds.drop i = d :: ds.drop (i + 1) := by
      rw [List.drop_eq_getElem_cons hlt]
      rw [List.getElem?_eq_getElem hlt] at hd
      rw [Option.some.inj hd]
    rw [ed, lc2L] at z'
    rw [← z'] at z
    refine ⟨g2, wipeE ρ vs, w', d, x2.k.trans (x'.k.trans hK1), r2, (e1.mono (x'.trans x2.toXt0)).wipe vs, dv, ?_⟩
    cases hgt : gt d (wipeE ρ vs) w' with
    | ex c fs w2 => rw [hgt] at z; exact z.elim
    | no => rw [hgt] at z; exact z.elim
    | ok ρ1 w1' =>
      rw [hgt] at z z'
      simp only at z z'
      refine fun σ3 H3 g3 x3 r3 e3 sm => ⟨wipe_of_sm sm hs, g3, ρ1, w1', x3.k.trans (x2.k.trans (x'.k.trans hK1)), r3, e3, ?_⟩
      intro b' H4 g4 x4 r4 eb
      have eb : b' = true := eb
      subst eb
      have P4 : g4.P = upd g1.P D (.lst acc) := x4.p.trans (x3.p.trans (x2.p.trans hP))
      have y4 : Xt0 g1 g4 := x'.trans (x2.toXt0.trans (x3.toXt0.trans x4.toXt0))
      have da4 : DqA g4 acc dacc := da.mono (x2.toXt0.trans (x3.toXt0.trans x4.toXt0)) _ _
      refine iteT ⟨g4, ρ1, w1', y4.k.trans hK1, r4, e3.mono x4.toXt0, ?_⟩
      cases hf1 : fi1 ρ1 w1' with
      | ex c fs w2 => rw [hf1] at z; exact z.elim
      | no => rw [hf1] at z; exact z.elim
      | ok ds1 w2 =>
        rw [hf1] at z z'
        simp only at z z'
        intro J1 H5 g5 x5 r5 wk1
        obtain ⟨acc1, w3, hl⟩ : ∃ acc1 w3, lcL gt1 tYs fe (wipeE ρ1 vs1) ds1 w2 dacc = .ok acc1 w3 := by
          cases h : lcL gt1 tYs fe (wipeE ρ1 vs1) ds1 w2 dacc with
          | ok acc1 w3 => exact ⟨acc1, w3, rfl⟩
          | ex c fs w2 => rw [h] at z; exact z.elim
          | no => rw [h] at z; exact z.elim
        rw [hl] at z z'
        simp only at z z'
        have y5 : Xt0 g1 g5 := y4.trans x5.toXt0
        have e5 : EnR g5 σ3 ρ1 := (e3.mono x4.toXt0).mono x5.toXt0
        refine ⟨fun j k H' => k = ds1.length - j ∧ j ≤ ds1.length ∧ ∃ g' w' acc' dacc', Xt0 g5 g' ∧ g'.P = upd g1.P D (.lst acc') ∧ Rp g' H' w' ∧ DqA g' acc' dacc' ∧ lcL gt1 tYs fe (wipeE ρ1 vs1) (ds1.drop j) w' dacc' = .ok acc1 w3,
          ⟨ds1.length, by simp, Nat.zero_le _, g5, w2, acc, dacc, (Xt.refl g5).toXt0, x5.p.trans P4, r5, da4.mono x5.toXt0 _ _, by rw [List.drop_zero]; exact hl⟩, ?_⟩
        rintro j k H6 ⟨rfl, hj, g6, w6, acc6, dacc6, x6, P6, r6, da6, z6⟩
        by_cases hlt1 : j < ds1.length
        · refine .inr ⟨wk1.go g6 H6 w6 j x6 r6 hlt1, fun H7 => j + 1 ≤ ds1.length ∧ ∃ g' w' acc' dacc', Xt0 g5 g' ∧ g'.P = upd g1.P D (.lst acc') ∧ Rp g' H7 w' ∧ DqA g' acc' dacc' ∧ lcL gt1 tYs fe (wipeE ρ1 vs1) (ds1.drop (j + 1)) w' dacc' = .ok acc1 w3,
            fun H7 n => ⟨ds1.length - (j + 1), by omega, rfl, n⟩, fun v1 H7 y1 => ?_⟩
          obtain ⟨g7, d1, hd1, x7, r7, dv1⟩ := wk1.yld g6 H6 w6 j v1 H7 x6 r6 hlt1 y1
          have ed1 : ds1.drop j = d1 :: ds1.drop (j + 1) := by
            rw [List.drop_eq_getElem_cons hlt1]
            rw [List.getElem?_eq_getElem hlt1] at hd1
            rw [Option.some.inj hd1]
          rw [ed1, lcL] at z6
          have K6 : g6.K = K := x6.k.trans (y5.k.trans hK1)
          refine ⟨g7, wipeE ρ1 vs1, w6, d1, x7.k.trans K6, r7, (e5.mono (x6.trans x7.toXt0)).wipe vs1, dv1, ?_⟩
          cases hgt1 : gt1 d1 (wipeE ρ1 vs1) w6 with
          | ex c fs w2 => rw [hgt1] at z6; cases z6
          | no => rw [hgt1] at z6; cases z6
          | ok ρ8 w8 =>
            rw [hgt1] at z6
            simp only [tYs] at z6
            refine fun σ8 H8 g8 x8 r8 e8 sm8 => ⟨wipe_of_sm sm8 hs1, g8, ρ8, w8, x8.k.trans (x7.k.trans K6), r8, e8, ?_⟩
            intro b9 H9 g9 x9 r9 eb9
            have eb9 : b9 = true := eb9
            subst eb9
            have P9 : g9.P = upd g1.P D (.lst acc6) := x9.p.trans (x8.p.trans (x7.p.trans P6))
            have y9 : Xt0 g5 g9 := x6.trans (x7.toXt0.trans (x8.toXt0.trans x9.toXt0))
            have da9 : DqA g9 acc6 dacc6 := da6.mono (x7.toXt0.trans (x8.toXt0.trans x9.toXt0)) _ _
            refine iteT ⟨g9, ρ8, w8, x9.k.trans (x8.k.trans (x7.k.trans K6)), r9, e8.mono x9.toXt0, ?_⟩
            cases hfe : fe ρ8 w8 with
            | ex c fs w2 => rw [hfe] at z6; cases z6
            | no => rw [hfe] at z6; cases z6
            | ok d10 w10 =>
              rw [hfe] at z6
              simp only at z6
              intro v10 H10 g10 x10 r10 dv10
              have P10 : g10.P = upd g1.P D (.lst acc6) := x10.p.trans P9
              by_cases hsz : dacc6.length < sizeLine
              · rw [if_pos hsz] at z6
                have pD10 := r10.pin D (.lst acc6) (by rw [P10]; exact upd_same)
                refine ⟨acc6, pD10.1, by rw [da6.length]; exact hsz, hlt1, g10.pn (upd g1.P D (.lst (acc6 ++ [v10]))), w10, acc6 ++ [v10], dacc6 ++ [d10], (y9.trans x10.toXt0).trans (g10.pn_xt _), rfl, pin_set r10 P10 (fun a z => nomatch z), ?_, z6⟩
                exact (da9.mono (x10.toXt0.trans (g10.pn_xt _)) _ _).append (.cons (dv10.mono (g10.pn_xt _) _ _) .nil)
              · rw [if_neg hsz] at z6; cases z6
        · have ej : j = ds1.length := by omega
          subst ej
          rw [List.drop_length, lcL] at z6
          cases z6
          exact .inl ⟨wk1.stop g6 H6 _ x6 r6, hlt, g6, _, acc6, _, y5.trans x6, P6, r6, da6, z'⟩
  · have ei : i = ds.length := by omega
    subst ei
    rw [List.drop_length, lc2L] at z'
    rw [← z'] at z
    refine .inl ⟨wk.stop g' H' w' x' r', ?_⟩
    have pD' := r'.pin D (.lst acc) (by rw [hP]; exact upd_same)
    have xo : Xt0 g' { g' with P := g1.P, F := upd g'.F D (.lst acc) } := ⟨rfl, fun a u e => (upd_ne (ne_of_none e pD'.2.1)).trans e, fun _ _ => rfl, Nat.le_refl _, rfl⟩
    exact z _ H' { g' with P := g1.P, F := upd g'.F D (.lst acc) } ⟨x'.trans xo, rfl⟩ (pin_out r' hP (fun a z => nomatch z) pD) (.lst (SqL.of upd_same) (da.mono xo _ _))
section
variable {X : Cx} {W : WX}
theorem psf_setLc2 {i : Nat} {y : Str} {py : Pos} {elt tg iter tg1 iter1 : Expr} {scope : Scope} {own : List (Str × Nat)} {vs1 : List Nat} {pos spos : Pos} {fi fi1 : FA} {gt gt1 : FG} {fe : FE} {is is1 : List Nat}
    (hc : X.calm = true) (hN : X.N.Nodup) (hy : X.N[i]? = some y) (hyl : X.env.scope.names.lookup y = some .local)
    (hsw : swapsWith (.ListComp elt [⟨tg, iter, [], 0⟩, ⟨tg1, iter1, [], 0⟩] scope pos) (some (.Name y py)) spos.line X.env = pure true) (hi : PIf X W tg iter fi) (ok : BlkOk X.N X.env.scope scope own)
    (hg : ∀ (s : Shared) (H : Hp) (C : Addr) (cl : List (Str × Addr)) (fp : List Addr), PGf (X.blk s H scope (compEnvC scope cl C X.env) fp) is tg gt)
    (hi1 : ∀ (s : Shared) (H : Hp) (C : Addr) (cl : List (Str × Addr)) (fp : List Addr), PIf (X.blk s H scope (compEnvC scope cl C X.env) fp) W0 tg1 iter1 fi1)
    (hg1 : ∀ (s : Shared) (H : Hp) (C : Addr) (cl : List (Str × Addr)) (fp : List Addr), PGf (X.blk s H scope (compEnvC scope cl C X.env) fp) is1 tg1 gt1)
    (he : ∀ (s : Shared) (H : Hp) (C : Addr) (cl : List (Str × Addr)) (fp : List Addr), PF (X.blk s H scope (compEnvC scope cl C X.env) fp) W0 elt fe)
    (hs : ∀ x, foldedSetIterable iter X.env x = pure x := by intro _; rfl) (hs1 : ∀ env x, foldedSetIterable iter1 env x = pure x := by intro _ _; rfl)
    (his : ∀ i ∈ is, i ∈ own.map (·.2) := by decide) (his1 : ∀ i ∈ is1, i ∈ vs1 := by decide) (hv : ∀ i ∈ vs1, i ∈ own.map (·.2) := by decide) :
    PSf X W (.Assign [.Name y py] (.ListComp elt [⟨tg, iter, [], 0⟩, ⟨tg1, iter1, [], 0⟩] scope pos) spos) (sAsg (eLc2 fi gt fi1 gt1 fe (own.map (·.2)) vs1) (gN i)) := by
  refine ps_imp (ps_setLc2 (g := lG X.K is gt) (tt := lT X.K W0 tYs) (g1 := lG X.K is1 gt1) (tt1 := lT X.K W0 tYs) (wi1 := lI X.K W0 fi1) (te := lE X.K W0 fe) hc hN hy hyl hsw hi ok hv hg (fun _ _ _ _ _ => ptsf_nil) hi1 hg1 (fun _ _ _ _ _ => ptsf_nil) he hs hs1) fun D σ H q => ?_
  obtain ⟨g, ρ, w, hK, r, e, q⟩ := q
  refine lc2_of (W := W) his his1 σ H _ ?_
  exact lX_then hK r e q fun v H1 g1 d w1 x r1 e1 dv z => z _ H1 g1 (Xt.refl _) r1 (e1.set i dv)
end
end Td

set_option Elab.async false
set_option linter.all false
set_option maxRecDepth 100000
set_option maxHeartbeats 4000000
namespace Td
open PySem L2 PySem.Spec PyProof.Rows
/-! ### len(set(xs)), xs a list of tuples of numbers, each once -/
section
variable {X : Cx} {W : WX}
end
end Td

set_option Elab.async false
set_option linter.all false
set_option maxRecDepth 100000
set_option maxHeartbeats 4000000
namespace Tg
open PySem PySem.Spec PyProof.Rows L2 Td GenW
/-! ### list(g(..)) -/
section
variable {X : Cx} {W : WX}
/-- the list S takes what the generator hands out -/
theorem fillG {pins : List (Addr × Obj)} {σ : L2.St} {c : GCx} {a0 : Addr} {gi : Nat} {go : Obj} {L : List PyData} {S : Addr} {g1 : Gd} {w : Ws} {R : Result → Shared → Prop}
    (ow : OwnB c X X.A.in1.in1 a0 gi go) (lo : Lo X pins c.n0 []) (hh : X.A.handled = none) (hdp : X.A.in1.in1.depth < recursionLimit) (hK : g1.K = X.K) (hL : L.length ≤ sizeLine) (hSc : S ∉ cellA c)
    (fin : ∀ s' H' g' xs, Inv X pins σ H' s' → Xt0 g1 g' → g'.P = upd g1.P S (.lst xs) → Rp g' H' w → DqA g' xs L → R (.ok (.ret .none)) s') :
    ∀ (m i : Nat) (s : Shared) (H : Hp) (g : Gd) (xs : List V) (gs : GenState) (fp : List Addr) (cl : Addr → Option Obj), L.length - i = m → i ≤ L.length → Inv X pins σ H s → Xt0 g1 g → g.P = upd g1.P S (.lst xs) → Rp (celG g cl) H w → DqA g xs (L.take i) → s.gens[gi]? = some gs → Slp c X pins L gs i g H fp cl s →
      codeAny (model X.prog X.w) X.A.in1 (.builtin "list.extend.loop" ⟨[.ref S, .ref a0, .none], []⟩) R s := by
  intro m
  induction m with
  | zero =>
    intro i s H g xs gs fp cl hm hi I x0 hP r da hgs Sl
    have ei : i = L.length := by omega
    refine codeAny_builtin PySem.F.entry_extend_loop ?_
    rw [Around.under_plainId PySem.F.plain_extend_loop _]
    show wpAny _ X.A.in1.in1 (pyNext (.ref a0) >>= fun _ => _) _ _ s
    refine wpAny_bind (thn (resume_okB ow hh hdp lo I r (x0.k.trans hK) hi hgs Sl Sl.sz) fun rr s4 h4 => ?_)
    rcases h4 with ⟨rfl, _, H4, g4, x4, I4, r4⟩ | ⟨u, d, v, gs4, fp4, cl4, H4, g4, rfl, hd, _⟩
    · refine wpAny_pure (fin s4 H4 g4 xs I4 (x0.trans x4.toXt0) (x4.p.trans hP) r4 ?_)
      have := da.mono x4.toXt0 _ _
      rwa [ei, List.take_length] at this
    · have := (List.getElem?_eq_some_iff.mp hd).1
      omega
  | succ m ih =>
    intro i s H g xs gs fp cl hm hi I x0 hP r da hgs Sl
    refine codeAny_builtin PySem.F.entry_extend_loop ?_
    rw [Around.under_plainId PySem.F.plain_extend_loop _]
    show wpAny _ X.A.in1.in1 (pyNext (.ref a0) >>= fun _ => _) _ _ s
    refine wpAny_bind (thn (resume_okB ow hh hdp lo I r (x0.k.trans hK) hi hgs Sl Sl.sz) fun rr s4 h4 => ?_)
    rcases h4 with ⟨rfl, hTL, _⟩ | ⟨u, d, v, gs4, fp4, cl4, H4, g4, rfl, hd, rv, dq, x4, I4, r4, hsu, hgs4, S4⟩
    · have := congrArg List.length hTL
      rw [List.length_take] at this
      omega
    · have hlt : i < L.length := (List.getElem?_eq_some_iff.mp hd).1
      have P4 : g4.P = upd g1.P S (.lst xs) := x4.p.trans hP
      have clS : cl4 S = none := by
        cases q : cl4 S with
        | none => rfl
        | some o => exact absurd (S4.cin S o q) hSc
      have P4c : (celG g4 cl4).P = upd (celP cl4 g1.P) S (.lst xs) := by
        show celP cl4 g4.P = _
        rw [P4, celP_upd clS]
      have pS := r4.pin S (.lst xs) (by rw [P4c]; exact upd_same)
      obtain ⟨hz, its, n, ri, eo⟩ := I4.hok S _ pS.1
      have dx := da.mono x4.toXt0 _ _
      have lx : xs.length = i := by rw [dx.length, List.length_take]; omega
      have sz : its.length = i := by rw [← ri.length]; exact lx
      show wpAny _ X.A.in1.in1 (updateSeq S (·.push u) >>= fun _ => _) _ _ s4
      refine wpAny_bind ?_
      refine wpAny_updateSeq eo rfl (wpAny_pure ⟨plainId_quiet PySem.F.plain_extend_loop _, ?_⟩) (by rw [List.size_toArray, sz]; omega) (by show (its.toArray.push u).size ≤ _; rw [Array.size_push, List.size_toArray, sz]; omega)
      have Ip := S4.pinned I4
      have eo' := Heap.get?_update_self (Obj.mapSeq (·.push u)) eo rfl
      have I5 : Inv X (pins ++ pinsAt fp4 s4.heap) σ (upd H4 S (.lst (xs ++ [v]))) { s4 with heap := s4.heap.update S (Obj.mapSeq (·.push u)) } := by
        refine Ip.write (t' := s4.toks) (by rw [pS.1]; trivial) (.inl rfl) (fun b ob hb q => (Heap.get?_update_other _ _ (Ne.symm hb)).trans q) ⟨_, eo'⟩ ⟨by rw [List.length_append, List.length_singleton, lx]; omega, its ++ [u], n + 1, ri.append (.cons rv .nil), ?_⟩
        rw [eo']
        simp [Obj.mapSeq]
      have x5 : Xt0 g4 (g4.pn (upd g1.P S (.lst (xs ++ [v])))) := g4.pn_xt _
      have r5 : Rp (celG (g4.pn (upd g1.P S (.lst (xs ++ [v])))) cl4) (upd H4 S (.lst (xs ++ [v]))) w := by
        have q := pin_set (o' := .lst (xs ++ [v])) r4 P4c (fun a z => nomatch z)
        have e : celG (g4.pn (upd g1.P S (.lst (xs ++ [v])))) cl4 = (celG g4 cl4).pn (upd (celP cl4 g1.P) S (.lst (xs ++ [v]))) := by
          show ({ g4 with P := celP cl4 (upd g1.P S (.lst (xs ++ [v]))) } : Gd) = { g4 with P := upd (celP cl4 g1.P) S (.lst (xs ++ [v])) }
          rw [celP_upd clS]
        rw [e]; exact q
      have S5 := S4.after (σc := σ) (gc' := g4.pn (upd g1.P S (.lst (xs ++ [v])))) x5 (fun a ha => by
        have h0 := S4.hP a ha
        have hne : a ≠ S := fun z => hSc (z ▸ ha)
        rw [P4, upd_ne hne] at h0
        show upd g1.P S _ a = none
        rw [upd_ne hne]; exact h0) I5
      refine ih (i + 1) _ _ (g4.pn (upd g1.P S (.lst (xs ++ [v])))) (xs ++ [v]) gs4 fp4 cl4 (by omega) hlt I5.unpinned ((x0.trans x4.toXt0).trans x5) rfl r5 ?_ hgs4 S5
      have tk : L.take (i + 1) = L.take i ++ [d] := by
        rw [List.take_add_one, hd]; rfl
      rw [tk]
      exact (dx.mono x5 _ _).append (.cons (dq.mono x5 _ _) .nil)
noncomputable def eLsG (fi : FA) : FE := fun ρ w => (fi ρ w).bind fun L w1 => Oc.on (szOk L.length) (.ok (.list L) w1)
end
end Tg

set_option Elab.async false
set_option linter.all false
set_option maxRecDepth 100000
set_option maxHeartbeats 4000000
namespace Tg
open PySem PySem.Spec PyProof.Rows L2 Td GenW
open Sem (wp)
/-! ### yield from, of a list -/
section
variable {prog : Program} {w : World} {A : Around} {E : Value → Shared → Prop} {s : Shared} {it l : Addr} {j : Nat} {us : Array Value}
end
section
variable {M : Model} {A : Around} {Φ : End → Shared → Prop} {cd : Code} {fs : List Frame} {s : Shared}
end
variable {c : GCx}
end Tg

set_option Elab.async false
set_option linter.all false
set_option maxRecDepth 100000
set_option maxHeartbeats 4000000
namespace Td
open PySem L2 PySem.Spec PyProof.Rows
/-! ### objects of own classes that change no more, as data -/
noncomputable def fiD (c : Str) (fs : List (Str × PyData)) : PyData := .dict [(.none, .str c), (.tuple (fs.map fun p => .str p.1), .tuple (fs.map (·.2)))]
noncomputable def fiOf (c : Str) : PyData → Option (List (Str × PyData))
  | .dict [(.none, .str c'), (.tuple ns, .tuple ds)] => if c' = c then (strsOf ns).map fun ks => ks.zip ds else none
  | _ => none
theorem strsOf_map : ∀ ks : List Str, strsOf (ks.map PyData.str) = some ks
  | [] => rfl
  | k :: ks => by show (strsOf (ks.map PyData.str)).map (k :: ·) = _; rw [strsOf_map ks]; rfl
theorem fiOf_fi (c : Str) (fs : List (Str × PyData)) : fiOf c (fiD c fs) = some fs := by
  have e : fs.map (fun p => PyData.str p.1) = (fs.map (·.1)).map PyData.str := by rw [List.map_map]; rfl
  simp only [fiD, fiOf, if_true, e, strsOf_map, Option.map_some, zip_self]
theorem dq_fi {g : Gd} {a C dx : Addr} {c : Str} {gs : List (Str × V)} {fs : List (Str × PyData)} (h : g.F a = some (.ins C dx gs)) (hC : ClsAt g.K c C) (k : KvR g gs fs) : Dq g (.ref a) (fiD c fs) := by
  obtain ⟨e1, e2⟩ := k.keysP
  have e : fs.map (fun p => PyData.str p.1) = gs.map fun p => PyData.str p.1 := by
    have := congrArg (List.map PyData.str) e1
    rw [List.map_map, List.map_map] at this
    exact this.symm
  unfold fiD
  rw [e]
  exact .fi h hC e2
theorem fiOf_ok {g : Gd} {v : V} {c : Str} {d : PyData} (h : Dq g v d) {fs : List (Str × PyData)} (e : fiOf c d = some fs) : ∃ a C dx gs, v = .ref a ∧ ClsAt g.K c C ∧ g.F a = some (.ins C dx gs) ∧ KvR g gs fs := by
  cases h with
  | @fi a C dx c' gs ds h1 h2 h3 =>
    have e' : gs.map (fun p => PyData.str p.1) = (gs.map (·.1)).map PyData.str := by rw [List.map_map]; rfl
    simp only [fiOf, e', strsOf_map, Option.map_some] at e
    split at e
    · rename_i hc
      subst hc
      cases e
      exact ⟨a, C, dx, gs, rfl, h2, h1, KvR.ofP h3⟩
    · cases e
  | _ => cases e
/-- the fields of an object, of the store or not -/
noncomputable def insB (w : Ws) (o : PyData) (c : Str) : Option (List (Str × PyData)) := match insOf w o c with
  | some fs => some fs
  | none => fiOf c o
theorem insB_ok {g : Gd} {H : Hp} {w : Ws} {v : V} {o : PyData} {c : Str} {fs : List (Str × PyData)} (r : Rp g H w) (h : Dq g v o) (e : insB w o c = some fs) :
    ∃ a C dx gs, v = .ref a ∧ ClsAt g.K c C ∧ H a = some (.ins C dx gs) ∧ KvR g gs fs := by
  unfold insB at e
  cases z : insOf w o c with
  | some fs' =>
    rw [z] at e
    cases e
    obtain ⟨l, C, dx, gs, e1, _, _, hC, hH, _, _, _, kv⟩ := insOf_ok r h z
    exact ⟨_, C, dx, gs, e1, hC, hH, kv⟩
  | none =>
    rw [z] at e
    obtain ⟨a, C, dx, gs, e1, hC, hF, kv⟩ := fiOf_ok h e
    exact ⟨a, C, dx, gs, e1, hC, r.fro _ _ hF, kv⟩
section
variable {X : Cx} {W : WX} {c f : Str} {o e : Expr} {fo fe : FE} {pos : Pos}
noncomputable def eFdB (c f : Str) (fo : FE) : FE := fun ρ w => (fo ρ w).bind fun o w1 => Oc.of ((insB w1 o c).bind fun fs => fs.lookup f) w1
theorem pf_fldB (D : ClsD X.K X.mg c) (hn : NoAttr X.K D.C f) (ho : PF X W o fo) (hb : attributeBase o f X.env (eval o X.env) = eval o X.env := by rfl) : PF X W (.Attribute o f pos) (eFdB c f fo) := by
  refine pe_imp (pe_fld ho hb) fun σ H Q ⟨g, ρ, w, hK, r, e, q⟩ => ?_
  refine lX_bind hK r e q fun v H1 g1 d w1 x r1 e1 dv z => ?_
  have hK1 := x.k.trans hK
  cases hz : (insB w1 d c).bind fun fs => fs.lookup f with
  | none => rw [hz] at z; exact z.elim
  | some y =>
    rw [hz] at z
    obtain ⟨fs, h1, h2⟩ := Option.bind_eq_some_iff.mp hz
    obtain ⟨a, C, dx, gs, rfl, hC, hH, kv⟩ := insB_ok r1 dv h1
    obtain ⟨u, hu, du⟩ := kv.lookup.2 y h2
    have eC : C = D.C := (hK1 ▸ hC : ClsAt X.K c C).eq D.at_
    subst eC
    exact ⟨_, _, dx, gs, u, rfl, hH, D.cls, hn, hu, z _ H1 g1 (Xt.refl _) r1 du⟩
end
section
variable {X : Cx} {W : WX} {k : Nat} {ps : List Str} {gf : FF} {c m qual : Str} {st : Stmt} {o e : Expr} {es : List Expr} {fo : FE} {fa : FA} {pos apos : Pos}
noncomputable def okMB (w : Ws) (o : PyData) (c m : Str) : Bool := match insB w o c with
  | some fs => (fs.lookup m).isNone
  | none => false
noncomputable def eMtB (c m : Str) (gf : FF) (fo : FE) (fa : FA) : FE := fun ρ w => (fo ρ w).bind fun o w1 => Oc.on (okMB w1 o c m) ((fa ρ w1).bind fun as w2 => gf (o :: as) w2)
theorem okMB_ok {g : Gd} {H : Hp} {w : Ws} {v : V} {o : PyData} (D : ClsD X.K X.mg c) (hK : g.K = X.K) (r : Rp g H w) (h : Dq g v o) (e : okMB w o c m = true) : ∃ p dx gs, v = .ref p ∧ H p = some (.ins D.C dx gs) ∧ gs.lookup m = none := by
  unfold okMB at e
  split at e
  · rename_i fs hf
    obtain ⟨a, C, dx, gs, rfl, hC, hH, kv⟩ := insB_ok r h hf
    have eC : C = D.C := (hK ▸ hC : ClsAt X.K c C).eq D.at_
    subst eC
    exact ⟨_, dx, gs, rfl, hH, kv.lookup.1 (by simpa using e)⟩
  · cases e
theorem pf_methB {pl : Sem Bool} {D : ClsD X.K X.mg c} {M : MethD X.K X.mg c m qual st ps D} (G : Gm X.prog X.w X.K X.mg X.base k M.f M.fd ps gf) (hr : Room k X.A) (hgu : X.A.guards = some []) (tk : L2N.Takes X W) (ho : PF X W o fo) (ha : PAf X W (e :: es) fa)
    (hst : starEach (e :: es) X.env = (false, eval e X.env) :: starEach es X.env := by rfl) (hpl : (backTo pos (starEach es X.env)).any (·.1) = false := by rfl)
    (ht : eval (.Call (.Attribute o m apos) (e :: es) [] pos) X.env = (do let ov ← eval o X.env; standAt apos.atName; let (f, first) ← holding [ov] (getMethod ov m pl); callWith pos f first (backTo pos (starEach (e :: es) X.env)) (backToKw pos (keywordEach [] X.env))) := by rfl) :
    PF X W (.Call (.Attribute o m apos) (e :: es) [] pos) (eMtB c m gf fo fa) := by
  refine ⟨fun pins s σ H Q I h => ?_⟩
  obtain ⟨g, ρ, w, hK, r, en, q⟩ := h
  have want := lX_bind (R := Dq) (T := fun v H1 => ∃ p dx gs, v = .ref p ∧ H1 p = some (.ins D.C dx gs) ∧ gs.lookup m = none ∧ lA X.K W fa σ H1 fun vs H2 => spF X.K ps.length gf (v :: vs) H2 Q (fun c d H' => W c d σ H')) hK r en q fun v H1 g1 o' w1 x r1 e1 dv z => by
    obtain ⟨hb, z⟩ := z.on
    obtain ⟨p, dx, gs, ev, hH, hl⟩ := okMB_ok D (x.k.trans hK) r1 dv hb
    exact ⟨p, dx, gs, ev, hH, hl, meth_want (x.k.trans hK) r1 e1 dv G.len z⟩
  refine PySem.W.methodCall_KW (pl := pl) (thn (ho.run pins s σ H _ I want) fun u s1 hv => ?_) ht
  obtain ⟨x, H1, I1, rx, p, dx, gs, ex, hH, hl, q1⟩ := hv
  subst ex
  cases rx
  refine getmeth_ok I1 hH D.cls M.me hl ?_
  refine PySem.W.callWith_K (first := [.ref p]) (h₀ := X.base) I.ok.mod.kin M.me.kp ?_ hst hpl
  refine thn (ha.run pos pins s1 σ H1 _ I1 q1) fun us s2 hs => ?_
  obtain ⟨vs, H2, I2, rv, q2⟩ := hs
  exact ⟨I2.kIn, run_G (us := .ref p :: us) (vs := .ref p :: vs) G.fn hr hgu M.bd .nil tk I2 (.cons rfl rv) (by rw [List.append_nil]; exact q2)⟩
end
/-- an object of the store is given out as data -/
theorem Rp.freezeI {g : Gd} {H : Hp} {w : Ws} (r : Rp g H w) {l : Nat} {c : Str} {fs : List (Str × PyData)} (hl : w[l]? = some (.ins c fs)) :
    ∃ g', Xt g g' ∧ Rp g' H (w.set l .dead) ∧ Dq g' (.ref (g.μ l)) (fiD c fs) := by
  obtain ⟨hn, dx0, gs0, ⟨C0, hC0, hx⟩, hd0, hn0, kv0⟩ := r.cell l _ hl
  have hlt : l < g.n := by rw [r.len]; exact (List.getElem?_eq_some_iff.mp hl).1
  have X : Xt g (g.fz (g.μ l) (.ins C0 dx0 gs0)) := Xt.put hn
  refine ⟨_, X, ⟨fun a u e => ?_, by rw [List.length_set]; exact r.len, fun m ob e => ?_, r.inj, fun a u e => ?_, fun p hp => by
    obtain ⟨t1, t2, t3⟩ := r.tab p hp
    have ne := r.tab.ne hp fun ps z => by rw [hx] at z; cases z
    exact ⟨t1.up X.ex rfl, (upd_ne ne).trans t2, t3⟩⟩, dq_fi upd_same (show ClsAt (g.fz (g.μ l) (.ins C0 dx0 gs0)).K c C0 from hC0) (kv0.mono X.toXt0)⟩
  · have e : upd g.F (g.μ l) (.ins C0 dx0 gs0) a = some u := e
    by_cases q : a = g.μ l
    · subst q; rw [upd_same] at e; exact hx.trans e
    · rw [upd_ne q] at e; exact r.fro a u e
  · by_cases q : l = m
    · subst q
      rw [List.getElem?_set_self (by rw [← r.len]; exact hlt)] at e
      cases e
      exact ⟨_, hx⟩
    · rw [List.getElem?_set_ne q] at e
      have hm : m < g.n := by rw [r.len]; exact (List.getElem?_eq_some_iff.mp e).1
      have nm : g.μ m ≠ g.μ l := fun z => q (r.inj m l hm hlt z).symm
      have c := r.cell m ob e
      cases ob with
      | lst es => obtain ⟨a, b, c, d⟩ := c; exact ⟨(upd_ne nm).trans a, b, c, d.mono X.toXt0 _ _⟩
      | dK es => obtain ⟨a, b, c, d⟩ := c; exact ⟨(upd_ne nm).trans a, b, c, d.mono X.toXt0⟩
      | ins k es =>
        obtain ⟨a, dx', gs, ⟨C', hC, h⟩, hd, hn2, d⟩ := c
        have nx : dx' ≠ g.μ l := fun z => by rw [z, hx] at hd; cases hd
        exact ⟨(upd_ne nm).trans a, dx', gs, ⟨C', hC, h⟩, hd, (upd_ne nx).trans hn2, d.mono X.toXt0⟩
      | dead => exact c
  · obtain ⟨q1, q2, q3⟩ := r.pin a u e
    exact ⟨q1, (upd_ne (fun z => q3 l hlt z.symm)).trans q2, q3⟩
noncomputable def fzI (c : Str) (w : Ws) (d : PyData) : Option (PyData × Ws) := match locOf d with
  | some l => match w[l]? with
    | some (.ins c' fs) => if c' = c then some (fiD c fs, w.set l .dead) else none
    | _ => none
  | none => none
theorem fzI_ok {g : Gd} {H : Hp} {w w' : Ws} {v : V} {c : Str} {d d' : PyData} (r : Rp g H w) (h : Dq g v d) (e : fzI c w d = some (d', w')) : ∃ g', Xt g g' ∧ Rp g' H w' ∧ Dq g' v d' := by
  unfold fzI at e
  split at e
  · rename_i l hl
    split at e
    · rename_i c' fs hd
      split at e
      · rename_i hc
        subst hc
        cases e
        obtain ⟨rfl, rfl, _⟩ := locOf_ok h hl
        exact r.freezeI hd
      · cases e
    · cases e
  · cases e
noncomputable def eFzI (c : Str) (f : FE) : FE := fun ρ w => (f ρ w).bind fun d w1 => match fzI c w1 d with
  | some (d', w') => .ok d' w'
  | none => .no
section
variable {X : Cx} {W : WX}
theorem pf_fzI {c : Str} {e : Expr} {f : FE} (h : PF X W e f) : PF X W e (eFzI c f) := by
  refine pe_imp h fun σ H Q ⟨g, ρ, w, hK, r, e, q⟩ => ?_
  refine lX_bind hK r e q fun v H1 g1 d w1 x r1 e1 dv z => ?_
  split at z
  · rename_i d' w' hf
    obtain ⟨g', x', r', dv'⟩ := fzI_ok r1 dv hf
    exact z v H1 g' x' r' dv'
  · exact z.elim
/-! ### k in d, of a dict that changes no more -/
noncomputable def inFk (_ : Ws) (d e : PyData) : Option PyData := (fkOf e).bind fun kvs => (keyD d).map fun k => .bool (valP kvs k).isSome
theorem op_inFk (hu : X.A.units + 1 < cLine) : OpR X (compareOp .In) (rD2 X.K inFk) := by
  intro pins s σ H x y v u Q I rx ry ⟨g, w, d, e, z, hK, r, dx, dy, hz, q⟩
  unfold inFk at hz
  obtain ⟨kvs, h1, hz⟩ := Option.bind_eq_some_iff.mp hz
  obtain ⟨k, h2, rfl⟩ := Option.map_eq_some_iff.mp hz
  obtain ⟨a, o', xs, rfl, hF, kv⟩ := fkOf_ok dy h1
  have ek := keyD_ok dx h2
  subst ek
  obtain rfl : u = Value.ref a := ry
  have ev := (kv.valP k).2
  refine d_in hu I (o := valV xs k) (.inl ⟨xs, k, .inr ⟨o', r.fro _ _ hF⟩, rfl, rfl⟩) rx fun s3 I3 => ⟨.bl _, H, I3, rfl, ?_⟩
  rw [ev]
  exact q _ H g (Xt.refl g) r (.bl _)
end
end Td

set_option Elab.async false
set_option linter.all false
set_option maxRecDepth 100000
set_option maxHeartbeats 4000000
namespace Tg
open PySem PySem.Spec PyProof.Rows L2 Td GenW
/-! ### calls of generators, however they are written -/
structure GenC (X : Cx) (W : WX) (k : Nat) (ec : Expr) (fi : FA) : Prop where
  run : ∀ {B : Around} {pins : List (Addr × Obj)} {s : Shared} {σ : L2.St} {H : Hp} {ρ : Ev} {w : Ws} {g : Gd} {Q : Value → Shared → Prop} {β γ : Type} {S : Gd → β → γ → Prop} {Q0 : β → Hp → Prop} {kk : List PyData → Ws → Oc γ},
    Room k B → B.guards = some [] → B.frames = some X.stack → X.ex = [] → Inv X pins σ H s → g.K = X.K → Rp g H w → EnR g σ ρ → oX W σ S g Q0 ((fi ρ w).bind kk) →
    (∀ L w1 g1 H1 s' c a0 gi go gs fp cl, Xt g g1 → Rp (celG g1 cl) H1 w1 → oX W σ S g1 Q0 (kk L w1) → OwnB c X B a0 gi go → (∃ vs, go.data = .fields vs ∧ go.cls = .type "generator") → Lo X pins c.n0 [] → Inv X pins σ H1 s' → s'.gens[gi]? = some gs → (∀ a ∈ fp, c.n0 ≤ a) → Slp c X pins L gs 0 g1 H1 fp cl s' → Q (.ref a0) s') →
    wpAny (model X.prog X.w) X.A (eval ec X.env) Q X.xe s
section
variable {X : Cx} {W : WX}
/-- behind the callee's binding -/
theorem gen_made {B : Around} {f : Addr} {fd : FuncData} {ps : List Str} {gf : List PyData → Option (List PyData)} {k : Nat} (F : GnF X.prog X.w X.K X.mg X.base k f fd ps gf) (hr : Room k X.A) (hrB : Room k B) (hgu : B.guards = some []) (hfB : B.frames = some X.stack)
    {pins : List (Addr × Obj)} {s1 : Shared} {σ : L2.St} {H1 : Hp} {g1 : Gd} {w1 : Ws} {Q : Value → Shared → Prop} {us us' : List Value} {kw : List (Str × Value)} {vs : List V} {ds L : List PyData} (hex : X.ex = []) (I1 : Inv X pins σ H1 s1) (hK : g1.K = X.K) (r1 : Rp g1 H1 w1)
    (bt : BindsTo s1 fd ⟨us, kw⟩ (ps.zip us')) (rv : Vals vs us') (d : DqA g1 vs ds) (hgf : gf ds = some L)
    (h : ∀ H2 s' c a0 gi go gs fp cl, Rp (celG g1 cl) H2 w1 → OwnB c X B a0 gi go → (∃ vs, go.data = .fields vs ∧ go.cls = .type "generator") → Lo X pins c.n0 [] → Inv X pins σ H2 s' → s'.gens[gi]? = some gs → (∀ a ∈ fp, c.n0 ≤ a) → Slp c X pins L gs 0 g1 H2 fp cl s' → Q (.ref a0) s') :
    wpAny (model X.prog X.w) X.A (call (.ref f) us kw) Q X.xe s1 := by
  refine wpAny_call (codeAny_mono (F.run X.A B X.stack s1 H1 ⟨us, kw⟩ us' vs g1 ds L hr hrB hgu hfB I1.env0 bt rv hK r1.fro (fun p hp => let ⟨t1, t2, _⟩ := r1.tab p (by rw [hK]; exact hp); ⟨t1, t2⟩) d hgf) fun r s' hq => ?_)
  cases r with
  | error e => exact False.elim hq
  | ok fl =>
    cases fl with
    | ret u =>
      obtain ⟨c, a0, gi, go, gs, fp, cl, H2, rfl, ow, hgo, lo, I', r2, hgs, hfp, S⟩ := Made.ownB hfB I1 hex r1 hq
      exact h H2 s' c a0 gi go gs fp cl r2 ow hgo lo I' hgs hfp S
    | next => exact False.elim hq
    | brk => exact False.elim hq
    | cont => exact False.elim hq
/-- g(a=.., b=..) -/
noncomputable def iGenN (m : Nat) (gD : List PyData → List PyData → List PyData) (gf : List PyData → Option (List PyData)) (fk : FA) : FA := fun ρ w => (fk ρ w).bind fun bs w1 => Oc.on (bs.length == m) (match gf (gD [] bs) with
  | some L => .ok L w1
  | none => .no)
/-- o.m() -/
noncomputable def iGenM (c m : Str) (gf : List PyData → Option (List PyData)) (fo : FE) : FA := fun ρ w => (fo ρ w).bind fun o w1 => Oc.on (okMB w1 o c m) (match gf [o] with
  | some L => .ok L w1
  | none => .no)
theorem genC_meth0 {pl : Sem Bool} {c m qual : Str} {st : Stmt} {ps : List Str} {D : ClsD X.K X.mg c} {M : MethD X.K X.mg c m qual st ps D} {gf : List PyData → Option (List PyData)} {k : Nat} {o : Expr} {fo : FE} {pos apos : Pos}
    (F : GnF X.prog X.w X.K X.mg X.base k M.f M.fd ps gf) (hr : Room k X.A) (ho : PF X W o fo)
    (ht : eval (.Call (.Attribute o m apos) [] [] pos) X.env = (do let ov ← eval o X.env; standAt apos.atName; let (f, first) ← holding [ov] (getMethod ov m pl); callWith pos f first (backTo pos (starEach [] X.env)) (backToKw pos (keywordEach [] X.env))) := by rfl) :
    GenC X W k (.Call (.Attribute o m apos) [] [] pos) (iGenM c m gf fo) := by
  refine ⟨fun {B pins s σ H ρ w g Q β γ S Q0 kk} hrB hgu hfB hex I hK r en hq h => ?_⟩
  have hq : oX W σ S g Q0 ((fo ρ w).bind fun d w1 => (Oc.on (okMB w1 d c m) (match gf [d] with
      | some L => .ok L w1
      | none => .no)).bind kk) := by
    unfold iGenM at hq
    cases q : fo ρ w with
    | ok ds w1 => rw [q] at hq; exact hq
    | ex c0 f0 w1 => rw [q] at hq; exact hq
    | no => rw [q] at hq; exact hq
  have want := lX_bind (R := Dq) (T := fun v H1 => ∃ p dx gs, v = .ref p ∧ H1 p = some (.ins D.C dx gs) ∧ gs.lookup m = none ∧ ∃ g1 d w1 L, gf [d] = some L ∧ Xt g g1 ∧ Rp g1 H1 w1 ∧ Dq g1 v d ∧ oX W σ S g1 Q0 (kk L w1)) hK r en hq fun v H1 g1 d w1 xt r1 e1 dv z => by
    cases hb : okMB w1 d c m with
    | false => rw [hb] at z; exact z.elim
    | true =>
      rw [hb] at z
      obtain ⟨p, dx, gs, ev, hH, hl⟩ := okMB_ok D (xt.k.trans hK) r1 dv hb
      cases hg : gf [d] with
      | none => rw [hg] at z; exact z.elim
      | some L => rw [hg] at z; exact ⟨p, dx, gs, ev, hH, hl, g1, d, w1, L, hg, xt, r1, dv, z⟩
  refine PySem.W.methodCall_KW (pl := pl) (thn (ho.run pins s σ H _ I want) fun u s1 hv => ?_) ht
  obtain ⟨x, H1, I1, rx, p, dx, gs, ex, hH, hl, g1, d, w1, L, hgf, xt, r1, dv, z⟩ := hv
  subst ex
  cases rx
  refine getmeth_ok I1 hH D.cls M.me hl ?_
  have hlen := F.len _ _ hgf
  have bt := M.bd s1 [.ref p] I1.kIn (by rw [← hlen]; rfl)
  rw [List.append_nil] at bt
  exact PySem.W.callWith_K0 (first := [.ref p]) I1.kIn M.me.kp (gen_made (vs := [.ref p]) (us' := [.ref p]) F hr hrB hgu hfB hex I1 (xt.k.trans hK) r1 bt (.cons rfl .nil) (.cons dv .nil) hgf fun H3 s' c a0 gi go gs fp cl r2 ow hgo lo I' hgs hfp S => h L w1 g1 H3 s' c a0 gi go gs fp cl xt r2 z ow hgo lo I' hgs hfp S)
theorem pf_listGc {nm : Str} {k : Nat} {ec : Expr} {fi : FA} {p1 pos1 : Pos} (hc : X.calm = true) (hex : X.ex = [])
    (hgl1 : Gl X nm) (hm1 : X.mg nm = none) (hv : bootBuiltins nm = some (.type "list"))
    (GC : GenC X W k ec fi) (hr : Room (k + 3) X.A) (hgu : X.A.guards = some [])
    (hnm : nm ≠ "__name__" := by decide) (hdb1 : (nm == ("__debug__" : Str)) = false := by decide) (he1 : starEach [ec] X.env = (false, eval ec X.env) :: starEach [] X.env := by rfl) :
    PF X W (.Call (.Name nm p1) [ec] [] pos1) (eLsG fi) := by
  refine ⟨fun pins s σ H Q I ⟨g, ρ, w, hK, r, en, q⟩ => ?_⟩
  refine wpAny_Call_Name_kw (ld_blt I hgl1 hm1 hv ?_ hnm hdb1)
  refine PyProof.Rows.callWith_type1 ?_ he1 rfl
  rw [he1]
  show wpAny _ _ (spliced ((false, eval ec X.env) :: backTo pos1 (starEach [] X.env))) _ _ s
  have hrB : Room k X.A.in1.in1 := ((hr.mono (by omega : k + 2 ≤ k + 3)).in1).in1
  refine Calls.spliced_cons (GC.run (B := X.A.in1.in1) (S := Dq) (γ := PyData) (kk := fun L w1 => Oc.on (szOk L.length) (Oc.ok (PyData.list L) w1)) hrB hgu I.env0.frames hex I hK r en q (fun L w1 g1 H1 s1 c a0 gi go gs fp cl xt r1 z ow hgo lo I1 hgs hfn Sl => ?_))
  refine Calls.spliced_nil ?_
  have hsz : szOk L.length = true := by
    cases h : szOk L.length with
    | true => rfl
    | false => rw [h] at z; exact z.elim
  rw [hsz] at z
  have hL : L.length ≤ sizeLine := of_decide_eq_true hsz
  have genA := ow.gen _ (Sl.gen ow)
  generalize hD : s1.heap.objs.size = D
  have hDn : H1 D = none := I1.hok.fresh (Nat.le_of_eq hD)
  have hcLt := Sl.celLt I1 r1
  have hDc : D ∉ cellA c := fun ha => by
    have q := hcLt D ha
    rw [hD] at q
    exact absurd q (Nat.lt_irrefl _)
  have neA : D ≠ a0 := fun z => by
    have q := Heap.lt_size (Sl.gen ow)
    rw [hD, z] at q
    exact absurd q (Nat.lt_irrefl _)
  have keepU : ∀ (h : Heap) (f : Obj → Obj), (∀ b o, s1.heap.get? b = some o → h.get? b = some o) → ∀ b o, s1.heap.get? b = some o → (h.update D f).get? b = some o := fun h f q b o eb => by
    have hb : b ≠ D := by
      have q := Heap.lt_size eb
      rw [hD] at q
      exact Nat.ne_of_lt q
    exact (Heap.get?_update_other _ _ (Ne.symm hb)).trans (q b o eb)
  have kA : ∀ b o, s1.heap.get? b = some o → (s1.heap.push { cls := .type "list", data := .seq #[] }).get? b = some o := fun b o eb => Heap.get?_push_of_some _ eb
  have gen_ : ∀ {h : Heap}, (∀ b o, s1.heap.get? b = some o → h.get? b = some o) → h.IsGen a0 gi := fun {h} q => genA.keeps q
  refine callType_codes (Q₁ := fun obj s₂ => obj = .ref D ∧ s₂ = { s1 with heap := s1.heap.push { cls := .type "list", data := .seq #[] } }) PySem.F.called_list (PySem.F.typeCall_list_1 _) PySem.F.entry_list_init
    (code_list_new _ ⟨by rw [hD], rfl⟩) fun obj s₂ h₂ => ?_
  obtain ⟨rfl, rfl⟩ := h₂
  have oA : (s1.heap.push { cls := .type "list", data := .seq #[] }).get? D = some { cls := .type "list", data := .seq #[] } := by
    rw [← hD]; exact Heap.get?_push_size _ rfl
  refine ⟨⟨_, oA, rfl⟩, PySem.F.args_list_init_2 _ _, ?_⟩
  show wpAny _ X.A.in1.in1 (do let xs ← Builtin.List.listItems (.ref D); Builtin.List.listUpdate (.ref D) (fun _ => #[]); letGo xs.toList.reverse; Builtin.List.listExtendWith (.ref D) (.ref a0) .none) _ _ _
  unfold Builtin.List.listItems
  refine wpAny_bind (wpAny_bind (wpAny_seqItems oA rfl (wpAny_pure ?_)))
  show wpAny _ X.A.in1.in1 (updateSeq D (fun _ => #[]) >>= fun _ => _) _ _ _
  refine wpAny_bind (wpAny_updateSeq oA rfl ?_)
  have oB := Heap.get?_update_self (Obj.mapSeq (fun _ => (#[] : Array Value))) oA rfl
  have kB := keepU _ (Obj.mapSeq (fun _ => (#[] : Array Value))) kA
  refine wpAny_bind (wpAny_letGo ?_)
  unfold Builtin.List.listExtendWith
  refine wpAny_bind (wpAny_typeOf ((gen_ kB).typeIs (s := { s1 with heap := _ })) ?_)
  simp only [show Builtin.List.listSameRef (.ref D) (.ref a0) = false by simp [Builtin.List.listSameRef, neA], show (Value.type "generator" == Value.type "list") = false by decide, show (Value.type "generator" == Value.type "tuple") = false by decide, Bool.or_false, Bool.false_eq_true, if_false]
  refine wpAny_bind (wpAny_pyIter_gen (s := { s1 with heap := _ }) (gen_ kB) ?_)
  refine wpAny_bind (wpAny_holding ?_)
  unfold Builtin.List.listLengthHint
  refine wpAny_bind (wpAny_specialOf ((gen_ kB).typeIs (s := { s1 with heap := _ })) PySem.F.gen_no_len ?_)
  refine wpAny_bind (wpAny_specialOf ((gen_ kB).typeIs (s := { s1 with heap := _ })) PySem.F.gen_no_hint ?_)
  refine wpAny_pure ?_
  refine wpAny_bind (wpAny_rule ?_)
  refine wpAny_bind ?_
  show wpAny _ X.A.in1.in1 (updateSeq D (·.push .none) >>= fun _ => updateSeq D (·.pop)) _ _ _
  refine wpAny_bind (wpAny_updateSeq oB rfl ?_)
  have oC := Heap.get?_update_self (Obj.mapSeq (·.push Value.none)) oB rfl
  refine wpAny_updateSeq (hz := by seq_fits) oC rfl ?_
  have oE := Heap.get?_update_self (Obj.mapSeq (·.pop)) oC rfl
  have kE := keepU _ (Obj.mapSeq (·.pop)) (keepU _ (Obj.mapSeq (·.push Value.none)) kB)
  refine wpAny_pure ⟨plainId_quiet PySem.F.plain_extend_loop _, ?_⟩
  generalize hh4 : (((s1.heap.push { cls := .type "list", data := .seq #[] }).update D (Obj.mapSeq fun _ => #[])).update D (Obj.mapSeq fun x => x.push Value.none)).update D (Obj.mapSeq fun x => x.pop) = h4 at oE kE
  have newD : ObjOk X.prog X.w (upd H1 D (.lst [])) h4 D (.lst []) := ⟨Nat.zero_le _, [], _, .nil, by rw [oE]; rfl⟩
  have Ip := (Sl.pinned I1).laid (t' := s1.toks) kE (Nat.le_of_eq hD) newD
  have pD : g1.P D = none := by
    cases h : g1.P D with
    | none => rfl
    | some o =>
      have clD : cl D = none := by
        cases q : cl D with
        | none => rfl
        | some o => exact absurd (Sl.cin D o q) hDc
      rw [(r1.pin D o (by show celP cl g1.P D = _; unfold celP; rw [clD]; exact h)).1] at hDn; cases hDn
  have clD : cl D = none := by
    cases q : cl D with
    | none => rfl
    | some o => exact absurd (Sl.cin D o q) hDc
  have r0 : Rp (celG (g1.pn (upd g1.P D (.lst []))) cl) (upd H1 D (.lst [])) w1 := by
    have q := pin_new r1 hDn (.lst [])
    have e : celG (g1.pn (upd g1.P D (.lst []))) cl = (celG g1 cl).pn (upd (celG g1 cl).P D (.lst [])) := by
      show ({ g1 with P := celP cl (upd g1.P D (.lst [])) } : Gd) = { g1 with P := upd (celP cl g1.P) D (.lst []) }
      rw [celP_upd clD]
    rw [e]; exact q
  have S0 := Sl.after (σc := σ) (gc' := g1.pn (upd g1.P D (.lst []))) (g1.pn_xt _) (fun a ha => by
    have hne : a ≠ D := fun z => hDc (z ▸ ha)
    show upd g1.P D _ a = none
    rw [upd_ne hne]; exact Sl.hP a ha) Ip
  have hK1 : g1.K = X.K := xt.k.trans hK
  refine fillG ow lo (I1.ok.hd hc) (by have := hr.dp; show X.A.depth < _; omega) hK1 hL hDc (fun s' H' g' xs I' x' hP' r' da' => ⟨rfl, ?_⟩) L.length 0 _ _ (g1.pn (upd g1.P D (.lst []))) [] gs fp cl (by simp) (Nat.zero_le _) Ip.unpinned (g1.pn_xt _) rfl r0 .nil hgs S0
  have xo : Xt0 g' { g' with P := g1.P, F := upd g'.F D (.lst xs) } := ⟨rfl, fun a u e => (upd_ne (ne_of_none e (r'.pin D (.lst xs) (by rw [hP']; exact upd_same)).2.1)).trans e, fun _ _ => rfl, Nat.le_refl _, rfl⟩
  exact ⟨.ref D, H', I', rfl, z _ H' { g' with P := g1.P, F := upd g'.F D (.lst xs) } ⟨x'.trans xo, rfl⟩ (pin_out r' hP' (fun a z => nomatch z) pD) (.lst (SqL.of upd_same) (da'.mono xo _ _))⟩
theorem pf_lcGc {k : Nat} {elt tg ec : Expr} {ifs : List Expr} {scope : Scope} {own : List (Str × Nat)} {pos : Pos} {fi : FA} {gt : FG} {tt : FT} {fe : FE} {is : List Nat}
    (hc : X.calm = true) (hN : X.N.Nodup) (hex : X.ex = []) (GC : GenC X W k ec fi) (hr : Room k X.A) (hgu : X.A.guards = some [])
    (ok : BlkOk X.N X.env.scope scope own) (hcl : (scope.names.all fun y => !decide (y.2 = .cell)) = true)
    (hg : ∀ (s : Shared) (H : Hp) (C : Addr) (cl : List (Str × Addr)) (fp : List Addr), PGf (X.blk s H scope (compEnvC scope cl C X.env) fp) is tg gt)
    (ht : ∀ (s : Shared) (H : Hp) (C : Addr) (cl : List (Str × Addr)) (fp : List Addr), PTs (X.blk s H scope (compEnvC scope cl C X.env) fp) ifs (lT X.K W0 tt))
    (he : ∀ (s : Shared) (H : Hp) (C : Addr) (cl : List (Str × Addr)) (fp : List Addr), PF (X.blk s H scope (compEnvC scope cl C X.env) fp) W0 elt fe)
    (hs : ∀ v, foldedSetIterable ec X.env v = pure v := by intro _; rfl) (his : ∀ i ∈ is, i ∈ own.map (·.2) := by decide) :
    PF X W (.ListComp elt [⟨tg, ec, ifs, 0⟩] scope pos) (eLc fi gt tt fe (own.map (·.2))) := by
  refine ⟨fun pins s σ H Q I ⟨g, ρ, w, hK, r, en, q⟩ => ?_⟩
  rw [eval_ListComp]
  have hfree : ∀ y ∈ scope.names, y.2 = .free → ∃ c, X.env.cells.lookup y.1 = some c := fun y hy e => by
    rcases ok.free y hy e with k | k
    · exact I.ok.has _ (.inl k)
    · exact I.ok.has _ (.inr k)
  refine wpAny_comprehension_free (use := none) rfl hs (closure_ok hfree) ok.kind (fun y hy e => by rw [ok.uniq y hy, e])
    (GC.run hr hgu I.env0.frames hex I hK r en q (fun L w1 g1 H1 s2 c a0 gi go gs fp cl xt r1 z ow hgo lo I2 hgs hfn S => ?_))
  refine wpAny_pyIter_gen (ow.gen _ (S.gen ow)) ?_
  refine wpAny_newObj_type (newEnv_comp ?_) (by show 0 ≤ sizeLine; decide)
  generalize hD : s2.heap.objs.size = D
  have hDn : H1 D = none := I2.hok.fresh (Nat.le_of_eq hD)
  have hcLt := S.celLt I2 r1
  have hDc : ∀ a ∈ cellA c, a ≠ D := fun a ha => by rw [← hD]; exact Nat.ne_of_lt (hcLt a ha)
  have clD : ∀ {cl6 : Addr → Option Obj}, (∀ a o, cl6 a = some o → a ∈ cellA c) → cl6 D = none := fun {cl6} h => by
    cases q : cl6 D with
    | none => rfl
    | some o => exact absurd rfl (hDc D (h D o q))
  generalize hs3 : ({ s2 with heap := s2.heap.push { cls := .type "list", data := .seq ([] : List Value).toArray } } : Shared) = s3
  have I3 : Inv X pins σ (upd H1 D (.lst [])) s3 := by
    rw [← hs3]
    refine I2.laid (t' := s2.toks) (fun b o e => Heap.get?_push_of_some _ e) (Nat.le_of_eq hD) ⟨Nat.zero_le _, [], 0, .nil, ?_⟩
    rw [← hD]
    exact Heap.get?_push_size _ rfl
  have h3 : s3.heap = s2.heap.push { cls := .type "list", data := .seq ([] : List Value).toArray } := by rw [← hs3]
  have hn3 : c.n0 ≤ s3.heap.objs.size := Nat.le_trans S.sz (by rw [h3, Heap.size_push]; exact Nat.le_succ _)
  obtain ⟨I5, owB, k4, loB⟩ := blk_setup hN ok hcl I3 lo ow hn3
  have loB := loB [] [s3.heap.objs.size] (by simp) (by simp [hn3]) (by simp)
  show codeAny _ _ (.compStart (.ListComp elt [⟨tg, ec, ifs, 0⟩] scope pos) 0 (.ref a0) (.ref D) (ceOf X scope s3.heap.objs.size)) (compPost (model X.prog X.w) X.A X.xe none (EP X pins σ Q) (.ref D) s3.heap.objs.size) (blkS s3 scope)
  have pg : PGf (blkB X s3 (upd H1 D (.lst [])) scope c.n0) is tg gt := hg _ _ _ _ _
  have pt : PTs (blkB X s3 (upd H1 D (.lst [])) scope c.n0) ifs (lT X.K W0 tt) := ht _ _ _ _ _
  have pe : PF (blkB X s3 (upd H1 D (.lst [])) scope c.n0) W0 elt fe := he _ _ _ _ _
  have SB : Slp c (blkB X s3 (upd H1 D (.lst [])) scope c.n0) [] L gs 0 (g1.pn (upd g1.P D (.lst []))) (upd H1 D (.lst [])) fp cl (blkS s3 scope) := by
    refine S.enter (fun a o e => e) (fun a ha => ⟨loB.pl (Nat.le_of_lt (ow.ok.cellHi a ha)) (fun z => by
      rw [List.mem_singleton, h3, Heap.size_push] at z
      have q := hcLt a ha
      rw [z] at q
      exact absurd q (by simp)), by show upd g1.P D _ a = none; rw [upd_ne (hDc a ha)]; exact S.hP a ha⟩) fun a ha => ?_
    obtain ⟨q1, q2⟩ := S.fpLt a ha
    have nD : a ≠ D := by rw [← hD]; exact Nat.ne_of_lt q1
    refine ⟨by rw [upd_ne nD]; exact q2, loB.pl (hfn a ha) (fun z => ?_), fun o e => k4 a o (by rw [h3]; exact Heap.get?_push_of_some _ e)⟩
    rw [List.mem_singleton, h3, Heap.size_push] at z
    rw [z] at q1
    exact absurd q1 (by simp)
  have pD : g1.P D = none := by
    cases h : g1.P D with
    | none => rfl
    | some o => rw [(r1.pin D o (by show celP cl g1.P D = _; unfold celP; rw [clD S.cin]; exact h)).1] at hDn; cases hDn
  have r0 : Rp (celG (g1.pn (upd g1.P D (.lst []))) cl) (upd H1 D (.lst [])) w1 := by
    have q := pin_new r1 hDn (.lst [])
    have e : celG (g1.pn (upd g1.P D (.lst []))) cl = (celG g1 cl).pn (upd (celG g1 cl).P D (.lst [])) := by
      show ({ g1 with P := celP cl (upd g1.P D (.lst [])) } : Gd) = { g1 with P := upd (celP cl g1.P) D (.lst []) }
      rw [celP_upd (clD S.cin)]
    rw [e]; exact q
  have hK1 : g1.K = X.K := xt.k.trans hK
  have en1 : EnR g1 σ ρ := en.mono xt.toXt0
  obtain ⟨out, wo, eo⟩ : ∃ out wo, lcL gt tt fe (wipeE ρ (own.map (·.2))) L w1 [] = .ok out wo := by
    cases h : lcL gt tt fe (wipeE ρ (own.map (·.2))) L w1 [] with
    | ok out wo => exact ⟨out, wo, rfl⟩
    | ex c0 f0 w0 =>
      exact (lcL_nox _ _ _ h).elim
    | no => rw [h] at z; exact z.elim
  rw [eo] at z
  have loop : codeAny (model X.prog X.w) X.A (.compLoop (.ListComp elt [⟨tg, ec, ifs, 0⟩] scope pos) 0 (.ref a0) (.ref D) (ceOf X scope s3.heap.objs.size)) (compPost (model X.prog X.w) X.A X.xe none (EP X pins σ Q) (.ref D) s3.heap.objs.size) (blkS s3 scope) := by
    refine compLoop_any (fun n s' => ∃ i H' g' w' acc dacc gs' fp' cl', n = L.length - i ∧ i ≤ L.length ∧ Inv (blkB X s3 (upd H1 D (.lst [])) scope c.n0) [] (wipe σ (own.map (·.2))) H' s' ∧ Xt0 g1 g' ∧ g'.P = upd g1.P D (.lst acc) ∧ Rp (celG g' cl') H' w' ∧ DqA g' acc dacc ∧ lcL gt tt fe (wipeE ρ (own.map (·.2))) (L.drop i) w' dacc = .ok out wo ∧ s'.gens[gi]? = some gs' ∧ Slp c (blkB X s3 (upd H1 D (.lst [])) scope c.n0) [] L gs' i g' H' fp' cl' s') ?_ L.length
      ⟨0, _, _, w1, [], [], gs, fp, cl, rfl, Nat.zero_le _, I5, g1.pn_xt _, rfl, r0, .nil, by rw [List.drop_zero]; exact eo, (by show s3.gens[gi]? = _; rw [← hs3]; exact hgs), SB⟩
    rintro n s5 ⟨i, H5, g5, w5, acc, dacc, gs5, fp5, cl5, rfl, hi, I5, x5, P5, r5, da5, z5, hgs5, S5⟩
    have e5 : EnR g5 (wipe σ (own.map (·.2))) (wipeE ρ (own.map (·.2))) := (en1.mono x5).wipe _
    refine turnG (B := blkB X s3 (upd H1 D (.lst [])) scope c.n0) (hx := rfl) (I5.ok.hd hc) hr.depth pg pt pe his (x5.k.trans hK1) r5 e5 owB hgo loB I5 hi hgs5 S5 (fun H6 g6 s6 ei x6 I6 r6 => ?_) (fun d hd => lcL_step (w1 := w1) hd z5)
      (fun d ρ7 w7 w8 H9 g9 s9 gs6 fp6 cl6 hd h1 h2 x9 I9 r9 hgs9 S9 => ?_) (fun d ρ7 w7 w8 y w9 u yv σ8 H9 g9 s9 gs6 fp6 cl6 PP hd h1 h2 h3' x9 rv9 dq9 I9 r9 hc6 hgs9 hsu back => ?_)
    · subst ei
      rw [List.drop_length, lcL] at z5
      cases z5
      have P6 : g6.P = upd g1.P D (.lst acc) := x6.p.trans P5
      have nC : H6 s3.heap.objs.size = none := I6.free
      have I7 : Inv X pins σ H6 s6 := inv_leave I3 lo I6.os I6.base I6.hok I6.bare
      obtain ⟨m, hn, _⟩ := I6.loc
      obtain ⟨f0, f1, f2, f3, f4, f5⟩ := I3.fpOk (H' := H6) (Nat.le_refl _) nC
      refine ⟨m, hn, fun h'' sb => ?_⟩
      have pD6 := r6.pin D (.lst acc) (by rw [P6]; exact upd_same)
      have xo : Xt0 g6 { g6 with P := g1.P, F := upd g6.F D (.lst acc) } := ⟨rfl, fun a u e => (upd_ne (ne_of_none e pD6.2.1)).trans e, fun _ _ => rfl, Nat.le_refl _, rfl⟩
      exact ⟨.ref D, H6, I7.turned (t' := s6.toks) (fun b o hb e => (sb.2 b hb).trans e) f0 f1 f3 f4 f5, rfl,
        z _ H6 { g6 with P := g1.P, F := upd g6.F D (.lst acc) } ⟨(x5.trans x6.toXt0).trans xo, rfl⟩ (pin_out r6 P6 (fun a z => nomatch z) pD) (.lst (SqL.of upd_same) (da5.mono (x6.toXt0.trans xo) _ _))⟩
    · have hlt : i < L.length := (List.getElem?_eq_some_iff.mp hd).1
      rw [lcL_no hd h1 h2] at z5
      exact ⟨L.length - (i + 1), by omega, i + 1, H9, g9, w8, acc, dacc, gs6, fp6, cl6, rfl, hlt, I9, x5.trans x9.toXt0, x9.p.trans P5, r9, da5.mono x9.toXt0 _ _, z5, hgs9, S9⟩
    · have hlt : i < L.length := (List.getElem?_eq_some_iff.mp hd).1
      obtain ⟨hz, z9⟩ := lcL_yes hd h1 h2 h3' z5
      have P9 : g9.P = upd g1.P D (.lst acc) := x9.p.trans P5
      have P9c : (celG g9 cl6).P = upd (celP cl6 g1.P) D (.lst acc) := by
        show celP cl6 g9.P = _
        rw [P9, celP_upd (clD hc6)]
      have pD9 := r9.pin D (.lst acc) (by rw [P9c]; exact upd_same)
      have r10 : Rp (celG (g9.pn (upd g1.P D (.lst (acc ++ [yv])))) cl6) (upd H9 D (.lst (acc ++ [yv]))) w9 := by
        have q := pin_set (o' := .lst (acc ++ [yv])) r9 P9c (fun a z => nomatch z)
        have e : celG (g9.pn (upd g1.P D (.lst (acc ++ [yv])))) cl6 = (celG g9 cl6).pn (upd (celP cl6 g1.P) D (.lst (acc ++ [yv]))) := by
          show ({ g9 with P := celP cl6 (upd g1.P D (.lst (acc ++ [yv]))) } : Gd) = { g9 with P := upd (celP cl6 g1.P) D (.lst (acc ++ [yv])) }
          rw [celP_upd (clD hc6)]
        rw [e]; exact q
      have kA := app_ok (X := blkB X s3 (upd H1 D (.lst [])) scope c.n0) (E := fun _ _ => False) (s := killS s9) (Q := fun _ s' => Inv (blkB X s3 (upd H1 D (.lst [])) scope c.n0) ([] ++ PP) σ8 (upd H9 D (.lst (acc ++ [yv]))) s') (inv_heap I9 rfl rfl (bare_kill I9.bare)) pD9.1 (by rw [da5.length]; exact hz) rv9 fun s' I' => I'
      refine thn (wpAny_keep (s := s9) kA) fun _ s10 ⟨kp, T, I10, hh, ho, hb⟩ => ?_
      have x10 : Xt0 g9 (g9.pn (upd g1.P D (.lst (acc ++ [yv])))) := g9.pn_xt _
      obtain ⟨I11, S11⟩ := back x10 (fun a ha => by show upd g1.P D _ a = none; rw [upd_ne (hDc a ha)]; exact S.hP a ha) (inv_heap I10 hh ho (hb I10.bare))
      refine ⟨L.length - (i + 1), by omega, i + 1, _, g9.pn (upd g1.P D (.lst (acc ++ [yv]))), w9, acc ++ [yv], dacc ++ [y], gs6, fp6, cl6, rfl, hlt, I11, (x5.trans x9.toXt0).trans x10, rfl, r10, ?_, z9, kp gi gs6 hgs9 hsu, S11⟩
      exact (da5.mono (x9.toXt0.trans x10) _ _).append (.cons (dq9.mono x10 _ _) .nil)
  exact codeAny_compStart_list loop (wpAny_pyIter_gen (owB.gen _ (SB.gen owB)) loop)
end
end Tg

set_option Elab.async false
set_option linter.all false
set_option maxRecDepth 100000
set_option maxHeartbeats 4000000
namespace Td
open PySem L2 PySem.Spec PyProof.Rows
/-! ### sorted(t) of a tuple -/
section
variable {prog : Program} {w : World} {A : Around} {E : Value → Shared → Prop} {s : Shared} {t : Addr} {us : List Value}
open PySem.W in
end
/-! ### list(d) of a dict of the store, as a list of the store -/
end Td

set_option Elab.async false
set_option linter.all false
set_option maxRecDepth 100000
set_option maxHeartbeats 4000000
namespace Td
open PySem L2 PySem.Spec PyProof.Rows PySem.W
/-! ### dict(zip(a, b)) of two tuples -/
section
variable {prog : Program} {w : World} {A : Around} {E : Value → Shared → Prop} {s : Shared} {z TI TO T i1 i2 l1 l2 : Addr} {f : Bool} {oT : Obj} {j k : Nat} {xs ys : Array Value}
theorem zt_item {x y : Value} {Q : Option Value → Shared → Prop} (D : ZipApart z TI TO i1 i2 l1 l2) (hz : IsZipHeld s.heap z TI TO T f) (hT : s.heap.get? T = some oT) (hp : IsPair s.heap TI (.ref i1) (.ref i2))
    (a1 : s.heap.IsTupleIter i1 l1 j) (a2 : s.heap.IsTupleIter i2 l2 k) (t1 : s.heap.IsTuple l1 xs) (t2 : s.heap.IsTuple l2 ys) (ex : xs[j]? = some x) (ey : ys[k]? = some y)
    (h : ∀ h', IsZipHeld h' z TI TO T true → h'.IsTupleIter i1 l1 (j + 1) → h'.IsTupleIter i2 l2 (k + 1) → IsPair h' s.heap.objs.size x y → (∀ c o, c ≠ z → c ≠ i1 → c ≠ i2 → s.heap.get? c = some o → h'.get? c = some o) → Q (some (.ref s.heap.objs.size)) { s with heap := h' }) :
    wpAny (model prog w) A (pyNext (.ref z)) Q E s := by
  have ty : s.TypeIs (.ref z) "zip" := ⟨_, hz, rfl⟩
  unfold pyNext
  refine wpAny_bind ?_
  refine wpAny_attempt (wpAny_callSpecial?_slot (name := Str.ofString "__next__") ty F.slot_zip_next ?_)
  refine wpAny_call_entry F.slot_zip_next ty F.entry_zip_next ?_ (F.args_zip_next_1 _)
  change wpAny _ _ (field (.ref z) 2 >>= _) _ _ _
  refine wpAny_bind ?_
  refine wpAny_field hz rfl (x := .bool false) rfl ?_
  change wpAny _ _ (field (.ref z) 3 >>= _) _ _ _
  refine wpAny_bind ?_
  refine wpAny_field hz rfl (x := .ref TI) rfl ?_
  refine wpAny_bind ?_
  refine wpAny_seqItems hp rfl ?_
  change wpAny _ _ (Builtin.SmallTypes.ownedTupleIsFree (.ref z) >>= _) _ _ _
  refine wpAny_bind ?_
  refine wpAny_tupleHeld_zip hz hT fun g1 z1 b1 => ?_
  simp only [if_false, Bool.false_eq_true]
  refine wpAny_bind ?_
  rw [← Array.forIn_toList]
  simp only [List.forIn_nil, List.forIn_cons]
  refine wpAny_bind ?_
  refine wpAny_bind ?_
  refine wpAny_holding ?_
  change wpAny _ _ (Builtin.SmallTypes.nextOf (.ref i1) >>= _) _ _ _
  refine wpAny_bind ?_
  refine RZ.nextOf_tuple_item (s := { s with heap := g1 }) (a1.extBut b1.extBut D.i1z) (t1.extBut b1.extBut D.l1z) ex fun g2 c1 b2 => ?_
  refine wpAny_pure (wpAny_pure ?_)
  refine wpAny_bind ?_
  refine wpAny_bind ?_
  refine wpAny_holding ?_
  change wpAny _ _ (Builtin.SmallTypes.nextOf (.ref i2) >>= _) _ _ _
  refine wpAny_bind ?_
  refine RZ.nextOf_tuple_item (s := { s with heap := g2 }) ((a2.extBut b1.extBut D.i2z).extBut b2.extBut D.i12.symm) ((t2.extBut b1.extBut D.l2z).extBut b2.extBut D.l2i1) ey fun g3 c2 b3 => ?_
  refine wpAny_pure (wpAny_pure (wpAny_pure ?_))
  change wpAny _ _ (newTuple [x, y] >>= _) _ _ _
  refine wpAny_bind ?_
  refine wpAny_newTuple ?_
  have sz : g3.objs.size = s.heap.objs.size := by rw [b3.1, b2.1, b1.1]
  have z3 : IsZipHeld g3 z TI TO T true := b3.extBut _ _ D.i2z.symm (b2.extBut _ _ D.i1z.symm z1)
  refine wpAny_pure ⟨_, rfl, ?_⟩
  have hpq : IsPair (g3.push { cls := .type "tuple", data := .seq #[x, y] }) g3.objs.size x y := Heap.get?_push_size _ rfl
  refine wpAny_pure ?_
  show Q (some (.ref g3.objs.size)) _
  rw [sz] at hpq ⊢
  exact h _ (Heap.get?_push_of_some _ z3) ((c1.extBut b3.extBut D.i12).at fun o e => Heap.get?_push_of_some _ e) (c2.at fun o e => Heap.get?_push_of_some _ e) hpq fun c o n1 n2 n3 e => Heap.get?_push_of_some _ (b3.extBut _ _ n3 (b2.extBut _ _ n2 (b1.extBut _ _ n1 e)))
theorem zt_done {Q : Option Value → Shared → Prop} (hh : A.handled = none) (D : ZipApart z TI TO i1 i2 l1 l2) (hz : IsZipHeld s.heap z TI TO T f) (hT : s.heap.get? T = some oT) (hp : IsPair s.heap TI (.ref i1) (.ref i2))
    (a1 : s.heap.IsTupleIter i1 l1 j) (a2 : s.heap.IsTupleIter i2 l2 k) (t1 : s.heap.IsTuple l1 xs) (t2 : s.heap.IsTuple l2 ys) (ed : xs[j]? = none ∨ ys[k]? = none)
    (h : ∀ h', (∀ c o, c ≠ z → c ≠ i1 → c ≠ i2 → s.heap.get? c = some o → h'.get? c = some o) → Q none { s with heap := h' }) :
    wpAny (model prog w) A (pyNext (.ref z)) Q E s := by
  have ty : s.TypeIs (.ref z) "zip" := ⟨_, hz, rfl⟩
  have fin : ∀ h' e, (∀ c o, c ≠ z → c ≠ i1 → c ≠ i2 → s.heap.get? c = some o → h'.get? c = some o) → (∃ o, h'.get? e = some o ∧ o.cls = .type "StopIteration") →
      wpAny (model prog w) A (isInstance (.ref e) (.type "StopIteration") >>= fun b => if b = true then pure none else throw (.ref e)) Q E { s with heap := h' } := fun h' e hk ⟨o, ho, hc⟩ => by
    refine wpAny_bind ?_
    refine wpAny_isInstance (T := "StopIteration") (b := true) ⟨o, ho, hc⟩ isSubtype_stop ?_
    exact wpAny_pure (h _ hk)
  unfold pyNext
  refine wpAny_bind ?_
  refine wpAny_attempt (wpAny_callSpecial?_slot (name := Str.ofString "__next__") ty F.slot_zip_next ?_)
  refine wpAny_call_entry F.slot_zip_next ty F.entry_zip_next ?_ (F.args_zip_next_1 _)
  change wpAny _ _ (field (.ref z) 2 >>= _) _ _ _
  refine wpAny_bind ?_
  refine wpAny_field hz rfl (x := .bool false) rfl ?_
  change wpAny _ _ (field (.ref z) 3 >>= _) _ _ _
  refine wpAny_bind ?_
  refine wpAny_field hz rfl (x := .ref TI) rfl ?_
  refine wpAny_bind ?_
  refine wpAny_seqItems hp rfl ?_
  change wpAny _ _ (Builtin.SmallTypes.ownedTupleIsFree (.ref z) >>= _) _ _ _
  refine wpAny_bind ?_
  refine wpAny_tupleHeld_zip hz hT fun g1 z1 b1 => ?_
  simp only [if_false, Bool.false_eq_true]
  refine wpAny_bind ?_
  rw [← Array.forIn_toList]
  simp only [List.forIn_nil, List.forIn_cons]
  refine wpAny_bind ?_
  refine wpAny_bind ?_
  refine wpAny_holding ?_
  change wpAny _ _ (Builtin.SmallTypes.nextOf (.ref i1) >>= _) _ _ _
  cases ex : xs[j]? with
  | none =>
    refine wpAny_bind ?_
    exact RZ.nextOf_tuple_end (s := { s with heap := g1 }) hh (a1.extBut b1.extBut D.i1z) (t1.extBut b1.extBut D.l1z) ex fun g2 e b2 he => fin g2 e (fun c o n1 n2 _ q => b2 _ _ n2 (b1.extBut _ _ n1 q)) he
  | some x =>
    have ey : ys[k]? = none := by
      rcases ed with q | q
      · rw [ex] at q; cases q
      · exact q
    refine wpAny_bind ?_
    refine RZ.nextOf_tuple_item (s := { s with heap := g1 }) (a1.extBut b1.extBut D.i1z) (t1.extBut b1.extBut D.l1z) ex fun g2 c1 b2 => ?_
    refine wpAny_pure (wpAny_pure ?_)
    refine wpAny_bind ?_
    refine wpAny_bind ?_
    refine wpAny_holding ?_
    change wpAny _ _ (Builtin.SmallTypes.nextOf (.ref i2) >>= _) _ _ _
    refine wpAny_bind ?_
    exact RZ.nextOf_tuple_end (s := { s with heap := g2 }) hh ((a2.extBut b1.extBut D.i2z).extBut b2.extBut D.i12.symm) ((t2.extBut b1.extBut D.l2z).extBut b2.extBut D.l2i1) ey fun g3 e b3 he => fin g3 e (fun c o n1 n2 n3 q => b3 _ _ n3 (b2.extBut _ _ n2 (b1.extBut _ _ n1 q))) he
end
/-- where the zip stands: fresh, or its last tuple is still out -/
noncomputable def ZtSt (z TI TO i1 i2 l1 l2 d : Addr) (xs ys : Array Value) (i : Nat) (h : Heap) : Prop :=
  IsPair h TI (.ref i1) (.ref i2) ∧ h.IsTupleIter i1 l1 i ∧ h.IsTupleIter i2 l2 i ∧ h.IsTuple l1 xs ∧ h.IsTuple l2 ys ∧
    ((IsZip h z TI TO .none ∧ ∃ a b, IsPair h TO a b) ∨ ∃ T f oT, IsZipHeld h z TI TO T f ∧ h.get? T = some oT ∧ T ≠ z ∧ T ≠ i1 ∧ T ≠ i2 ∧ T ≠ d)
theorem zt_src {prog : Program} {w : World} {A : Around} {z TI TO i1 i2 l1 l2 d : Addr} {xs ys : Array Value} (hh : A.handled = none) (D : ZipApart z TI TO i1 i2 l1 l2) (hd : d ≠ z ∧ d ≠ TI ∧ d ≠ TO ∧ d ≠ i1 ∧ d ≠ i2 ∧ d ≠ l1 ∧ d ≠ l2) :
    PairSrc prog w A z d [z, TO, i1, i2] (min xs.size ys.size) (fun i k v => xs[i]? = some k ∧ ys[i]? = some v) (ZtSt z TI TO i1 i2 l1 l2 d xs ys) where
  off := fun hm => by
    obtain ⟨q1, q2, q3, q4, q5, q6, q7⟩ := hd
    simp only [List.mem_cons, List.not_mem_nil, or_false] at hm
    rcases hm with e | e | e | e <;> first | exact q1 e | exact q3 e | exact q4 e | exact q5 e
  frame := fun i h h' st hk => by
    obtain ⟨q1, q2, q3, q4, q5, q6, q7⟩ := hd
    obtain ⟨p, a1, a2, t1, t2, st⟩ := st
    refine ⟨hk _ _ (Ne.symm q2) p, a1.at fun o e => hk _ o (Ne.symm q4) e, a2.at fun o e => hk _ o (Ne.symm q5) e, t1.at fun o e => hk _ o (Ne.symm q6) e, t2.at fun o e => hk _ o (Ne.symm q7) e, ?_⟩
    rcases st with ⟨hz, a, b, ht⟩ | ⟨T, f, oT, hz, ht, r1, r2, r3, r4⟩
    · exact .inl ⟨hk _ _ (Ne.symm q1) hz, a, b, hk _ _ (Ne.symm q3) ht⟩
    · exact .inr ⟨T, f, oT, hk _ _ (Ne.symm q1) hz, hk _ _ r4 ht, r1, r2, r3, r4⟩
  item := fun i s Q E hi st hds hQ => by
    obtain ⟨p, a1, a2, t1, t2, st⟩ := st
    have ix : i < xs.size := Nat.lt_of_lt_of_le hi (Nat.min_le_left ..)
    have iy : i < ys.size := Nat.lt_of_lt_of_le hi (Nat.min_le_right ..)
    have ex := Array.getElem?_eq_getElem ix
    have ey := Array.getElem?_eq_getElem iy
    have nw : ∀ {c o}, s.heap.get? c = some o → s.heap.objs.size ≠ c := fun e => Nat.ne_of_gt (Heap.lt_size e)
    have n1 : s.heap.objs.size ≠ i1 := let ⟨_, e, _⟩ := a1; nw e
    have n2 : s.heap.objs.size ≠ i2 := let ⟨_, e, _⟩ := a2; nw e
    rcases st with ⟨hz, a, b, ht⟩ | ⟨T, f, oT, hz, ht, r1, r2, r3, r4⟩
    · refine RZ.pyNext_zipT_item D hz p ht a1 a2 t1 t2 ex ey fun h' b1 b2 b3 b4 b5 b6 hk => ?_
      refine hQ s.heap.objs.size _ _ h' s.toks ⟨ex, ey⟩ (.inl ⟨_, b5, rfl, _, rfl⟩) ⟨hk _ _ D.TIz D.TITO D.TIi1 D.TIi2 p, b3, b4, t1.at fun o e => hk _ o D.l1z D.l1TO D.l1i1 D.l1i2 e, t2.at fun o e => hk _ o D.l2z D.l2TO D.l2i1 D.l2i2 e, ?_⟩ fun c o hc e => ?_
      · exact .inr ⟨s.heap.objs.size, false, _, b1, b5, nw hz, n1, n2, Nat.ne_of_gt hds⟩
      · exact hk c o (fun x => hc (by simp [x])) (fun x => hc (by simp [x])) (fun x => hc (by simp [x])) (fun x => hc (by simp [x])) e
    · refine zt_item D hz ht p a1 a2 t1 t2 ex ey fun h' b1 b3 b4 b5 hk => ?_
      refine hQ s.heap.objs.size _ _ h' s.toks ⟨ex, ey⟩ (.inl ⟨_, b5, rfl, _, rfl⟩) ⟨hk _ _ D.TIz D.TIi1 D.TIi2 p, b3, b4, t1.at fun o e => hk _ o D.l1z D.l1i1 D.l1i2 e, t2.at fun o e => hk _ o D.l2z D.l2i1 D.l2i2 e, ?_⟩ fun c o hc e => ?_
      · exact .inr ⟨T, true, oT, b1, hk _ _ r1 r2 r3 ht, r1, r2, r3, r4⟩
      · exact hk c o (fun x => hc (by simp [x])) (fun x => hc (by simp [x])) (fun x => hc (by simp [x])) e
  done := fun s Q E st hQ => by
    obtain ⟨p, a1, a2, t1, t2, st⟩ := st
    have ed : xs[min xs.size ys.size]? = none ∨ ys[min xs.size ys.size]? = none := by
      rcases Nat.le_total xs.size ys.size with h | h
      · exact .inl (Array.getElem?_eq_none (by rw [Nat.min_eq_left h]; exact Nat.le_refl _))
      · exact .inr (Array.getElem?_eq_none (by rw [Nat.min_eq_right h]; exact Nat.le_refl _))
    rcases st with ⟨hz, a, b, ht⟩ | ⟨T, f, oT, hz, ht, r1, r2, r3, r4⟩
    · exact RZ.pyNext_zipT_end hh D hz p ht a1 a2 t1 t2 ed fun h' hk => hQ h' s.toks fun c o hc e => hk c o (fun x => hc (by simp [x])) (fun x => hc (by simp [x])) (fun x => hc (by simp [x])) (fun x => hc (by simp [x])) e
    · exact zt_done hh D hz ht p a1 a2 t1 t2 ed fun h' hk => hQ h' s.toks fun c o hc e => hk c o (fun x => hc (by simp [x])) (fun x => hc (by simp [x])) (fun x => hc (by simp [x])) e
theorem zt_arg {prog : Program} {w : World} {z TI TO i1 i2 l1 l2 : Addr} (D : ZipApart z TI TO i1 i2 l1 l2) (xs ys : Array Value) :
    PairArg prog w "zip" z [z, TI, TO, i1, i2, l1, l2] [z, TO, i1, i2] (min xs.size ys.size) (fun i k v => xs[i]? = some k ∧ ys[i]? = some v)
      (fun h => IsZip h z TI TO .none ∧ IsPair h TI (.ref i1) (.ref i2) ∧ (∃ a b, IsPair h TO a b) ∧ h.IsTupleIter i1 l1 0 ∧ h.IsTupleIter i2 l2 0 ∧ h.IsTuple l1 xs ∧ h.IsTuple l2 ys) where
  type := fun s ok => ⟨_, ok.1, rfl⟩
  notDict := by decide
  keep := fun h h' ok hk => by
    obtain ⟨hz, p, ⟨a, b, ht⟩, a1, a2, t1, t2⟩ := ok
    exact ⟨hk _ _ hz, hk _ _ p, ⟨a, b, hk _ _ ht⟩, a1.at fun o e => hk _ o e, a2.at fun o e => hk _ o e, t1.at fun o e => hk _ o e, t2.at fun o e => hk _ o e⟩
  there := fun h ok b hb => by
    obtain ⟨hz, p, ⟨a, c, ht⟩, ⟨o1, e1, _⟩, ⟨o2, e2, _⟩, ⟨o3, e3, _⟩, ⟨o4, e4, _⟩⟩ := ok
    simp only [List.mem_cons, List.not_mem_nil, or_false] at hb
    rcases hb with rfl | rfl | rfl | rfl | rfl | rfl | rfl <;> first | exact ⟨_, hz⟩ | exact ⟨_, p⟩ | exact ⟨_, ht⟩ | exact ⟨_, e1⟩ | exact ⟨_, e2⟩ | exact ⟨_, e3⟩ | exact ⟨_, e4⟩
  sub := fun b hb => by
    simp only [List.mem_cons, List.not_mem_nil, or_false] at hb ⊢
    rcases hb with rfl | rfl | rfl | rfl <;> simp
  noKeys := fun A s Q E hA ok h => getAttrOr_miss_zip ok.1 rfl rfl rfl zip_no_keys (by decide +kernel) hA h
  iter := fun A s d Q E hA ok hd hdf h => by
    obtain ⟨hz, p, ⟨a, b, ht⟩, a1, a2, t1, t2⟩ := ok
    simp only [List.mem_cons, List.not_mem_nil, or_false, not_or] at hdf
    refine wpAny_pyIter_zip hz (h z [z, TO, i1, i2] (ZtSt z TI TO i1 i2 l1 l2 d xs ys) s.heap s.toks (zt_src hA D hdf) ⟨p, a1, a2, t1, t2, .inl ⟨hz, a, b, ht⟩⟩ (fun _ _ e => e) fun b hb => .inl hb)
noncomputable def eDcZ (fa : FA) : FE := fun ρ w => (fa ρ w).bind fun as w1 => match as with
  | [.tuple xs, .tuple ys] => (match keysD xs with
    | some ks => .ok (rf w1.length) (w1 ++ [.dK (mergeD [] (ks.zip ys))])
    | none => .no)
  | _ => .no
theorem keysD_at {g : Gd} : ∀ {vs : List V} {ds : List PyData} {ks : List Key}, DqA g vs ds → keysD ds = some ks → vs = ks.map kV
  | _, _, _, .nil, e => by cases e; rfl
  | _, _, _, .cons (v := v) (d := d) (ds := ds) h t, e => by
    unfold keysD at e
    cases hk : keyD d with
    | none => simp [hk] at e
    | some k =>
      cases hs : keysD ds with
      | none => simp [hk, hs] at e
      | some ks =>
        simp only [hk, hs, Option.some.injEq] at e
        subst e
        rw [List.map_cons, ← keysD_at t hs, keyD_ok h hk]
theorem kvr_zip {g : Gd} : ∀ {ks : List Key} {vs : List V} {ds : List PyData}, DqA g vs ds → KvR g (ks.zip vs) (ks.zip ds)
  | [], _, _, _ => by simp only [List.zip_nil_left]; exact .nil
  | _ :: _, _, _, .nil => by simp only [List.zip_nil_right]; exact .nil
  | _ :: _, _, _, .cons h t => .cons ⟨rfl, h⟩ (kvr_zip t)
theorem kv_zip : ∀ {ks : List Key} {vs : List V} {us : List Value}, Vals vs us → KV (ks.zip vs) (ks.zip us)
  | [], _, _, _ => by simp only [List.zip_nil_left]; exact .nil
  | _ :: _, _, _, .nil => by simp only [List.zip_nil_right]; exact .nil
  | _ :: _, _, _, .cons h t => .cons ⟨rfl, h⟩ (kv_zip t)
section
variable {X : Cx} {W : WX} {e1 e2 : Expr} {fa : FA} {p1 p2 c2 pos1 : Pos}
theorem pf_dcZ (hc : X.calm = true) (hgd : Gl X "dict") (hmd : X.mg "dict" = none) (hvd : bootBuiltins "dict" = some (.type "dict")) (hgz : Gl X "zip") (hmz : X.mg "zip" = none) (hvz : bootBuiltins "zip" = some (.type "zip")) (ha : PAf X W [e1, e2] fa)
    (hs1 : starEach [.Call (.Name "zip" p2) [e1, e2] [] c2] X.env = (false, eval (.Call (.Name "zip" p2) [e1, e2] [] c2) X.env) :: starEach [] X.env := by rfl)
    (hs2 : starEach [e1, e2] X.env = (false, eval e1 X.env) :: starEach [e2] X.env := by rfl) (hpl : (backTo c2 (starEach [e2] X.env)).any (·.1) = false := by rfl) :
    PF X W (.Call (.Name "dict" p1) [.Call (.Name "zip" p2) [e1, e2] [] c2] [] pos1) (eDcZ fa) := by
  refine ⟨fun pins s σ H Q I ⟨g, ρ, w, hK, r, en, q⟩ => ?_⟩
  have want := lX_bind (R := DqA) (T := fun vs H1 => ∃ g1 as w1, Xt g g1 ∧ Rp g1 H1 w1 ∧ DqA g1 vs as ∧ oX W σ Dq g1 Q (match as with
      | [.tuple xs, .tuple ys] => (match keysD xs with
        | some ks => .ok (rf w1.length) (w1 ++ [.dK (mergeD [] (ks.zip ys))])
        | none => .no)
      | _ => .no)) hK r en q fun vs H1 g1 as w1 y r1 e1 dv z => ⟨g1, as, w1, y, r1, dv, z⟩
  refine wpAny_Call_Name_kw (ld_blt I hgd hmd hvd ?_)
  refine PyProof.Rows.callWith_type1 ?_ hs1 rfl
  rw [hs1]
  show wpAny _ _ (spliced ((false, eval (.Call (.Name "zip" p2) [e1, e2] [] c2) X.env) :: backTo pos1 (starEach [] X.env))) _ _ s
  refine Calls.spliced_cons ?_
  refine wpAny_Call_Name_kw (ld_blt I hgz hmz hvz ?_)
  refine PyProof.Rows.callWith_type1 (thn (ha.run c2 pins s σ H _ I want) fun us s1 ⟨vs, H1, I1, rv, g1, as, w1, y, r1, dv, z⟩ => ?_) hs2 hpl
  split at z
  · rename_i xs ys
    split at z
    · rename_i ks hks
      cases dv with
      | cons d1 dv =>
        cases dv with
        | cons d2 dv =>
          cases dv
          cases d1 with
          | @tup a vs1 _ q1 da1 =>
          cases d2 with
          | @tup b vs2 _ q2 da2 =>
          cases rv with
          | cons ra rr =>
          cases rr with
          | cons rb rr =>
          cases rr
          cases ra
          cases rb
          obtain ⟨it1, rv1, t1, z1⟩ := I1.tuple ((y.k.trans hK) ▸ r1.sqT q1)
          obtain ⟨it2, rv2, t2, z2⟩ := I1.tuple ((y.k.trans hK) ▸ r1.sqT q2)
          have ekv := keysD_at da1 hks
          obtain ⟨o1, ho1, _⟩ := id t1
          obtain ⟨o2, ho2, _⟩ := id t2
          refine RZ.call_zipT (show s1.heap.IsTuple a it1.toArray from t1) (show s1.heap.IsTuple b it2.toArray from t2) fun h' hz hTI hTO a1 a2 hsz hk => ?_
          refine Calls.spliced_nil ?_
          have I2 : Inv X pins σ H1 { s1 with heap := h' } := I1.kept (t' := s1.toks) hk
          have hl1 : it1.length = ks.length := by rw [← rv1.length, ekv, List.length_map]
          have fr : ∀ c, s1.heap.objs.size ≤ c → ∀ b o, s1.heap.get? b = some o → b ≠ c := fun c hc b o e => Nat.ne_of_lt (Nat.lt_of_lt_of_le (Heap.lt_size e) hc)
          refine PySem.call_dict_pairs (knd := mixKind X.prog X.w) (kvs := ks.zip it2) (zt_arg (PySem.W.ktu_apart s1.heap.objs.size a b (Heap.lt_size ho1) (Heap.lt_size ho2)) it1.toArray it2.toArray) (I.ok.hd hc)
            ⟨hz, hTI, ⟨_, _, hTO⟩, a1, a2, t1.keeps hk, t2.keeps hk⟩ ⟨by simp [hl1], fun i key v hr => ?_⟩ (Nat.le_trans (Nat.min_le_right ..) (by simp only [List.size_toArray]; rw [← rv2.length]; exact z2)) fun h2 tk hd hk2 => ?_
          · obtain ⟨e1, e2⟩ := hr
            have e1 : it1[i]? = some key := by simpa using e1
            have e2 : it2[i]? = some v := by simpa using e2
            have hi : i < ks.length := by rw [← hl1]; exact (List.getElem?_eq_some_iff.mp e1).1
            have ek : ks[i]? = some ks[i] := List.getElem?_eq_getElem hi
            have ev : vs1[i]? = some (kV ks[i]) := by rw [ekv, List.getElem?_map, ek]; rfl
            obtain ⟨u, hu, ru⟩ := rv1.get ev
            rw [e1] at hu
            cases hu
            exact ⟨ks[i], by rw [List.getElem?_zip_eq_some]; exact ⟨ek, e2⟩, kV_is ru⟩
          · have big : (h'.objs.size == sysModules) = false := beq_eq_false_iff_ne.mpr (Nat.ne_of_gt I2.big)
            have hlen : (mergeK [] (ks.zip vs2)).length ≤ sizeLine := by
              refine Nat.le_trans (length_mergeK (ks.zip vs2) []) ?_
              rw [List.length_nil, Nat.zero_add, List.length_zip]
              exact Nat.le_trans (Nat.min_le_right ..) z2
            have kp : ∀ b o, s1.heap.get? b = some o → h2.get? b = some o := fun b o e => hk2 b o (fun hm => by
              simp only [List.mem_cons, List.not_mem_nil, or_false] at hm
              rcases hm with x | x | x | x <;> exact absurd x (fr _ (by omega) b o e)) (hk b o e)
            have hn : H1 h'.objs.size = none := I2.hok.fresh (Nat.le_refl _)
            obtain ⟨k1, k2⟩ := newDk r1 hn (KvR.merge (kvr_zip (ks := ks) da2) .nil)
            have L : Inv X pins σ (upd H1 h'.objs.size (.dK (mergeK [] (ks.zip vs2)))) { s1 with heap := h2, toks := tk } :=
              I1.laid (t' := tk) kp (by rw [hsz]; omega) (show ObjOk X.prog X.w _ _ _ (.dK (mergeK [] (ks.zip vs2))) from ⟨hlen, big, merged [] (ks.zip it2), KV.merge (kv_zip rv2) .nil, hd⟩)
            exact ⟨.ref h'.objs.size, _, L, rfl, z _ _ _ Gd.al_xt k1 k2⟩
    · exact z.elim
  · exact z.elim
end
end Td

set_option Elab.async false
set_option linter.all false
set_option maxRecDepth 100000
set_option maxHeartbeats 4000000
namespace Td
open PySem L2 PySem.Spec PyProof.Rows PySem.W
/-! ### dict(t), t a tuple of pairs -/
section
variable {X : Cx}
noncomputable def eDcQ (fa : FA) : FE := fun ρ w => (fa ρ w).bind fun as w1 => match as with
  | [.tuple ds] => (match prsD ds with
    | some kvs => .ok (rf w1.length) (w1 ++ [.dK (mergeD [] kvs)])
    | none => .no)
  | _ => .no
end
/-! ### t.index(x), a tuple of texts -/
section
variable {X : Cx} {W : WX} {o e : Expr} {apos cpos : Pos}
theorem pe_ixT {to : TE} {t : TA} (ho : PE X o to) (ha : PA X [e] t)
    (hbase : attributeBase o "index" X.env (eval o X.env) = eval o X.env := by rfl)
    (hfew : ((backTo cpos (starEach [e] X.env)).all (fun x => !x.1) && (backToKw cpos (keywordEach [] X.env)).all (fun x => x.1.isSome)
      && decide ([e].length + ([] : List Keyword).length + (if ([] : List Keyword).isEmpty then 0 else 1) < 30)) = true := by rfl)
    (hline : (apos.endLine == cpos.line) = true := by rfl) (hs : starEach [e] X.env = (false, eval e X.env) :: starEach [] X.env := by rfl) (hplain : (backTo cpos (starEach [] X.env)).any (·.1) = false := by rfl) :
    PE X (.Call (.Attribute o "index" apos) [e] [] cpos) (fun σ H Q => to σ H fun x H1 => (∃ p xs, x = .ref p ∧ PlT H1 p xs) ∧ t σ H1 fun vs H2 => ∃ p, ∃ ys : List Str, ∃ z j, x = .ref p ∧ vs = [.str z] ∧ SqT X.K H2 p (ys.map V.str) ∧ ys[j]? = some z ∧ (∀ m, m < j → ys[m]? ≠ some z) ∧ Q (.int (j : Nat)) H2) := by
  refine ⟨fun pins s σ H Q I h => ?_⟩
  refine wpAny_Call_method_late hbase hfew hline rfl (thn (ho.run pins s σ H _ I h) fun v s1 ⟨x, H1, I1, r1, ⟨p, xs, ex, ob, at1, nd⟩, q1⟩ => ?_)
  subst ex
  cases r1
  obtain ⟨hat, _, _, _, o', ho', hcl, _⟩ := (show ObjOk X.prog X.w H1 s1.heap p (.frz ob (.tup xs)) from I1.hok p _ at1)
  obtain rfl : ob = o' := by rw [hat] at ho'; exact Option.some.inj ho'
  refine ⟨"tuple", "tuple.index", PySem.F.plainAttrs_tuple, PySem.F.slot_tuple_index, PySem.F.type_tuple_index, ⟨_, hat, hcl⟩, fun a e => ?_, ?_⟩
  · cases e
    exact ⟨_, hat, nd⟩
  · have hA := ha.run cpos pins s1 σ H1 _ I1 q1
    rw [hs] at hA ⊢
    refine Calls.callWith_builtin (by show (false || (backTo cpos (starEach [] X.env)).any (·.1)) = false; rw [hplain] <;> rfl) (Calls.evalArgs_plain ?_)
    exact thn hA fun us s2 ⟨vs, H2, I2, r2, q2⟩ => mt_tup_index pins s2 σ H2 (.ref p) vs _ us Q I2 rfl r2 q2
noncomputable def ixT : List PyData → Ws → Option PyData
  | [.tuple ds, .str z], _ => match strsD ds with
    | some ys => if ys.contains z then some (.int (ys.idxOf z : Nat)) else none
    | none => none
  | _, _ => none
noncomputable def isTp : PyData → Bool
  | .tuple _ => true
  | _ => false
noncomputable def eIx (fo fe : FE) : FE := fun ρ w => (fo ρ w).bind fun d w1 => Oc.on (isTp d) ((fe ρ w1).bind fun k w2 => Oc.of (ixT [d, k] w2) w2)
theorem pf_ixT {fo fe : FE} (ho : PF X W o fo) (he : PF X W e fe)
    (hbase : attributeBase o "index" X.env (eval o X.env) = eval o X.env := by rfl)
    (hfew : ((backTo cpos (starEach [e] X.env)).all (fun x => !x.1) && (backToKw cpos (keywordEach [] X.env)).all (fun x => x.1.isSome)
      && decide ([e].length + ([] : List Keyword).length + (if ([] : List Keyword).isEmpty then 0 else 1) < 30)) = true := by rfl)
    (hline : (apos.endLine == cpos.line) = true := by rfl) (hs : starEach [e] X.env = (false, eval e X.env) :: starEach [] X.env := by rfl) (hplain : (backTo cpos (starEach [] X.env)).any (·.1) = false := by rfl) :
    PF X W (.Call (.Attribute o "index" apos) [e] [] cpos) (eIx fo fe) := by
  refine pe_imp (pe_ixT ho (pa_cons he pa_nil hs) hbase hfew hline hs hplain) fun σ H Q ⟨g, ρ, w, hK, r, e, q⟩ => ?_
  refine lX_bind hK r e q fun v H1 g1 d w1 x r1 e1 dv z => ?_
  have hK1 := x.k.trans hK
  obtain ⟨hb, z⟩ := z.on
  cases dv with
  | @tup a xs ds pt da =>
    refine ⟨?_, ?_⟩
    · obtain ⟨o, h1, h2⟩ := pt
      exact ⟨a, xs, rfl, o, r1.fro _ _ h1, h2⟩
    · refine lX_bind hK1 r1 e1 z fun v2 H2 g2 k w2 x2 r2 e2 dk z2 => ?_
      cases hz : ixT [.tuple ds, k] w2 with
      | none => rw [hz] at z2; exact z2.elim
      | some y =>
        rw [hz] at z2
        unfold ixT at hz
        split at hz
        · rename_i ds' zz h0
          cases h0
          split at hz
          · rename_i ys hys
            split at hz
            · rename_i hc
              cases hz
              cases dk
              have hm : zz ∈ ys := List.contains_iff_mem.mp hc
              have hlt : ys.idxOf zz < ys.length := List.idxOf_lt_length_of_mem hm
              refine ⟨a, ys, zz, ys.idxOf zz, rfl, rfl, ?_, ?_, fun m hmj e => ?_, z2 _ H2 g2 (Xt.refl _) r2 (.int _)⟩
              · have := strsD_ok da hys
                subst this
                exact (x2.k.trans hK1) ▸ r2.sqT (x2.toXt0.sqT pt)
              · rw [List.getElem?_eq_getElem hlt, List.getElem_idxOf hlt]
              · obtain ⟨hl, e⟩ := List.getElem?_eq_some_iff.mp e
                have nn := List.not_of_lt_findIdx (p := (· == zz)) hmj
                simp only [e, beq_self_eq_true] at nn
                exact absurd nn (by decide)
            · cases hz
          · cases hz
        · cases hz
  | _ => cases hb
end
end Td

set_option Elab.async false
set_option linter.all false
set_option maxRecDepth 100000
set_option maxHeartbeats 4000000
namespace Tk
open PySem L2 PySem.Spec PyProof.Rows Td Tg
noncomputable def topS (i : Nat) : Stmt := PySem.Challenge.pw_tidyrules_k07_values_told.main.body.getD i (.Pass ⟨0, 0, 0, 0⟩)
noncomputable abbrev s_NotUsable : Stmt := (cbody (topS 11)).getD 0 (.Pass ⟨0, 0, 0, 0⟩)
theorem ini_NotUsable {P : Program} {K : PySem.W.Frag} {mg : Str → Option Value} {C fI cc c : Addr} (E : Te.ExQ P K "NotUsable" "NotUsable.__init__" (defArgs s_NotUsable) (defBody s_NotUsable) (defScope s_NotUsable) C fI cc c) (nof : ∀ f ∈ (["word", "at"] : List Str), PySem.W.findIn K (.ref C) f = some none) (S : Te.SupC K mg P C fI cc c E.fd) (CX : CXT) (w : World) (base : Heap) : FnOk P w K mg base CX 1 fI E.fd ["self", "word", "at"] (Te.sp2 K C "word" "at") :=
  Te.fn_sup2 (F := ⟨"__init__", "NotUsable.__init__", defArgs s_NotUsable, defBody s_NotUsable, defScope s_NotUsable, [(("__class__" : Str), cc)], c⟩) (x0 := "self") E.lI S E.cI (show NdefX.NScope ["self", "word", "at", "__class__"] ["self", "word", "at"] ["__class__"] (defScope s_NotUsable) from NdefX.nscope_by (by decide +kernel)) rfl rfl rfl rfl rfl (nof _ (by decide)) (nof _ (by decide))
noncomputable abbrev s_is_integer : Stmt := topS 17
noncomputable abbrev N_is_integer : List Str := ["thing"]
noncomputable abbrev P_is_integer : List Str := ["thing"]
noncomputable abbrev s_is_number : Stmt := topS 18
noncomputable abbrev N_is_number : List Str := ["thing"]
noncomputable abbrev P_is_number : List Str := ["thing"]
noncomputable abbrev s_Meaning___init__ : Stmt := (cbody (topS 20)).getD 0 (.Pass ⟨0, 0, 0, 0⟩)
noncomputable abbrev N_Meaning___init__ : List Str := ["self", "language", "words", "name", "arity", "table"]
noncomputable abbrev P_Meaning___init__ : List Str := ["self", "language"]
noncomputable abbrev s_Meaning_is_value : Stmt := (cbody (topS 20)).getD 1 (.Pass ⟨0, 0, 0, 0⟩)
noncomputable abbrev N_Meaning_is_value : List Str := ["self", "thing"]
noncomputable abbrev P_Meaning_is_value : List Str := ["self", "thing"]
noncomputable abbrev s_Meaning_rows : Stmt := (cbody (topS 20)).getD 2 (.Pass ⟨0, 0, 0, 0⟩)
noncomputable abbrev N_Meaning_rows : List Str := ["self", "found", "name", "row", "value"]
noncomputable abbrev P_Meaning_rows : List Str := ["self"]
noncomputable abbrev s_Meaning_value : Stmt := (cbody (topS 20)).getD 3 (.Pass ⟨0, 0, 0, 0⟩)
noncomputable abbrev N_Meaning_value : List Str := ["self", "tree", "known", "row", "part", "notes", "head", "parts"]
noncomputable abbrev P_Meaning_value : List Str := ["self", "tree", "known"]
noncomputable abbrev s_Meaning_values : Stmt := (cbody (topS 20)).getD 4 (.Pass ⟨0, 0, 0, 0⟩)
noncomputable abbrev N_Meaning_values : List Str := ["self", "tree", "row"]
noncomputable abbrev P_Meaning_values : List Str := ["self", "tree"]
noncomputable abbrev s_value_of : Stmt := topS 21
noncomputable abbrev N_value_of : List Str := ["language", "tree", "values", "meaning", "k", "value"]
noncomputable abbrev P_value_of : List Str := ["language", "tree", "values"]
noncomputable abbrev s_table_of : Stmt := topS 22
noncomputable abbrev N_table_of : List Str := ["language", "tree"]
noncomputable abbrev P_table_of : List Str := ["language", "tree"]
noncomputable abbrev s__law_reader : Stmt := topS 24
noncomputable abbrev N__law_reader : List Str := ["_law_script"]
noncomputable abbrev P__law_reader : List Str := ["_law_script"]
noncomputable abbrev s__law_draw : Stmt := topS 25
noncomputable abbrev N__law_draw : List Str := ["_law_reader_here", "_law_many", "_law_calls", "_law_spot", "_law_cells", "_law_cell", "_law_once", "_law_figure"]
noncomputable abbrev P__law_draw : List Str := ["_law_reader_here", "_law_many"]
noncomputable abbrev s__law_is_number : Stmt := topS 26
noncomputable abbrev N__law_is_number : List Str := ["_law_value"]
noncomputable abbrev P__law_is_number : List Str := ["_law_value"]
noncomputable abbrev s__law_class_flags : Stmt := topS 27
noncomputable abbrev N__law_class_flags : List Str := ["_law_e", "_law_found"]
noncomputable abbrev P__law_class_flags : List Str := ["_law_e"]
noncomputable abbrev s__law_own_flags : Stmt := topS 28
noncomputable abbrev N__law_own_flags : List Str := ["_law_number", "_law_own", "_law_k"]
noncomputable abbrev P__law_own_flags : List Str := ["_law_number"]
noncomputable abbrev s__law_fields : Stmt := topS 29
noncomputable abbrev N__law_fields : List Str := ["_law_e", "_law_number"]
noncomputable abbrev P__law_fields : List Str := ["_law_e", "_law_number"]
noncomputable abbrev s__law_outcome : Stmt := topS 30
noncomputable abbrev N__law_outcome : List Str := ["_law_ask", "_law_found", "_law_e", "_law_flags", "_law_numbers", "_law_k"]
noncomputable abbrev P__law_outcome : List Str := ["_law_ask"]
noncomputable abbrev s__law_some : Stmt := topS 31
noncomputable abbrev N__law_some : List Str := ["_law_reader_here", "_law_pool", "_law_least", "_law_most", "_law_left", "_law_many"]
noncomputable abbrev P__law_some : List Str := ["_law_reader_here", "_law_pool", "_law_least", "_law_most"]
noncomputable abbrev s__law_power : Stmt := topS 38
noncomputable abbrev N__law_power : List Str := ["_law_size", "_law_arity", "_law_found", "_law_k"]
noncomputable abbrev P__law_power : List Str := ["_law_size", "_law_arity"]
noncomputable abbrev s__law_random_tongue : Stmt := topS 32
noncomputable abbrev N__law_random_tongue : List Str := ["_law_reader_here", "_law_size", "_law_entries", "_law_name", "_law_names", "_law_arity", "_law_many", "_law_one", "_law_k"]
noncomputable abbrev P__law_random_tongue : List Str := ["_law_reader_here"]
noncomputable abbrev s__law_fixed_tongues : Stmt := topS 33
noncomputable abbrev N__law_fixed_tongues : List Str := ["_law_entries", "_law_least", "_law_three"]
noncomputable abbrev P__law_fixed_tongues : List Str := []
noncomputable abbrev s__law_random_notes : Stmt := topS 34
noncomputable abbrev N__law_random_notes : List Str := ["_law_reader_here", "_law_pool"]
noncomputable abbrev P__law_random_notes : List Str := ["_law_reader_here"]
noncomputable abbrev s__law_random_tree : Stmt := topS 35
noncomputable abbrev N__law_random_tree : List Str := ["_law_reader_here", "_law_tongue", "_law_left", "_law_leaves", "_law_wide", "_law_marks", "_law_parts", "_law_k", "_law_name", "_law_arity", "_law_table", "_law_one"]
noncomputable abbrev P__law_random_tree : List Str := ["_law_reader_here", "_law_tongue", "_law_left"]
noncomputable abbrev s__law_rows : Stmt := topS 36
noncomputable abbrev N__law_rows : List Str := ["_law_size", "_law_many", "_law_found", "_law_k", "_law_longer", "_law_row", "_law_one"]
noncomputable abbrev P__law_rows : List Str := ["_law_size", "_law_many"]
noncomputable abbrev s__law_worth : Stmt := topS 37
noncomputable abbrev N__law_worth : List Str := ["_law_tongue", "_law_tree", "_law_row", "_law_at", "_law_part", "_law_size", "_law_names", "_law_entries", "_law_one"]
noncomputable abbrev P__law_worth : List Str := ["_law_tongue", "_law_tree", "_law_row"]
noncomputable abbrev s__law_due : Stmt := topS 39
noncomputable abbrev N__law_due : List Str := ["_law_tongue", "_law_tree", "_law_row", "_law_k"]
noncomputable abbrev P__law_due : List Str := ["_law_tongue", "_law_tree", "_law_row"]
noncomputable abbrev s__law_odd_rows : Stmt := topS 40
noncomputable abbrev N__law_odd_rows : List Str := ["_law_reader_here", "_law_tongue", "_law_menu", "_law_found", "_law_turn", "_law_name"]
noncomputable abbrev P__law_odd_rows : List Str := ["_law_reader_here", "_law_tongue"]
noncomputable abbrev s_law : Stmt := topS 41
noncomputable abbrev N_law : List Str := ["_law_script", "_law_reader_here", "_law_tongues", "_law_turn", "_law_tongue", "_law_wide", "_law_tree", "_law_saved", "_law_row", "_law_got"]
noncomputable abbrev P_law : List Str := ["_law_script"]
set_option genInjectivity false in
set_option genSizeOf false in
structure Tx (P : Program) (K : PySem.W.Frag) (mg : Str → Option Value) where
  k_Meaning : ClsD K mg "Meaning"
  d_is_integer : DefAt K mg "is_integer" s_is_integer P_is_integer
  d_is_number : DefAt K mg "is_number" s_is_number P_is_number
  m_Meaning___init__ : MethD K mg "Meaning" "__init__" "Meaning.__init__" s_Meaning___init__ P_Meaning___init__ k_Meaning
  m_Meaning_is_value : MethD K mg "Meaning" "is_value" "Meaning.is_value" s_Meaning_is_value P_Meaning_is_value k_Meaning
  m_Meaning_rows : MethD K mg "Meaning" "rows" "Meaning.rows" s_Meaning_rows P_Meaning_rows k_Meaning
  m_Meaning_value : MethD K mg "Meaning" "value" "Meaning.value" s_Meaning_value P_Meaning_value k_Meaning
  m_Meaning_values : MethD K mg "Meaning" "values" "Meaning.values" s_Meaning_values P_Meaning_values k_Meaning
  d_value_of : DefAt K mg "value_of" s_value_of P_value_of
  d_table_of : DefAt K mg "table_of" s_table_of P_table_of
  d__law_reader : DefAt K mg "_law_reader" s__law_reader P__law_reader
  d__law_draw : DefAt K mg "_law_draw" s__law_draw P__law_draw
  d__law_is_number : DefAt K mg "_law_is_number" s__law_is_number P__law_is_number
  d__law_class_flags : DefAt K mg "_law_class_flags" s__law_class_flags P__law_class_flags
  d__law_own_flags : DefAt K mg "_law_own_flags" s__law_own_flags P__law_own_flags
  d__law_fields : DefAt K mg "_law_fields" s__law_fields P__law_fields
  d__law_outcome : DefAt K mg "_law_outcome" s__law_outcome P__law_outcome
  d__law_some : DefAt K mg "_law_some" s__law_some P__law_some
  d__law_power : DefAt K mg "_law_power" s__law_power P__law_power
  d__law_random_tongue : DefAt K mg "_law_random_tongue" s__law_random_tongue P__law_random_tongue
  d__law_fixed_tongues : DefAt K mg "_law_fixed_tongues" s__law_fixed_tongues P__law_fixed_tongues
  d__law_random_notes : DefAt K mg "_law_random_notes" s__law_random_notes P__law_random_notes
  d__law_random_tree : DefAt K mg "_law_random_tree" s__law_random_tree P__law_random_tree
  d__law_rows : DefAt K mg "_law_rows" s__law_rows P__law_rows
  d__law_worth : DefAt K mg "_law_worth" s__law_worth P__law_worth
  d__law_due : DefAt K mg "_law_due" s__law_due P__law_due
  d__law_odd_rows : DefAt K mg "_law_odd_rows" s__law_odd_rows P__law_odd_rows
  d_law : DefAt K mg "law" s_law P_law
  nf_Meaning_word : NoAttr K k_Meaning.C "word"
  nf_Meaning_at : NoAttr K k_Meaning.C "at"
  nf_Meaning_place : NoAttr K k_Meaning.C "place"
  nf_Meaning_finding : NoAttr K k_Meaning.C "finding"
  nf_Meaning_other : NoAttr K k_Meaning.C "other"
  nf_Meaning_most : NoAttr K k_Meaning.C "most"
  nf_Meaning_event : NoAttr K k_Meaning.C "event"
  nf_Meaning_reason : NoAttr K k_Meaning.C "reason"
  nf_Meaning_steps : NoAttr K k_Meaning.C "steps"
  nf_Meaning_line : NoAttr K k_Meaning.C "line"
  nf_Meaning_field : NoAttr K k_Meaning.C "field"
  nf_Meaning_row : NoAttr K k_Meaning.C "row"
  nf_Meaning_tables : NoAttr K k_Meaning.C "tables"
  nf_Meaning_size : NoAttr K k_Meaning.C "size"
  nf_Meaning_inputs : NoAttr K k_Meaning.C "inputs"
  mk_Meaning : Mk K k_Meaning.C m_Meaning___init__.f
  b_ValueError : mg "ValueError" = none
  b_bool : mg "bool" = none
  b_dict : mg "dict" = none
  b_enumerate : mg "enumerate" = none
  b_int : mg "int" = none
  b_isinstance : mg "isinstance" = none
  b_len : mg "len" = none
  b_list : mg "list" = none
  b_max : mg "max" = none
  b_range : mg "range" = none
  b_repr : mg "repr" = none
  b_sorted : mg "sorted" = none
  b_tuple : mg "tuple" = none
  b_zip : mg "zip" = none
  x_NotUsable : Te.ExD P K mg "NotUsable" ["self", "word", "at"] ["word", "at"] (fun K C => Te.sp2 K C "word" "at")
  e_HouseError : (C : Addr) ×' mg "HouseError" = some (.ref C)
  e_Hurt : (C : Addr) ×' mg "Hurt" = some (.ref C)
  e_InvalidEvent : (C : Addr) ×' mg "InvalidEvent" = some (.ref C)
  e_InvalidPaper : (C : Addr) ×' mg "InvalidPaper" = some (.ref C)
  e_InvalidRow : (C : Addr) ×' mg "InvalidRow" = some (.ref C)
  e_InvalidText : (C : Addr) ×' mg "InvalidText" = some (.ref C)
  e_NoFinding : (C : Addr) ×' mg "NoFinding" = some (.ref C)
  e_NotUsable : (C : Addr) ×' mg "NotUsable" = some (.ref C)
  e_NothingToUndo : (C : Addr) ×' mg "NothingToUndo" = some (.ref C)
  e_PaperError : (C : Addr) ×' mg "PaperError" = some (.ref C)
  e_RuleError : (C : Addr) ×' mg "RuleError" = some (.ref C)
  e_TextError : (C : Addr) ×' mg "TextError" = some (.ref C)
  e_TidyError : (C : Addr) ×' mg "TidyError" = some (.ref C)
  e_TooMany : (C : Addr) ×' mg "TooMany" = some (.ref C)
  e_UnknownPlace : (C : Addr) ×' mg "UnknownPlace" = some (.ref C)
  h_TidyError : PySem.W.subIn K (.ref e_TidyError.1) (.type "BaseException") = some true
  i_NotUsable_HouseError : PySem.W.kitOne K (.ref x_NotUsable.C) (.ref e_HouseError.1) = some false
  i_NotUsable_Hurt : PySem.W.kitOne K (.ref x_NotUsable.C) (.ref e_Hurt.1) = some false
  i_NotUsable_InvalidEvent : PySem.W.kitOne K (.ref x_NotUsable.C) (.ref e_InvalidEvent.1) = some false
  i_NotUsable_InvalidPaper : PySem.W.kitOne K (.ref x_NotUsable.C) (.ref e_InvalidPaper.1) = some false
  i_NotUsable_InvalidRow : PySem.W.kitOne K (.ref x_NotUsable.C) (.ref e_InvalidRow.1) = some false
  i_NotUsable_InvalidText : PySem.W.kitOne K (.ref x_NotUsable.C) (.ref e_InvalidText.1) = some false
  i_NotUsable_NoFinding : PySem.W.kitOne K (.ref x_NotUsable.C) (.ref e_NoFinding.1) = some false
  i_NotUsable_NotUsable : PySem.W.kitOne K (.ref x_NotUsable.C) (.ref e_NotUsable.1) = some true
  i_NotUsable_NothingToUndo : PySem.W.kitOne K (.ref x_NotUsable.C) (.ref e_NothingToUndo.1) = some false
  i_NotUsable_PaperError : PySem.W.kitOne K (.ref x_NotUsable.C) (.ref e_PaperError.1) = some false
  i_NotUsable_RuleError : PySem.W.kitOne K (.ref x_NotUsable.C) (.ref e_RuleError.1) = some true
  i_NotUsable_TextError : PySem.W.kitOne K (.ref x_NotUsable.C) (.ref e_TextError.1) = some false
  i_NotUsable_TidyError : PySem.W.kitOne K (.ref x_NotUsable.C) (.ref e_TidyError.1) = some true
  i_NotUsable_TooMany : PySem.W.kitOne K (.ref x_NotUsable.C) (.ref e_TooMany.1) = some false
  i_NotUsable_UnknownPlace : PySem.W.kitOne K (.ref x_NotUsable.C) (.ref e_UnknownPlace.1) = some false
  i_NotUsable_ValueError : PySem.W.kitOne K (.ref x_NotUsable.C) (.type "ValueError") = some true
  n_NotUsable_TidyError : (Value.ref x_NotUsable.C == Value.ref e_TidyError.1) = false
  l_law : Te.LamD K d_law.fd "law"
noncomputable def b_is_integer : FS :=
    (sRet (eAn (eIsi "int" (eV 0)) (eNo (eIsi "bool" (eV 0)))))
noncomputable def F_is_integer : FF := defF 1 1 b_is_integer
noncomputable def b_is_number : FS :=
    (sRet (eAn (eCall F_is_integer [] (aC (eV 0) aN)) (eB geD (eV 0) (eC (.int 0)))))
noncomputable def F_is_number : FF := defF 1 1 b_is_number
noncomputable def b_Meaning___init__ : FS :=
    (sSeq (sAsg (eV 1) (gT 3 (gC (gFd "Meaning" "size" (eV 0)) (gC (gFd "Meaning" "inputs" (eV 0)) (gC (gN 2) gZ)))))
    (sFd "Meaning" "tables" (eV 0) (eFzK (eDc (iE (eV 2)) (gT 3 (gC (gN 3) (gC (gN 4) (gC (gN 5) gZ)))) tYs (eV 3) (eV 5) [3, 4, 5]))))
noncomputable def F_Meaning___init__ : FF := defF 6 2 b_Meaning___init__
noncomputable def b_Meaning_is_value : FS :=
    (sRet (eAn (eCall F_is_number [] (aC (eV 1) aN)) (eB ltD (eV 1) (eFdB "Meaning" "size" (eV 0)))))
noncomputable def F_Meaning_is_value : FF := defF 2 2 b_Meaning_is_value
noncomputable def b_Meaning_rows : FGn :=
    (gSq (gPl (sAsg (eLst (aC (eTup aN) aN)) (gN 1)))
    (gSq (gPl (sFor (iE (eFdB "Meaning" "inputs" (eV 0))) (gN 2)
    (sAsg (eLc2 (iE (eV 1)) (gN 3) (iR1 (aC (eFdB "Meaning" "size" (eV 0)) aN)) (gN 4) (eTup (aSt (eV 3) (aC (eV 4) aN))) [3, 4] [4]) (gN 1))))
    (gSq (gFr (iE (eV 1)) (gN 3)
    (gSq (gYd (eV 3))
    gNil))
    gNil)))
noncomputable def F_Meaning_rows : List PyData → Option (List PyData) := genF 5 1 b_Meaning_rows
noncomputable def b_Meaning_value (g : FF) : FS :=
    (sSeq (sAsg (eV 1) (gT 3 (gC (gN 5) (gC (gN 6) (gC (gN 7) gZ)))))
    (sSeq (sIf (tB' (eB inFk (eV 6) (eV 2))) (sRet (eFk (eV 2) (eV 6))) sNil)
    (sSeq (sAsg (eC (.int 0)) (gN 3))
    (sSeq (sFor (iE (eV 7)) (gN 4)
    (sAsg (eB addD (eB mulD (eV 3) (eFdB "Meaning" "size" (eV 0))) (eMtB "Meaning" "value" g (eV 0) (aC (eV 4) (aC (eV 2) aN)))) (gN 3)))
    (sRet (eB ixD (eFk (eFdB "Meaning" "tables" (eV 0)) (eV 6)) (eV 3)))))))
noncomputable def F_Meaning_value : Nat → FF
  | 0 => fun _ _ => .no
  | l + 1 => defF 8 3 (b_Meaning_value (F_Meaning_value l))
noncomputable def b_Meaning_values : FS :=
    (sRet (eCb tupleD (aC (eLc (iGenM "Meaning" "rows" F_Meaning_rows (eV 0)) (gN 2) tYs (eMtB "Meaning" "value" (F_Meaning_value 14) (eV 0) (aC (eV 1) (aC (eFzK (eDcZ (aC (eFdB "Meaning" "inputs" (eV 0)) (aC (eV 2) aN)))) aN))) [2]) aN)))
noncomputable def F_Meaning_values : FF := defF 3 2 b_Meaning_values
noncomputable def b_value_of : FS :=
    (sSeq (sAsg (eFzI "Meaning" (eMk "Meaning" F_Meaning___init__ (aC (eV 0) aN))) (gN 3))
    (sSeq (sIf (tB' (eB neD (eCb lenD (aC (eV 2) aN)) (eCb lenD (aC (eB ixD (eV 0) (eC (.int 1))) aN)))) (Te.sRz2 "NotUsable" "word" "at" (aC (eC (.str "many")) (aC (eU negD (eC (.int 1))) aN))) sNil)
    (sSeq (sFor (iEn2 (aC (eV 2) aN)) (gT 2 (gC (gN 4) (gC (gN 5) gZ)))
    (sIf (tNo (tTr (eMtB "Meaning" "is_value" F_Meaning_is_value (eV 3) (aC (eV 5) aN)))) (Te.sRz2 "NotUsable" "word" "at" (aC (eC (.str "value")) (aC (eV 4) aN))) sNil))
    (sRet (eMtB "Meaning" "value" (F_Meaning_value 14) (eV 3) (aC (eV 1) (aC (eFzK (eDcZ (aC (eB ixD (eV 0) (eC (.int 1))) (aC (eV 2) aN)))) aN)))))))
noncomputable def F_value_of : FF := defF 6 3 b_value_of
noncomputable def b_table_of : FS :=
    (sRet (eMtB "Meaning" "values" F_Meaning_values (eFzI "Meaning" (eMk "Meaning" F_Meaning___init__ (aC (eV 0) aN))) (aC (eV 1) aN)))
noncomputable def F_table_of : FF := defF 2 2 b_table_of
noncomputable def b__law_reader : FS :=
    (sRet (eDisp (((eC (.str "cells")), (eCb listD (aC (eSl (eV 0) oN (oS (eC (.int 63)))) aN))) :: (((eC (.str "spot")), (eC (.int 0))) :: (((eC (.str "rest")), (eC (.int 0))) :: (((eC (.str "calls")), (eC (.int 0))) :: []))))))
noncomputable def F__law_reader : FF := defF 1 1 b__law_reader
noncomputable def b__law_draw : FS :=
    (sSeq (sAsg (eB addD (eDg (eV 0) (eC (.str "calls"))) (eC (.int 1))) (gN 2))
    (sSeq (sDp (eV 0) (eC (.str "calls")) (eV 2))
    (sSeq (sIf (tB' (eB gtD (eDg (eV 0) (eC (.str "rest"))) (eC (.int 0)))) (sSeq (sAsg (eB modD (eCb toInt (aC (eDg (eV 0) (eC (.str "rest"))) aN)) (eV 1)) (gN 7))
    (sSeq (sDp (eV 0) (eC (.str "rest")) (eB fdvD (eDg (eV 0) (eC (.str "rest"))) (eV 1)))
    (sRet (eV 7)))) sNil)
    (sSeq (sAsg (eDg (eV 0) (eC (.str "spot"))) (gN 3))
    (sSeq (sDp (eV 0) (eC (.str "spot")) (eB addD (eV 3) (eC (.int 1))))
    (sSeq (sAsg (eDg (eV 0) (eC (.str "cells"))) (gN 4))
    (sSeq (sAsg (eIf (tB' (eB gtD (eCb lenD (aC (eV 4) aN)) (eC (.int 0)))) (eB ixD (eV 4) (eB modD (eCb toInt (aC (eV 3) aN)) (eCb lenD (aC (eV 4) aN)))) (eC (.int 17))) (gN 5))
    (sSeq (sIf (tAn (tB' (eB ltD (eV 3) (eCb lenD (aC (eV 4) aN)))) (tB' (eB geD (eV 5) (eB powD (eC (.int 10)) (eC (.int 18)))))) (sSeq (sDp (eV 0) (eC (.str "rest")) (eB fdvD (eV 5) (eV 1)))
    (sRet (eB modD (eCb toInt (aC (eV 5) aN)) (eV 1)))) sNil)
    (sSeq (sAsg (eB modD (eCb toInt (aC (eB powD (eB addD (eB addD (eB modD (eCb toInt (aC (eV 5) aN)) (eC (.int 2147483629))) (eB mulD (eC (.int 6101)) (eV 2))) (eC (.int 37))) (eC (.int 5))) aN)) (eC (.int 2147483647))) (gN 6))
    (sRet (eB modD (eCb toInt (aC (eB fdvD (eB modD (eCb toInt (aC (eB powD (eB addD (eV 6) (eB mulD (eB mulD (eC (.int 4159)) (eV 2)) (eV 2))) (eC (.int 5))) aN)) (eC (.int 2147483587))) (eC (.int 32))) aN)) (eV 1))))))))))))
noncomputable def F__law_draw : FF := defF 8 2 b__law_draw
noncomputable def b__law_is_number : FS :=
    (sRet (eAn (eIsi "int" (eV 0)) (eAn (eNo (eIsi "bool" (eV 0))) (eB geD (eV 0) (eC (.int 0))))))
noncomputable def F__law_is_number : FF := defF 1 1 b__law_is_number
noncomputable def bH__law_class_flags_NotUsable (a dd : Addr) : FS :=
    (sSeq (sAsg (eLst (aC (Te.eIsE 0 a dd false) (aC (Te.eIsE 0 a dd false) (aC (Te.eIsE 0 a dd false) aN)))) (gN 1))
    (sSeq (sAsg (eB addD (eV 1) (eLst (aC (Te.eIsE 0 a dd false) (aC (Te.eIsE 0 a dd false) (aC (Te.eIsE 0 a dd true) aN))))) (gN 1))
    (sSeq (sAsg (eB addD (eV 1) (eLst (aC (Te.eIsE 0 a dd false) (aC (Te.eIsE 0 a dd false) aN)))) (gN 1))
    (sSeq (sAsg (eB addD (eV 1) (eLst (aC (Te.eIsE 0 a dd false) (aC (Te.eIsE 0 a dd false) aN)))) (gN 1))
    (sSeq (sAsg (eB addD (eV 1) (eLst (aC (Te.eIsE 0 a dd false) (aC (Te.eIsE 0 a dd true) (aC (Te.eIsE 0 a dd false) aN))))) (gN 1))
    (sRet (eB addD (eV 1) (eLst (aC (Te.eIsE 0 a dd false) (aC (Te.eIsE 0 a dd true) (aC (Te.eIsE 0 a dd true) aN)))))))))))
noncomputable def FH__law_class_flags_NotUsable (a dd : Addr) : FF := defF 2 1 (bH__law_class_flags_NotUsable a dd)
noncomputable def bH__law_own_flags_NotUsable (a dd : Addr) : FS :=
    (sSeq (sAsg (eLc (iR1 (aC (eC (.int 10)) aN)) (gN 2) tYs (eB eqD (eV 2) (eV 0)) [2]) (gN 1))
    (sRet (eB addD (eV 1) (eLst (aC (eB eqD (eV 0) (eC (.int 0))) (aC (eCh ltD ltD (eC (.int 0)) (eV 0) (eC (.int 6))) (aC (eCh ltD ltD (eC (.int 5)) (eV 0) (eC (.int 8))) (aC (eB gtD (eV 0) (eC (.int 7))) (aC (eC (.bool true)) (aC (eC (.bool true)) aN))))))))))
noncomputable def FH__law_own_flags_NotUsable (a dd : Addr) : FF := defF 3 1 (bH__law_own_flags_NotUsable a dd)
noncomputable def bH__law_fields_NotUsable (a dd : Addr) : FS :=
    (sSeq (sIf (tB' (eB eqD (eV 1) (eC (.int 0)))) (sRet (eTup (aC (eC (.str "paper")) (aC (Te.eFlE 0 a dd "word") (aC (Te.eFlE 0 a dd "at") aN))))) sNil)
    (sSeq (sIf (tB' (eB eqD (eV 1) (eC (.int 1)))) (sRet (eTup (aC (eC (.str "place")) (aC (fun _ _ => .no) aN)))) sNil)
    (sSeq (sIf (tB' (eB eqD (eV 1) (eC (.int 5)))) (sRet (eTup (aC (eC (.str "use")) (aC (Te.eFlE 0 a dd "word") (aC (Te.eFlE 0 a dd "at") aN))))) sNil)
    (sRet (eIf (tB' (eB eqD (eV 1) (eC (.int 8)))) (eTup (aC (eC (.str "text")) (aC (fun _ _ => .no) (aC (fun _ _ => .no) aN)))) (eTup (aC (eC (.str "other")) aN)))))))
noncomputable def FH__law_fields_NotUsable (a dd : Addr) : FF := defF 2 2 (bH__law_fields_NotUsable a dd)
noncomputable def bs__law_outcome_NotUsable (a dd : Addr) : FS :=
    (sSeq (sAsg (eCall (FH__law_class_flags_NotUsable a dd) [] (aC (eV 2) aN)) (gN 3))
    (sSeq (sAsg (eLc (iR1 (aC (eC (.int 10)) aN)) (gN 5) (tTr (eB ixD (eV 3) (eV 5))) (eV 5) [5]) (gN 4))
    (sIf (tAn (tB' (eB eqD (eCb lenD (aC (eV 4) aN)) (eC (.int 1)))) (tB' (eB eqD (eV 3) (eCall (FH__law_own_flags_NotUsable a dd) [] (aC (eB ixD (eV 4) (eC (.int 0))) aN))))) (sAsg (eCall (FH__law_fields_NotUsable a dd) [] (aC (eV 2) (aC (eB ixD (eV 4) (eC (.int 0))) aN))) (gN 1)) sNil)))
noncomputable def bS__law_outcome (n : Str) (a dd : Addr) : FS :=
    if n = "NotUsable" then bs__law_outcome_NotUsable a dd else fun _ _ => .no
noncomputable def outF__law_outcome : Str → List (Str × PyData) → Option (List PyData) := Te.outL [("NotUsable", fun fs => match fs with | [(n, d), (m, e)] => if n = "at" ∧ m = "word" then some [.str "use", e, d] else none | _ => none)]
noncomputable def Hg__law_outcome : Prop := ∀ n fs ds, outF__law_outcome n fs = some ds → ∀ (a dd : Addr) (w : Ws), ∃ ρ', bS__law_outcome n a dd ((List.replicate N__law_outcome.length none).set 2 (some (Te.exD a dd (fs.map (·.1)) (fs.map (·.2))))) w = .nx ρ' w ∧ ρ'[1]? = some (some (.tuple ds))
noncomputable def b__law_some : FS :=
    (sSeq (sAsg (eLsS (aC (eV 1) aN)) (gN 4))
    (sSeq (sAsg (eB addD (eV 2) (eCall F__law_draw [] (aC (eV 0) (aC (eB addD (eB subD (eV 3) (eV 2)) (eC (.int 1))) aN)))) (gN 5))
    (sSeq (sWh (tB' (eB gtD (eCb lenD (aC (eV 4) aN)) (eV 5)))
    (sExp (eLm paL (eV 4) (aC (eCall F__law_draw [] (aC (eV 0) (aC (eCb lenD (aC (eV 4) aN)) aN))) aN))))
    (sRet (eCb sortLD (aC (eV 4) aN))))))
noncomputable def F__law_some : FF := defF 6 4 b__law_some
noncomputable def b__law_power : FS :=
    (sSeq (sAsg (eC (.int 1)) (gN 2))
    (sSeq (sFor (iR1 (aC (eV 1) aN)) (gN 3)
    (sAsg (eB mulD (eV 2) (eV 0)) (gN 2)))
    (sRet (eV 2))))
noncomputable def F__law_power : FF := defF 4 2 b__law_power
noncomputable def b__law_random_tongue : FS :=
    (sSeq (sAsg (eB ixD (eLst (aC (eC (.int 2)) (aC (eC (.int 2)) (aC (eC (.int 3)) (aC (eC (.int 1)) aN))))) (eCall F__law_draw [] (aC (eV 0) (aC (eC (.int 4)) aN)))) (gN 1))
    (sSeq (sAsg (eLstS aN) (gN 2))
    (sSeq (sFor (iE (eCall F__law_some [] (aC (eV 0) (aC (eLst (aC (eC (.str "and")) (aC (eC (.str "f")) (aC (eC (.str "no")) (aC (eC (.str "or")) (aC (eC (.str "top")) (aC (eC (.str "zzzzzzzz")) aN))))))) (aC (eC (.int 1)) (aC (eC (.int 6)) aN)))))) (gN 3)
    (sSeq (sAsg (eB ixD (eLst (aC (eC (.int 2)) (aC (eC (.int 1)) (aC (eC (.int 0)) (aC (eC (.int 2)) aN))))) (eCall F__law_draw [] (aC (eV 0) (aC (eC (.int 4)) aN)))) (gN 5))
    (sSeq (sAsg (eCall F__law_power [] (aC (eV 1) (aC (eV 5) aN))) (gN 6))
    (sExp (eLm apL (eV 2) (aC (eTup (aC (eV 3) (aC (eV 5) (aC (eCb tupleD (aC (eLc (iR1 (aC (eV 6) aN)) (gN 8) tYs (eCall F__law_draw [] (aC (eV 0) (aC (eV 1) aN))) [8]) aN)) aN)))) aN))))))
    (sSeq (sFz 2) (sSeq (sAsg (eCall F__law_some [] (aC (eV 0) (aC (eLst (aC (eC (.str "a")) (aC (eC (.str "x")) (aC (eC (.str "y")) aN)))) (aC (eC (.int 0)) (aC (eC (.int 3)) aN))))) (gN 4))
    (sSeq (sIf (tAn (tB' (eB eqL (eV 4) (eLst aN))) (tB' (eB eqL (eLc (iE (eV 2)) (gN 7) (tB' (eB eqD (eB ixD (eV 7) (eC (.int 1))) (eC (.int 0)))) (eV 7) [7]) (eLst aN)))) (sAsg (eLst (aC (eC (.str "x")) aN)) (gN 4)) sNil)
    (sRet (eTup (aC (eV 1) (aC (eCb tupleD (aC (eV 4) aN)) (aC (eCb tupleD (aC (eV 2) aN)) aN)))))))))))
noncomputable def F__law_random_tongue : FF := defF 9 1 b__law_random_tongue
noncomputable def b__law_fixed_tongues : FS :=
    (sSeq (sAsg (eTup (aC (eTup (aC (eC (.str "and")) (aC (eC (.int 2)) (aC (eTup (aC (eC (.int 0)) (aC (eC (.int 0)) (aC (eC (.int 0)) (aC (eC (.int 1)) aN))))) aN)))) (aC (eTup (aC (eC (.str "no")) (aC (eC (.int 0)) (aC (eTup (aC (eC (.int 0)) aN)) aN)))) (aC (eTup (aC (eC (.str "not")) (aC (eC (.int 1)) (aC (eTup (aC (eC (.int 1)) (aC (eC (.int 0)) aN))) aN)))) (aC (eTup (aC (eC (.str "or")) (aC (eC (.int 2)) (aC (eTup (aC (eC (.int 0)) (aC (eC (.int 1)) (aC (eC (.int 1)) (aC (eC (.int 1)) aN))))) aN)))) aN))))) (gN 0))
    (sSeq (sAsg (eTup (aC (eC (.int 1)) (aC (eTup aN) (aC (eTup (aC (eTup (aC (eC (.str "no")) (aC (eC (.int 0)) (aC (eTup (aC (eC (.int 0)) aN)) aN)))) (aC (eTup (aC (eC (.str "up")) (aC (eC (.int 1)) (aC (eTup (aC (eC (.int 0)) aN)) aN)))) aN))) aN)))) (gN 1))
    (sSeq (sAsg (eTup (aC (eC (.int 3)) (aC (eTup (aC (eC (.str "x")) (aC (eC (.str "y")) aN))) (aC (eTup (aC (eTup (aC (eC (.str "max")) (aC (eC (.int 2)) (aC (eTup (aC (eC (.int 0)) (aC (eC (.int 1)) (aC (eC (.int 2)) (aC (eC (.int 1)) (aC (eC (.int 1)) (aC (eC (.int 2)) (aC (eC (.int 2)) (aC (eC (.int 2)) (aC (eC (.int 2)) aN)))))))))) aN)))) (aC (eTup (aC (eC (.str "up")) (aC (eC (.int 1)) (aC (eTup (aC (eC (.int 1)) (aC (eC (.int 2)) (aC (eC (.int 2)) aN)))) aN)))) aN))) aN)))) (gN 2))
    (sRet (eLstS (aC (eTup (aC (eC (.int 2)) (aC (eTup (aC (eC (.str "x")) (aC (eC (.str "y")) aN))) (aC (eV 0) aN)))) (aC (eV 1) (aC (eV 2) aN))))))))
noncomputable def F__law_fixed_tongues : FF := defF 3 0 b__law_fixed_tongues
noncomputable def b__law_random_notes : FS :=
    (sSeq (sAsg (eLst (aC (eC (.str "-a")) (aC (eC (.str "-idem")) (aC (eC (.str "=a")) (aC (eC (.str "=zzzzzzzz")) (aC (eC (.str "a")) (aC (eC (.str "odd")) (aC (eC (.str "why")) aN)))))))) (gN 1))
    (sSeq (sIf (tB' (eB eqD (eCall F__law_draw [] (aC (eV 0) (aC (eC (.int 2)) aN))) (eC (.int 0)))) (sRet (eTup aN)) sNil)
    (sRet (eCb tupleD (aC (eCall F__law_some [] (aC (eV 0) (aC (eV 1) (aC (eC (.int 0)) (aC (eC (.int 3)) aN))))) aN)))))
noncomputable def F__law_random_notes : FF := defF 2 1 b__law_random_notes
noncomputable def b__law_random_tree (g : FF) : FS :=
    (sSeq (sAsg (eB subD (eB ixD (eV 2) (eC (.int 0))) (eC (.int 1))) (gIx (eV 2) (eC (.int 0))))
    (sSeq (sAsg (eB addD (eCb listD (aC (eB ixD (eV 1) (eC (.int 1))) aN)) (eLc (iE (eB ixD (eV 1) (eC (.int 2)))) (gN 11) (tB' (eB eqD (eB ixD (eV 11) (eC (.int 1))) (eC (.int 0)))) (eB ixD (eV 11) (eC (.int 0))) [11])) (gN 3))
    (sSeq (sAsg (eLc (iE (eB ixD (eV 1) (eC (.int 2)))) (gN 11) (tB' (eCh ltD leD (eC (.int 0)) (eB ixD (eV 11) (eC (.int 1))) (eB ixD (eV 2) (eC (.int 0))))) (eV 11) [11]) (gN 4))
    (sSeq (sAsg (eCall F__law_random_notes [] (aC (eV 0) aN)) (gN 5))
    (sSeq (sIf (tOr' (tB' (eB eqL (eV 4) (eLst aN))) (tB' (eB eqD (eCall F__law_draw [] (aC (eV 0) (aC (eC (.int 4)) aN))) (eC (.int 0))))) (sRet (eTup (aC (eV 5) (aC (eB ixD (eV 3) (eCall F__law_draw [] (aC (eV 0) (aC (eCb lenD (aC (eV 3) aN)) aN)))) (aC (eTup aN) aN))))) sNil)
    (sSeq (sAsg (eB ixD (eV 4) (eCall F__law_draw [] (aC (eV 0) (aC (eCb lenD (aC (eV 4) aN)) aN)))) (gT 3 (gC (gN 8) (gC (gN 9) (gC (gN 10) gZ)))))
    (sSeq (sAsg (eB subD (eB ixD (eV 2) (eC (.int 0))) (eV 9)) (gIx (eV 2) (eC (.int 0))))
    (sSeq (sAsg (eLstS aN) (gN 6))
    (sSeq (sFor (iR1 (aC (eV 9) aN)) (gN 7)
    (sSeq (sAsg (eB addD (eB ixD (eV 2) (eC (.int 0))) (eC (.int 1))) (gIx (eV 2) (eC (.int 0))))
    (sExp (eLm apL (eV 6) (aC (eCall g [] (aC (eV 0) (aC (eV 1) (aC (eV 2) aN)))) aN)))))
    (sRet (eTup (aC (eV 5) (aC (eV 8) (aC (eCb tupleD (aC (eV 6) aN)) aN))))))))))))))
noncomputable def F__law_random_tree : Nat → FF
  | 0 => fun _ _ => .no
  | l + 1 => defF 12 3 (b__law_random_tree (F__law_random_tree l))
noncomputable def b__law_rows : FS :=
    (sSeq (sAsg (eLst (aC (eTup aN) aN)) (gN 2))
    (sSeq (sFor (iR1 (aC (eV 1) aN)) (gN 3)
    (sSeq (sAsg (eLst aN) (gN 4))
    (sSeq (sFor (iE (eV 2)) (gN 5)
    (sAsg (eB addD (eV 4) (eLc (iR1 (aC (eV 0) aN)) (gN 6) tYs (eB addD (eV 5) (eTup (aC (eV 6) aN))) [6])) (gN 4)))
    (sAsg (eV 4) (gN 2)))))
    (sRet (eV 2))))
noncomputable def F__law_rows : FF := defF 7 2 b__law_rows
noncomputable def b__law_worth (g : FF) : FS :=
    (sSeq (sAsg (eV 0) (gT 3 (gC (gN 5) (gC (gN 6) (gC (gN 7) gZ)))))
    (sSeq (sIf (tB' (eB inD (eB ixD (eV 1) (eC (.int 1))) (eV 6))) (sRet (eB ixD (eV 2) (eIx (eV 6) (eB ixD (eV 1) (eC (.int 1)))))) sNil)
    (sSeq (sAsg (eC (.int 0)) (gN 3))
    (sSeq (sFor (iE (eB ixD (eV 1) (eC (.int 2)))) (gN 4)
    (sAsg (eB addD (eB mulD (eV 3) (eV 5)) (eCall g [] (aC (eV 0) (aC (eV 4) (aC (eV 2) aN))))) (gN 3)))
    (sRet (eB ixD (eB ixD (eLc (iE (eV 7)) (gN 8) (tB' (eB eqD (eB ixD (eV 8) (eC (.int 0))) (eB ixD (eV 1) (eC (.int 1))))) (eB ixD (eV 8) (eC (.int 2))) [8]) (eC (.int 0))) (eV 3)))))))
noncomputable def F__law_worth : Nat → FF
  | 0 => fun _ _ => .no
  | l + 1 => defF 9 3 (b__law_worth (F__law_worth l))
noncomputable def b__law_due : FS :=
    (sSeq (sIf (tB' (eB neD (eCb lenD (aC (eV 2) aN)) (eCb lenD (aC (eB ixD (eV 0) (eC (.int 1))) aN)))) (sRet (eTup (aC (eC (.str "use")) (aC (eC (.str "many")) (aC (eU negD (eC (.int 1))) aN))))) sNil)
    (sSeq (sFor (iR1 (aC (eCb lenD (aC (eV 2) aN)) aN)) (gN 3)
    (sIf (tOr' (tNo (tTr (eCall F__law_is_number [] (aC (eB ixD (eV 2) (eV 3)) aN)))) (tB' (eB geD (eB ixD (eV 2) (eV 3)) (eB ixD (eV 0) (eC (.int 0)))))) (sRet (eTup (aC (eC (.str "use")) (aC (eC (.str "value")) (aC (eV 3) aN))))) sNil))
    (sRet (eTup (aC (eC (.str "result")) (aC (eCall (F__law_worth 14) [] (aC (eV 0) (aC (eV 1) (aC (eV 2) aN)))) aN))))))
noncomputable def F__law_due : FF := defF 4 3 b__law_due
noncomputable def b__law_odd_rows : FS :=
    (sSeq (sAsg (eLst (aC (eC (.int 0)) (aC (eB ixD (eV 1) (eC (.int 0))) (aC (eU negD (eC (.int 1))) (aC (eC (.bool true)) (aC (eC (.bool false)) (aC (eC .none) (aC (eC (.str "0")) (aC (eTup (aC (eC (.int 0)) aN)) (aC (eLst (aC (eC (.int 0)) aN)) (aC (eB powD (eC (.int 10)) (eC (.int 30))) aN))))))))))) (gN 2))
    (sSeq (sAsg (eLstS (aC (eB addD (eB mulD (eTup (aC (eC (.int 0)) aN)) (eCb lenD (aC (eB ixD (eV 1) (eC (.int 1))) aN))) (eTup (aC (eC (.int 0)) aN))) (aC (eB mulD (eTup (aC (eC .none) aN)) (eB addD (eCb lenD (aC (eB ixD (eV 1) (eC (.int 1))) aN)) (eC (.int 2)))) aN))) (gN 3))
    (sSeq (sAsg (eAdS (eV 3) (eLst (aC (eB mulD (eTup (aC (eC (.int 0)) aN)) (eCb max2D (aC (eC (.int 0)) (aC (eB subD (eCb lenD (aC (eB ixD (eV 1) (eC (.int 1))) aN)) (eC (.int 1))) aN)))) aN))) (gN 3))
    (sSeq (sFor (iR1 (aC (eC (.int 6)) aN)) (gN 4)
    (sExp (eLm apL (eV 3) (aC (eCb tupleD (aC (eLc (iE (eB ixD (eV 1) (eC (.int 1)))) (gN 5) tYs (eB ixD (eV 2) (eCall F__law_draw [] (aC (eV 0) (aC (eB ixD (eLst (aC (eC (.int 2)) (aC (eC (.int 10)) aN))) (eCall F__law_draw [] (aC (eV 0) (aC (eC (.int 2)) aN)))) aN)))) [5]) aN)) aN))))
    (sRet (eFz (eV 3)))))))
noncomputable def F__law_odd_rows : FF := defF 6 2 b__law_odd_rows
noncomputable def b_law : FS :=
    (sSeq (sAsg (eCall F__law_reader [] (aC (eV 0) aN)) (gN 1))
    (sSeq (sAsg (eCall F__law_fixed_tongues [] aN) (gN 2))
    (sSeq (sFor (iR1 (aC (eC (.int 5)) aN)) (gN 3)
    (sExp (eLm apL (eV 2) (aC (eCall F__law_random_tongue [] (aC (eV 1) aN)) aN))))
    (sSeq (sFz 2) (sSeq (sFor (iE (eV 2)) (gN 4)
    (sSeq (sAsg (eCall F__law_rows [] (aC (eB ixD (eV 4) (eC (.int 0))) (aC (eCb lenD (aC (eB ixD (eV 4) (eC (.int 1))) aN)) aN))) (gN 5))
    (sFor (iR1 (aC (eC (.int 3)) aN)) (gN 3)
    (sSeq (sAsg (eCall (F__law_random_tree 14) [] (aC (eV 1) (aC (eV 4) (aC (eLstS (aC (eB addD (eC (.int 1)) (eCall F__law_draw [] (aC (eV 1) (aC (eC (.int 12)) aN)))) aN)) aN)))) (gN 6))
    (sSeq (sAsg (eCb reprD (aC (eLst (aC (eV 4) (aC (eV 6) aN))) aN)) (gN 7))
    (sSeq (sIf (tB' (eB neD (eCb reprD (aC (eCall F_table_of [] (aC (eV 4) (aC (eV 6) aN))) aN)) (eCb reprD (aC (eCb tupleD (aC (eLc (iE (eV 5)) (gN 8) tYs (eCall (F__law_worth 14) [] (aC (eV 4) (aC (eV 6) (aC (eV 8) aN)))) [8]) aN)) aN)))) (sRet (eC (.bool false))) sNil)
    (sSeq (sFor (iE (eB addD (eSt (eV 5) (oS (eCall F__law_draw [] (aC (eV 1) (aC (eC (.int 3)) aN)))) oN 3) (eCall F__law_odd_rows [] (aC (eV 1) (aC (eV 4) aN))))) (gN 8)
    (sSeq (sAsg (Te.eOut outF__law_outcome (eCall F_value_of [] (aC (eV 4) (aC (eV 6) (aC (eV 8) aN))))) (gN 9))
    (sIf (tB' (eB neD (eCb reprD (aC (eV 9) aN)) (eCb reprD (aC (eCall F__law_due [] (aC (eV 4) (aC (eV 6) (aC (eV 8) aN)))) aN)))) (sRet (eC (.bool false))) sNil)))
    (sIf (tB' (eB neD (eCb reprD (aC (eLst (aC (eV 4) (aC (eV 6) aN))) aN)) (eV 7))) (sRet (eC (.bool false))) sNil))))))))
    (sRet (eC (.bool true))))))))
noncomputable def F_law : FF := defF 10 1 b_law
structure Bx {P : Program} {K : PySem.W.Frag} {mg : Str → Option Value} (T : Tx P K mg) (base : Heap) : Prop where
  b_law : LamX.TabB base mg T.l_law.c T.l_law.P
  h__law_outcome : Hg__law_outcome
section
variable {P : Program} {w : World} {K : PySem.W.Frag} {mg : Str → Option Value} {base : Heap}
theorem sc_is_integer : FnScope N_is_integer P_is_integer (defScope s_is_integer) := ⟨rfl, rfl, rfl, by decide +kernel, rfl, by decide +kernel, by decide +kernel⟩
theorem G_is_integer (T : Tx P K mg) : Gx P w K mg base 1 T.d_is_integer F_is_integer := by
  refine gx_of _ sc_is_integer fun cdv A outer s H E hr hg => ?_
  have nd := sc_is_integer.nd
  have tk := tkX (P := P) (w := w) (K := K) (mg := mg) (base := base) (x := "is_integer") (st := s_is_integer) (N := N_is_integer) (f := T.d_is_integer.f) (cdv := cdv) (A := A) (outer := outer) (s := s) (H := H) (E := E)
  have po := poX (P := P) (w := w) (K := K) (mg := mg) (base := base) (x := "is_integer") (st := s_is_integer) (N := N_is_integer) (f := T.d_is_integer.f) (cdv := cdv) (A := A) (outer := outer) (s := s) (H := H) (E := E)
  exact (pssf_one (psf_ret (pf_and (pf_isi (T := "int") (pf_var 0) (by rfl) T.b_isinstance (by rfl) T.b_int (by decide +kernel)) (pf_one (pf_not (pf_isi (T := "bool") (pf_var 0) (by rfl) T.b_isinstance (by rfl) T.b_bool (by decide +kernel)))))))
theorem sc_is_number : FnScope N_is_number P_is_number (defScope s_is_number) := ⟨rfl, rfl, rfl, by decide +kernel, rfl, by decide +kernel, by decide +kernel⟩
theorem G_is_number (T : Tx P K mg) : Gx P w K mg base 2 T.d_is_number F_is_number := by
  have G_is_integer := G_is_integer (P := P) (w := w) (base := base) T
  refine gx_of _ sc_is_number fun cdv A outer s H E hr hg => ?_
  have nd := sc_is_number.nd
  have tk := tkX (P := P) (w := w) (K := K) (mg := mg) (base := base) (x := "is_number") (st := s_is_number) (N := N_is_number) (f := T.d_is_number.f) (cdv := cdv) (A := A) (outer := outer) (s := s) (H := H) (E := E)
  have po := poX (P := P) (w := w) (K := K) (mg := mg) (base := base) (x := "is_number") (st := s_is_number) (N := N_is_number) (f := T.d_is_number.f) (cdv := cdv) (A := A) (outer := outer) (s := s) (H := H) (E := E)
  exact (pssf_one (psf_ret (pf_and (pf_callR G_is_integer (hr.mono (by decide)) hg (by rfl) tk (paf_cons (pf_var 0) paf_nil)) (pf_one (pf_cmp op_geD (pf_var 0) pf_int)))))
theorem sc_Meaning___init__ : FnScope N_Meaning___init__ P_Meaning___init__ (defScope s_Meaning___init__) := ⟨rfl, rfl, rfl, by decide +kernel, rfl, by decide +kernel, by decide +kernel⟩
theorem G_Meaning___init__ (T : Tx P K mg) : Gm P w K mg base 1 T.m_Meaning___init__.f T.m_Meaning___init__.fd P_Meaning___init__ F_Meaning___init__ := by
  refine gm_of T.m_Meaning___init__.fn sc_Meaning___init__ fun cdv A outer s H E hr hg => ?_
  have nd := sc_Meaning___init__.nd
  have tk := tkX (P := P) (w := w) (K := K) (mg := mg) (base := base) (x := "Meaning.__init__") (st := s_Meaning___init__) (N := N_Meaning___init__) (f := T.m_Meaning___init__.f) (cdv := cdv) (A := A) (outer := outer) (s := s) (H := H) (E := E)
  have po := poX (P := P) (w := w) (K := K) (mg := mg) (base := base) (x := "Meaning.__init__") (st := s_Meaning___init__) (N := N_Meaning___init__) (f := T.m_Meaning___init__.f) (cdv := cdv) (A := A) (outer := outer) (s := s) (H := H) (E := E)
  exact (pssf_cons (psf_asg (pf_var 1) (pgf_tup rfl (pgsf_cons (pgf_fld T.k_Meaning T.nf_Meaning_size (pf_var 0)) (pgsf_cons (pgf_fld T.k_Meaning T.nf_Meaning_inputs (pf_var 0)) (pgsf_cons (pgf_name (i := 2) nd rfl (by first | exact Or.inl rfl | exact Or.inr rfl)) pgsf_nil)))))
    (pssf_one (psf_fld T.k_Meaning T.nf_Meaning_tables (pf_var 0) (pf_fzK (pf_dc (own := [("name", 3), ("arity", 4), ("table", 5)]) rfl nd (pif_any (pf_var 2)) (blkOk_by (own := [("name", 3), ("arity", 4), ("table", 5)]) (N := N_Meaning___init__) (sc := defScope s_Meaning___init__) (by decide +kernel)) (fun _ _ _ _ _ => (pgf_tup rfl (pgsf_cons (pgf_name (i := 3) nd rfl (by first | exact Or.inl rfl | exact Or.inr rfl)) (pgsf_cons (pgf_name (i := 4) nd rfl (by first | exact Or.inl rfl | exact Or.inr rfl)) (pgsf_cons (pgf_name (i := 5) nd rfl (by first | exact Or.inl rfl | exact Or.inr rfl)) pgsf_nil))))) (fun _ _ _ _ _ => ptsf_nil) (fun _ _ _ _ _ => (pf_var 3)) (fun _ _ _ _ _ => (pf_var 5)))))))
theorem sc_Meaning_is_value : FnScope N_Meaning_is_value P_Meaning_is_value (defScope s_Meaning_is_value) := ⟨rfl, rfl, rfl, by decide +kernel, rfl, by decide +kernel, by decide +kernel⟩
theorem G_Meaning_is_value (T : Tx P K mg) : Gm P w K mg base 3 T.m_Meaning_is_value.f T.m_Meaning_is_value.fd P_Meaning_is_value F_Meaning_is_value := by
  have G_is_number := G_is_number (P := P) (w := w) (base := base) T
  refine gm_of T.m_Meaning_is_value.fn sc_Meaning_is_value fun cdv A outer s H E hr hg => ?_
  have nd := sc_Meaning_is_value.nd
  have tk := tkX (P := P) (w := w) (K := K) (mg := mg) (base := base) (x := "Meaning.is_value") (st := s_Meaning_is_value) (N := N_Meaning_is_value) (f := T.m_Meaning_is_value.f) (cdv := cdv) (A := A) (outer := outer) (s := s) (H := H) (E := E)
  have po := poX (P := P) (w := w) (K := K) (mg := mg) (base := base) (x := "Meaning.is_value") (st := s_Meaning_is_value) (N := N_Meaning_is_value) (f := T.m_Meaning_is_value.f) (cdv := cdv) (A := A) (outer := outer) (s := s) (H := H) (E := E)
  exact (pssf_one (psf_ret (pf_and (pf_callR G_is_number (hr.mono (by decide)) hg (by rfl) tk (paf_cons (pf_var 1) paf_nil)) (pf_one (pf_cmp op_ltD (pf_var 1) (pf_fldB T.k_Meaning T.nf_Meaning_size (pf_var 0)))))))
theorem sc_Meaning_rows : GScope N_Meaning_rows P_Meaning_rows (defScope s_Meaning_rows) := ⟨rfl, rfl, rfl, by decide +kernel, rfl, by decide +kernel, by decide +kernel⟩
theorem G_Meaning_rows (T : Tx P K mg) : GnF P w K mg base 2 T.m_Meaning_rows.f T.m_Meaning_rows.fd P_Meaning_rows F_Meaning_rows := by
  refine gnf_of (k := 0) (N := N_Meaning_rows) T.m_Meaning_rows.fn sc_Meaning_rows fun c e1 e2 e3 e4 e5 e6 e7 e8 e9 hr hg => ?_
  obtain ⟨P0, w0, K0, mg0, base0, NN, qual0, scope0, f0, cd0, outer0, A0, n0, pn0⟩ := c
  simp only at e1 e2 e3 e4 e5 e6 e7 e8 e9
  subst e1 e2 e3 e4 e5 e6 e7 e8 e9
  have nd := sc_Meaning_rows.nd
  exact (gjs_cons (gj_pl fun _ _ _ => (psf_set (i := 1) nd rfl (by first | exact Or.inl rfl | exact Or.inr rfl) (pf_lst (paf_cons (pf_tup paf_nil) paf_nil))))
    (gjs_cons (gj_pl fun _ _ _ => (psf_for PassesOwn.never rfl (pif_any (pf_fldB T.k_Meaning T.nf_Meaning_inputs (pf_var 0))) (pgf_name (i := 2) nd rfl (by first | exact Or.inl rfl | exact Or.inr rfl))
    (pssf_one (psf_setLc2 (i := 1) (own := [("row", 3), ("value", 4)]) (vs1 := [4]) rfl nd rfl rfl (sw_true rfl rfl rfl (by decide +kernel)) (pif_any (pf_var 1)) (blkOk_by (own := [("row", 3), ("value", 4)]) (N := N_Meaning_rows) (sc := defScope s_Meaning_rows) (by decide +kernel)) (fun _ _ _ _ _ => (pgf_name (i := 3) nd rfl (by first | exact Or.inl rfl | exact Or.inr rfl))) (fun _ _ _ _ _ => (pif_range1 (by rfl) T.b_range (paf_cons (pf_fldB T.k_Meaning T.nf_Meaning_size (pf_var 0)) paf_nil))) (fun _ _ _ _ _ => (pgf_name (i := 4) nd rfl (by first | exact Or.inl rfl | exact Or.inr rfl))) (fun _ _ _ _ _ => (pf_tup (paf_star (pf_var 3) (paf_cons (pf_var 4) paf_nil))))))))
    (gjs_cons (gj_for (fun _ _ _ => (pif_any (pf_var 1))) (fun _ _ _ => (pgf_name (i := 3) nd rfl (by first | exact Or.inl rfl | exact Or.inr rfl)))
    (gjs_cons (gj_yd (fun _ _ _ => (pf_var 3)) rfl)
    gjs_nil app_nil) (app_sq (app_yd _) app_nil))
    gjs_nil app_nil) (app_sq (app_fr (app_sq (app_yd _) app_nil)) app_nil)) (app_sq (app_pl _) (app_sq (app_fr (app_sq (app_yd _) app_nil)) app_nil)))
theorem sc_Meaning_value : FnScope N_Meaning_value P_Meaning_value (defScope s_Meaning_value) := ⟨rfl, rfl, rfl, by decide +kernel, rfl, by decide +kernel, by decide +kernel⟩
theorem G_Meaning_value (T : Tx P K mg) : ∀ l, Gm P w K mg base (0 + l) T.m_Meaning_value.f T.m_Meaning_value.fd P_Meaning_value (F_Meaning_value l)
  | 0 => gm_no
  | l + 1 => by
    have G := G_Meaning_value T l
    refine gm_of (k := 0 + l) T.m_Meaning_value.fn sc_Meaning_value fun cdv A outer s H E hr hg => ?_
    have nd := sc_Meaning_value.nd
    have tk := tkX (P := P) (w := w) (K := K) (mg := mg) (base := base) (x := "Meaning.value") (st := s_Meaning_value) (N := N_Meaning_value) (f := T.m_Meaning_value.f) (cdv := cdv) (A := A) (outer := outer) (s := s) (H := H) (E := E)
    have po := poX (P := P) (w := w) (K := K) (mg := mg) (base := base) (x := "Meaning.value") (st := s_Meaning_value) (N := N_Meaning_value) (f := T.m_Meaning_value.f) (cdv := cdv) (A := A) (outer := outer) (s := s) (H := H) (E := E)
    exact (pssf_cons (psf_asg (pf_var 1) (pgf_tup rfl (pgsf_cons (pgf_name (i := 5) nd rfl (by first | exact Or.inl rfl | exact Or.inr rfl)) (pgsf_cons (pgf_name (i := 6) nd rfl (by first | exact Or.inl rfl | exact Or.inr rfl)) (pgsf_cons (pgf_name (i := 7) nd rfl (by first | exact Or.inl rfl | exact Or.inr rfl)) pgsf_nil)))))
    (pssf_cons (psf_if (ptf_cmp (op_inFk (hu1 hr)) (pf_var 6) (pf_var 2)) (pssf_one (psf_ret (pf_fkget (hu1 hr) (pf_var 2) (pf_var 6)))) pssf_nil)
    (pssf_cons (psf_set (i := 3) nd rfl (by first | exact Or.inl rfl | exact Or.inr rfl) pf_int)
    (pssf_cons (psf_for po rfl (pif_any (pf_var 7)) (pgf_name (i := 4) nd rfl (by first | exact Or.inl rfl | exact Or.inr rfl))
    (pssf_one (psf_set (i := 3) nd rfl (by first | exact Or.inl rfl | exact Or.inr rfl) (pf_bin op_addD (pf_bin op_mulD (pf_var 3) (pf_fldB T.k_Meaning T.nf_Meaning_size (pf_var 0))) (pf_methB (M := T.m_Meaning_value) G (hr.mono (by omega)) hg tk (pf_var 0) (paf_cons (pf_var 4) (paf_cons (pf_var 2) paf_nil)))))))
    (pssf_one (psf_ret (pf_ix (pf_fkget (hu1 hr) (pf_fldB T.k_Meaning T.nf_Meaning_tables (pf_var 0)) (pf_var 6)) (pf_var 3))))))))
theorem sc_Meaning_values : FnScope N_Meaning_values P_Meaning_values (defScope s_Meaning_values) := ⟨rfl, rfl, rfl, by decide +kernel, rfl, by decide +kernel, by decide +kernel⟩
theorem G_Meaning_values (T : Tx P K mg) : Gm P w K mg base 15 T.m_Meaning_values.f T.m_Meaning_values.fd P_Meaning_values F_Meaning_values := by
  have G_Meaning_value := G_Meaning_value (P := P) (w := w) (base := base) T 14
  have G_Meaning_rows := G_Meaning_rows (P := P) (w := w) (base := base) T
  refine gm_of T.m_Meaning_values.fn sc_Meaning_values fun cdv A outer s H E hr hg => ?_
  have nd := sc_Meaning_values.nd
  have tk := tkX (P := P) (w := w) (K := K) (mg := mg) (base := base) (x := "Meaning.values") (st := s_Meaning_values) (N := N_Meaning_values) (f := T.m_Meaning_values.f) (cdv := cdv) (A := A) (outer := outer) (s := s) (H := H) (E := E)
  have po := poX (P := P) (w := w) (K := K) (mg := mg) (base := base) (x := "Meaning.values") (st := s_Meaning_values) (N := N_Meaning_values) (f := T.m_Meaning_values.f) (cdv := cdv) (A := A) (outer := outer) (s := s) (H := H) (E := E)
  exact (pssf_one (psf_ret (pf_callTy call_tupleX (by rfl) T.b_tuple (by decide +kernel) (paf_cons (pf_lcGc (own := [("row", 2)]) rfl nd rfl (genC_meth0 (k := 2) (M := T.m_Meaning_rows) (by exact G_Meaning_rows) (hr.mono (by decide)) (pf_var 0)) (hr.mono (by decide)) hg (blkOk_by (own := [("row", 2)]) (N := N_Meaning_values) (sc := defScope s_Meaning_values) (by decide +kernel)) (by decide +kernel) (fun _ _ _ _ _ => (pgf_name (i := 2) nd rfl (by first | exact Or.inl rfl | exact Or.inr rfl))) (fun _ _ _ _ _ => ptsf_nil) (fun _ _ _ _ _ => (pf_methB (M := T.m_Meaning_value) G_Meaning_value (hr.mono (by decide)) hg takesW0 (pf_var 0) (paf_cons (pf_var 1) (paf_cons (pf_fzK (pf_dcZ rfl (by rfl) T.b_dict (by decide +kernel) (by rfl) T.b_zip (by decide +kernel) (paf_cons (pf_fldB T.k_Meaning T.nf_Meaning_inputs (pf_var 0)) (paf_cons (pf_var 2) paf_nil)))) paf_nil))))) paf_nil))))
theorem sc_value_of : FnScope N_value_of P_value_of (defScope s_value_of) := ⟨rfl, rfl, rfl, by decide +kernel, rfl, by decide +kernel, by decide +kernel⟩
theorem G_value_of (T : Tx P K mg) : Gx P w K mg base 15 T.d_value_of F_value_of := by
  have G_Meaning___init__ := G_Meaning___init__ (P := P) (w := w) (base := base) T
  have G_Meaning_value := G_Meaning_value (P := P) (w := w) (base := base) T 14
  have G_Meaning_is_value := G_Meaning_is_value (P := P) (w := w) (base := base) T
  refine gx_of _ sc_value_of fun cdv A outer s H E hr hg => ?_
  have nd := sc_value_of.nd
  have tk := tkX (P := P) (w := w) (K := K) (mg := mg) (base := base) (x := "value_of") (st := s_value_of) (N := N_value_of) (f := T.d_value_of.f) (cdv := cdv) (A := A) (outer := outer) (s := s) (H := H) (E := E)
  have po := poX (P := P) (w := w) (K := K) (mg := mg) (base := base) (x := "value_of") (st := s_value_of) (N := N_value_of) (f := T.d_value_of.f) (cdv := cdv) (A := A) (outer := outer) (s := s) (H := H) (E := E)
  exact (pssf_cons (psf_set (i := 3) nd rfl (by first | exact Or.inl rfl | exact Or.inr rfl) (pf_fzI (c := "Meaning") (pf_mk (D := T.k_Meaning) T.mk_Meaning G_Meaning___init__ (hr.mono (by decide)) hg T.m_Meaning___init__.bd (by rfl) tk (paf_cons (pf_var 0) paf_nil))))
    (pssf_cons (psf_if (ptf_cmp (op_neD' (hu64 hr)) (pf_callB call_lenX (by rfl) T.b_len (by decide +kernel) (paf_cons (pf_var 2) paf_nil)) (pf_callB call_lenX (by rfl) T.b_len (by decide +kernel) (paf_cons (pf_ix (pf_var 0) pf_int) paf_nil))) (pssf_one (Te.psf_raiseE2 T.x_NotUsable rfl tk (hr.mono (by decide)) (by rfl) (paf_cons pf_str (paf_cons (pf_un un_negD pf_int) paf_nil)))) pssf_nil)
    (pssf_cons (psf_for po rfl (pif_enum2 (by rfl) T.b_enumerate (paf_cons (pf_var 2) paf_nil)) (pgf_tup rfl (pgsf_cons (pgf_name (i := 4) nd rfl (by first | exact Or.inl rfl | exact Or.inr rfl)) (pgsf_cons (pgf_name (i := 5) nd rfl (by first | exact Or.inl rfl | exact Or.inr rfl)) pgsf_nil)))
    (pssf_one (psf_if (ptf_not (ptf_tru (pf_methB (M := T.m_Meaning_is_value) G_Meaning_is_value (hr.mono (by decide)) hg tk (pf_var 3) (paf_cons (pf_var 5) paf_nil)))) (pssf_one (Te.psf_raiseE2 T.x_NotUsable rfl tk (hr.mono (by decide)) (by rfl) (paf_cons pf_str (paf_cons (pf_var 4) paf_nil)))) pssf_nil)))
    (pssf_one (psf_ret (pf_methB (M := T.m_Meaning_value) G_Meaning_value (hr.mono (by decide)) hg tk (pf_var 3) (paf_cons (pf_var 1) (paf_cons (pf_fzK (pf_dcZ rfl (by rfl) T.b_dict (by decide +kernel) (by rfl) T.b_zip (by decide +kernel) (paf_cons (pf_ix (pf_var 0) pf_int) (paf_cons (pf_var 2) paf_nil)))) paf_nil))))))))
theorem sc_table_of : FnScope N_table_of P_table_of (defScope s_table_of) := ⟨rfl, rfl, rfl, by decide +kernel, rfl, by decide +kernel, by decide +kernel⟩
theorem G_table_of (T : Tx P K mg) : Gx P w K mg base 16 T.d_table_of F_table_of := by
  have G_Meaning_values := G_Meaning_values (P := P) (w := w) (base := base) T
  have G_Meaning___init__ := G_Meaning___init__ (P := P) (w := w) (base := base) T
  refine gx_of _ sc_table_of fun cdv A outer s H E hr hg => ?_
  have nd := sc_table_of.nd
  have tk := tkX (P := P) (w := w) (K := K) (mg := mg) (base := base) (x := "table_of") (st := s_table_of) (N := N_table_of) (f := T.d_table_of.f) (cdv := cdv) (A := A) (outer := outer) (s := s) (H := H) (E := E)
  have po := poX (P := P) (w := w) (K := K) (mg := mg) (base := base) (x := "table_of") (st := s_table_of) (N := N_table_of) (f := T.d_table_of.f) (cdv := cdv) (A := A) (outer := outer) (s := s) (H := H) (E := E)
  exact (pssf_one (psf_ret (pf_methB (M := T.m_Meaning_values) G_Meaning_values (hr.mono (by decide)) hg tk (pf_fzI (c := "Meaning") (pf_mk (D := T.k_Meaning) T.mk_Meaning G_Meaning___init__ (hr.mono (by decide)) hg T.m_Meaning___init__.bd (by rfl) tk (paf_cons (pf_var 0) paf_nil))) (paf_cons (pf_var 1) paf_nil))))
theorem sc__law_reader : FnScope N__law_reader P__law_reader (defScope s__law_reader) := ⟨rfl, rfl, rfl, by decide +kernel, rfl, by decide +kernel, by decide +kernel⟩
theorem G__law_reader (T : Tx P K mg) : Gx P w K mg base 1 T.d__law_reader F__law_reader := by
  refine gx_of _ sc__law_reader fun cdv A outer s H E hr hg => ?_
  have nd := sc__law_reader.nd
  have tk := tkX (P := P) (w := w) (K := K) (mg := mg) (base := base) (x := "_law_reader") (st := s__law_reader) (N := N__law_reader) (f := T.d__law_reader.f) (cdv := cdv) (A := A) (outer := outer) (s := s) (H := H) (E := E)
  have po := poX (P := P) (w := w) (K := K) (mg := mg) (base := base) (x := "_law_reader") (st := s__law_reader) (N := N__law_reader) (f := T.d__law_reader.f) (cdv := cdv) (A := A) (outer := outer) (s := s) (H := H) (E := E)
  exact (pssf_one (psf_ret (pf_disp (fps := (((eC (.str "cells")), (eCb listD (aC (eSl (eV 0) oN (oS (eC (.int 63)))) aN))) :: (((eC (.str "spot")), (eC (.int 0))) :: (((eC (.str "rest")), (eC (.int 0))) :: (((eC (.str "calls")), (eC (.int 0))) :: []))))) (ppsf_cons pf_str (pf_callTy call_listX (by rfl) T.b_list (by decide +kernel) (paf_cons (pf_slice (pf_var 0) pof_none (pof_some pf_int)) paf_nil)) (ppsf_cons pf_str pf_int (ppsf_cons pf_str pf_int (ppsf_cons pf_str pf_int ppsf_nil)))))))
theorem sc__law_draw : FnScope N__law_draw P__law_draw (defScope s__law_draw) := ⟨rfl, rfl, rfl, by decide +kernel, rfl, by decide +kernel, by decide +kernel⟩
theorem G__law_draw (T : Tx P K mg) : Gx P w K mg base 1 T.d__law_draw F__law_draw := by
  refine gx_of _ sc__law_draw fun cdv A outer s H E hr hg => ?_
  have nd := sc__law_draw.nd
  have tk := tkX (P := P) (w := w) (K := K) (mg := mg) (base := base) (x := "_law_draw") (st := s__law_draw) (N := N__law_draw) (f := T.d__law_draw.f) (cdv := cdv) (A := A) (outer := outer) (s := s) (H := H) (E := E)
  have po := poX (P := P) (w := w) (K := K) (mg := mg) (base := base) (x := "_law_draw") (st := s__law_draw) (N := N__law_draw) (f := T.d__law_draw.f) (cdv := cdv) (A := A) (outer := outer) (s := s) (H := H) (E := E)
  exact (pssf_cons (psf_set (i := 2) nd rfl (by first | exact Or.inl rfl | exact Or.inr rfl) (pf_bin op_addD (pf_dget (hu1 hr) (pf_var 0) pf_str) pf_int))
    (pssf_cons (psf_dput (hu1 hr) (pf_var 0) pf_str (pf_var 2))
    (pssf_cons (psf_if (ptf_cmp op_gtD (pf_dget (hu1 hr) (pf_var 0) pf_str) pf_int) (pssf_cons (psf_set (i := 7) nd rfl (by first | exact Or.inl rfl | exact Or.inr rfl) (pf_bin op_modD (pf_callTy call_intX (by rfl) T.b_int (by decide +kernel) (paf_cons (pf_dget (hu1 hr) (pf_var 0) pf_str) paf_nil)) (pf_var 1)))
    (pssf_cons (psf_dput (hu1 hr) (pf_var 0) pf_str (pf_bin op_fdvD (pf_dget (hu1 hr) (pf_var 0) pf_str) (pf_var 1)))
    (pssf_one (psf_ret (pf_var 7))))) pssf_nil)
    (pssf_cons (psf_set (i := 3) nd rfl (by first | exact Or.inl rfl | exact Or.inr rfl) (pf_dget (hu1 hr) (pf_var 0) pf_str))
    (pssf_cons (psf_dput (hu1 hr) (pf_var 0) pf_str (pf_bin op_addD (pf_var 3) pf_int))
    (pssf_cons (psf_set (i := 4) nd rfl (by first | exact Or.inl rfl | exact Or.inr rfl) (pf_dget (hu1 hr) (pf_var 0) pf_str))
    (pssf_cons (psf_set (i := 5) nd rfl (by first | exact Or.inl rfl | exact Or.inr rfl) (pf_ifx (ptf_cmp op_gtD (pf_callB call_lenX (by rfl) T.b_len (by decide +kernel) (paf_cons (pf_var 4) paf_nil)) pf_int) (pf_ix (pf_var 4) (pf_bin op_modD (pf_callTy call_intX (by rfl) T.b_int (by decide +kernel) (paf_cons (pf_var 3) paf_nil)) (pf_callB call_lenX (by rfl) T.b_len (by decide +kernel) (paf_cons (pf_var 4) paf_nil)))) pf_int))
    (pssf_cons (psf_if (ptf_w (pwf_and (ptf_cmp op_ltD (pf_var 3) (pf_callB call_lenX (by rfl) T.b_len (by decide +kernel) (paf_cons (pf_var 4) paf_nil))) (pwf_and1 (ptf_cmp op_geD (pf_var 5) (pf_bin op_powD pf_int pf_int))))) (pssf_cons (psf_dput (hu1 hr) (pf_var 0) pf_str (pf_bin op_fdvD (pf_var 5) (pf_var 1)))
    (pssf_one (psf_ret (pf_bin op_modD (pf_callTy call_intX (by rfl) T.b_int (by decide +kernel) (paf_cons (pf_var 5) paf_nil)) (pf_var 1))))) pssf_nil)
    (pssf_cons (psf_set (i := 6) nd rfl (by first | exact Or.inl rfl | exact Or.inr rfl) (pf_bin op_modD (pf_callTy call_intX (by rfl) T.b_int (by decide +kernel) (paf_cons (pf_bin op_powD (pf_bin op_addD (pf_bin op_addD (pf_bin op_modD (pf_callTy call_intX (by rfl) T.b_int (by decide +kernel) (paf_cons (pf_var 5) paf_nil)) pf_int) (pf_bin op_mulD pf_int (pf_var 2))) pf_int) pf_int) paf_nil)) pf_int))
    (pssf_one (psf_ret (pf_bin op_modD (pf_callTy call_intX (by rfl) T.b_int (by decide +kernel) (paf_cons (pf_bin op_fdvD (pf_bin op_modD (pf_callTy call_intX (by rfl) T.b_int (by decide +kernel) (paf_cons (pf_bin op_powD (pf_bin op_addD (pf_var 6) (pf_bin op_mulD (pf_bin op_mulD pf_int (pf_var 2)) (pf_var 2))) pf_int) paf_nil)) pf_int) pf_int) paf_nil)) (pf_var 1)))))))))))))
theorem sc__law_is_number : FnScope N__law_is_number P__law_is_number (defScope s__law_is_number) := ⟨rfl, rfl, rfl, by decide +kernel, rfl, by decide +kernel, by decide +kernel⟩
theorem G__law_is_number (T : Tx P K mg) : Gx P w K mg base 1 T.d__law_is_number F__law_is_number := by
  refine gx_of _ sc__law_is_number fun cdv A outer s H E hr hg => ?_
  have nd := sc__law_is_number.nd
  have tk := tkX (P := P) (w := w) (K := K) (mg := mg) (base := base) (x := "_law_is_number") (st := s__law_is_number) (N := N__law_is_number) (f := T.d__law_is_number.f) (cdv := cdv) (A := A) (outer := outer) (s := s) (H := H) (E := E)
  have po := poX (P := P) (w := w) (K := K) (mg := mg) (base := base) (x := "_law_is_number") (st := s__law_is_number) (N := N__law_is_number) (f := T.d__law_is_number.f) (cdv := cdv) (A := A) (outer := outer) (s := s) (H := H) (E := E)
  exact (pssf_one (psf_ret (pf_and (pf_isi (T := "int") (pf_var 0) (by rfl) T.b_isinstance (by rfl) T.b_int (by decide +kernel)) (pf_and (pf_not (pf_isi (T := "bool") (pf_var 0) (by rfl) T.b_isinstance (by rfl) T.b_bool (by decide +kernel))) (pf_one (pf_cmp op_geD (pf_var 0) pf_int))))))
theorem sc__law_class_flags : FnScope N__law_class_flags P__law_class_flags (defScope s__law_class_flags) := ⟨rfl, rfl, rfl, by decide +kernel, rfl, by decide +kernel, by decide +kernel⟩
theorem GH__law_class_flags_NotUsable (T : Tx P K mg) : Te.GxH P w K mg base 1 T.x_NotUsable.C T.d__law_class_flags FH__law_class_flags_NotUsable := by
  refine Te.gxH_of _ sc__law_class_flags fun cdv A outer s H E p dd hot hz hr hg => ?_
  have nd := sc__law_class_flags.nd
  obtain ⟨a, oe⟩ := p
  have hp : (a, oe) ∈ [(a, oe)] := List.mem_cons_self
  have hf : ∃ vs, oe.data = .fields vs := let ⟨_, vs, e, _⟩ := hot; ⟨vs, e⟩
  exact (pssf_cons (psf_set (i := 1) nd rfl (by first | exact Or.inl rfl | exact Or.inr rfl) (pf_lst (paf_cons (Te.pf_isE (i := 0) hp hz hf T.x_NotUsable.isx rfl (by first | exact Or.inl rfl | exact Or.inr (Or.inl rfl) | exact Or.inr (Or.inr rfl)) (by rfl) T.b_isinstance (pe_glob (by rfl) T.e_InvalidPaper.2 (v := .ref T.e_InvalidPaper.1) rfl) (fun _ q => q) T.i_NotUsable_InvalidPaper) (paf_cons (Te.pf_isE (i := 0) hp hz hf T.x_NotUsable.isx rfl (by first | exact Or.inl rfl | exact Or.inr (Or.inl rfl) | exact Or.inr (Or.inr rfl)) (by rfl) T.b_isinstance (pe_glob (by rfl) T.e_UnknownPlace.2 (v := .ref T.e_UnknownPlace.1) rfl) (fun _ q => q) T.i_NotUsable_UnknownPlace) (paf_cons (Te.pf_isE (i := 0) hp hz hf T.x_NotUsable.isx rfl (by first | exact Or.inl rfl | exact Or.inr (Or.inl rfl) | exact Or.inr (Or.inr rfl)) (by rfl) T.b_isinstance (pe_glob (by rfl) T.e_NoFinding.2 (v := .ref T.e_NoFinding.1) rfl) (fun _ q => q) T.i_NotUsable_NoFinding) paf_nil)))))
    (pssf_cons (psf_set (i := 1) nd rfl (by first | exact Or.inl rfl | exact Or.inr rfl) (pf_bin op_addD (pf_var 1) (pf_lst (paf_cons (Te.pf_isE (i := 0) hp hz hf T.x_NotUsable.isx rfl (by first | exact Or.inl rfl | exact Or.inr (Or.inl rfl) | exact Or.inr (Or.inr rfl)) (by rfl) T.b_isinstance (pe_glob (by rfl) T.e_Hurt.2 (v := .ref T.e_Hurt.1) rfl) (fun _ q => q) T.i_NotUsable_Hurt) (paf_cons (Te.pf_isE (i := 0) hp hz hf T.x_NotUsable.isx rfl (by first | exact Or.inl rfl | exact Or.inr (Or.inl rfl) | exact Or.inr (Or.inr rfl)) (by rfl) T.b_isinstance (pe_glob (by rfl) T.e_TooMany.2 (v := .ref T.e_TooMany.1) rfl) (fun _ q => q) T.i_NotUsable_TooMany) (paf_cons (Te.pf_isE (i := 0) hp hz hf T.x_NotUsable.isx rfl (by first | exact Or.inl rfl | exact Or.inr (Or.inl rfl) | exact Or.inr (Or.inr rfl)) (by rfl) T.b_isinstance (pe_glob (by rfl) T.e_NotUsable.2 (v := .ref T.e_NotUsable.1) rfl) (fun _ q => q) T.i_NotUsable_NotUsable) paf_nil))))))
    (pssf_cons (psf_set (i := 1) nd rfl (by first | exact Or.inl rfl | exact Or.inr rfl) (pf_bin op_addD (pf_var 1) (pf_lst (paf_cons (Te.pf_isE (i := 0) hp hz hf T.x_NotUsable.isx rfl (by first | exact Or.inl rfl | exact Or.inr (Or.inl rfl) | exact Or.inr (Or.inr rfl)) (by rfl) T.b_isinstance (pe_glob (by rfl) T.e_InvalidEvent.2 (v := .ref T.e_InvalidEvent.1) rfl) (fun _ q => q) T.i_NotUsable_InvalidEvent) (paf_cons (Te.pf_isE (i := 0) hp hz hf T.x_NotUsable.isx rfl (by first | exact Or.inl rfl | exact Or.inr (Or.inl rfl) | exact Or.inr (Or.inr rfl)) (by rfl) T.b_isinstance (pe_glob (by rfl) T.e_NothingToUndo.2 (v := .ref T.e_NothingToUndo.1) rfl) (fun _ q => q) T.i_NotUsable_NothingToUndo) paf_nil)))))
    (pssf_cons (psf_set (i := 1) nd rfl (by first | exact Or.inl rfl | exact Or.inr rfl) (pf_bin op_addD (pf_var 1) (pf_lst (paf_cons (Te.pf_isE (i := 0) hp hz hf T.x_NotUsable.isx rfl (by first | exact Or.inl rfl | exact Or.inr (Or.inl rfl) | exact Or.inr (Or.inr rfl)) (by rfl) T.b_isinstance (pe_glob (by rfl) T.e_InvalidText.2 (v := .ref T.e_InvalidText.1) rfl) (fun _ q => q) T.i_NotUsable_InvalidText) (paf_cons (Te.pf_isE (i := 0) hp hz hf T.x_NotUsable.isx rfl (by first | exact Or.inl rfl | exact Or.inr (Or.inl rfl) | exact Or.inr (Or.inr rfl)) (by rfl) T.b_isinstance (pe_glob (by rfl) T.e_InvalidRow.2 (v := .ref T.e_InvalidRow.1) rfl) (fun _ q => q) T.i_NotUsable_InvalidRow) paf_nil)))))
    (pssf_cons (psf_set (i := 1) nd rfl (by first | exact Or.inl rfl | exact Or.inr rfl) (pf_bin op_addD (pf_var 1) (pf_lst (paf_cons (Te.pf_isE (i := 0) hp hz hf T.x_NotUsable.isx rfl (by first | exact Or.inl rfl | exact Or.inr (Or.inl rfl) | exact Or.inr (Or.inr rfl)) (by rfl) T.b_isinstance (pe_glob (by rfl) T.e_PaperError.2 (v := .ref T.e_PaperError.1) rfl) (fun _ q => q) T.i_NotUsable_PaperError) (paf_cons (Te.pf_isE (i := 0) hp hz hf T.x_NotUsable.isx rfl (by first | exact Or.inl rfl | exact Or.inr (Or.inl rfl) | exact Or.inr (Or.inr rfl)) (by rfl) T.b_isinstance (pe_glob (by rfl) T.e_RuleError.2 (v := .ref T.e_RuleError.1) rfl) (fun _ q => q) T.i_NotUsable_RuleError) (paf_cons (Te.pf_isE (i := 0) hp hz hf T.x_NotUsable.isx rfl (by first | exact Or.inl rfl | exact Or.inr (Or.inl rfl) | exact Or.inr (Or.inr rfl)) (by rfl) T.b_isinstance (pe_glob (by rfl) T.e_HouseError.2 (v := .ref T.e_HouseError.1) rfl) (fun _ q => q) T.i_NotUsable_HouseError) paf_nil))))))
    (pssf_one (psf_ret (pf_bin op_addD (pf_var 1) (pf_lst (paf_cons (Te.pf_isE (i := 0) hp hz hf T.x_NotUsable.isx rfl (by first | exact Or.inl rfl | exact Or.inr (Or.inl rfl) | exact Or.inr (Or.inr rfl)) (by rfl) T.b_isinstance (pe_glob (by rfl) T.e_TextError.2 (v := .ref T.e_TextError.1) rfl) (fun _ q => q) T.i_NotUsable_TextError) (paf_cons (Te.pf_isE (i := 0) hp hz hf T.x_NotUsable.isx rfl (by first | exact Or.inl rfl | exact Or.inr (Or.inl rfl) | exact Or.inr (Or.inr rfl)) (by rfl) T.b_isinstance (pe_glob (by rfl) T.e_TidyError.2 (v := .ref T.e_TidyError.1) rfl) (fun _ q => q) T.i_NotUsable_TidyError) (paf_cons (Te.pf_isE (i := 0) hp hz hf T.x_NotUsable.isx rfl (by first | exact Or.inl rfl | exact Or.inr (Or.inl rfl) | exact Or.inr (Or.inr rfl)) (by rfl) T.b_isinstance (pe_bltn (v := .ty "ValueError") (by rfl) T.b_ValueError (by decide +kernel) rfl) (fun _ q => q) T.i_NotUsable_ValueError) paf_nil))))))))))))
theorem sc__law_own_flags : FnScope N__law_own_flags P__law_own_flags (defScope s__law_own_flags) := ⟨rfl, rfl, rfl, by decide +kernel, rfl, by decide +kernel, by decide +kernel⟩
theorem GH__law_own_flags_NotUsable (T : Tx P K mg) : Te.GxH P w K mg base 1 T.x_NotUsable.C T.d__law_own_flags FH__law_own_flags_NotUsable := by
  refine Te.gxH_of _ sc__law_own_flags fun cdv A outer s H E p dd hot hz hr hg => ?_
  have nd := sc__law_own_flags.nd
  obtain ⟨a, oe⟩ := p
  have hp : (a, oe) ∈ [(a, oe)] := List.mem_cons_self
  have hf : ∃ vs, oe.data = .fields vs := let ⟨_, vs, e, _⟩ := hot; ⟨vs, e⟩
  exact (pssf_cons (Te.psf_setLcH (i := 1) (own := [("_law_k", 2)]) hot hp nd rfl rfl (sw_true rfl rfl rfl (by decide +kernel)) (Te.pif_range1H (by rfl) T.b_range (paf_cons pf_int paf_nil)) (blkOk_by (own := [("_law_k", 2)]) (N := N__law_own_flags) (sc := defScope s__law_own_flags) (by decide +kernel)) (fun _ _ _ _ _ => (pgf_name (i := 2) nd rfl (by first | exact Or.inl rfl | exact Or.inr rfl))) (fun _ _ _ _ _ => ptsf_nil) (fun _ _ _ _ _ => (pf_cmp (op_eqD' (Te.hu64H hr)) (pf_var 2) (pf_var 0))))
    (pssf_one (psf_ret (pf_bin op_addD (pf_var 1) (pf_lst (paf_cons (pf_cmp (op_eqD' (Te.hu64H hr)) (pf_var 0) pf_int) (paf_cons (pf_chain op_ltD op_ltD pf_int (pf_var 0) pf_int) (paf_cons (pf_chain op_ltD op_ltD pf_int (pf_var 0) pf_int) (paf_cons (pf_cmp op_gtD (pf_var 0) pf_int) (paf_cons pf_bl (paf_cons pf_bl paf_nil)))))))))))
theorem sc__law_fields : FnScope N__law_fields P__law_fields (defScope s__law_fields) := ⟨rfl, rfl, rfl, by decide +kernel, rfl, by decide +kernel, by decide +kernel⟩
theorem GH__law_fields_NotUsable (T : Tx P K mg) : Te.GxH P w K mg base 1 T.x_NotUsable.C T.d__law_fields FH__law_fields_NotUsable := by
  refine Te.gxH_of _ sc__law_fields fun cdv A outer s H E p dd hot hz hr hg => ?_
  have nd := sc__law_fields.nd
  obtain ⟨a, oe⟩ := p
  have hp : (a, oe) ∈ [(a, oe)] := List.mem_cons_self
  have hf : ∃ vs, oe.data = .fields vs := let ⟨_, vs, e, _⟩ := hot; ⟨vs, e⟩
  exact (pssf_cons (psf_if (ptf_cmp (op_eqD' (Te.hu64H hr)) (pf_var 1) pf_int) (pssf_one (psf_ret (pf_tup (paf_cons pf_str (paf_cons (Te.pf_flE (i := 0) hp hz hf T.x_NotUsable.xfc (T.x_NotUsable.nof _ (by decide)) rfl (by first | exact Or.inl rfl | exact Or.inr (Or.inl rfl) | exact Or.inr (Or.inr rfl))) (paf_cons (Te.pf_flE (i := 0) hp hz hf T.x_NotUsable.xfc (T.x_NotUsable.nof _ (by decide)) rfl (by first | exact Or.inl rfl | exact Or.inr (Or.inl rfl) | exact Or.inr (Or.inr rfl))) paf_nil)))))) pssf_nil)
    (pssf_cons (psf_if (ptf_cmp (op_eqD' (Te.hu64H hr)) (pf_var 1) pf_int) (pssf_one (psf_ret (pf_tup (paf_cons pf_str (paf_cons Te.pf_no paf_nil))))) pssf_nil)
    (pssf_cons (psf_if (ptf_cmp (op_eqD' (Te.hu64H hr)) (pf_var 1) pf_int) (pssf_one (psf_ret (pf_tup (paf_cons pf_str (paf_cons (Te.pf_flE (i := 0) hp hz hf T.x_NotUsable.xfc (T.x_NotUsable.nof _ (by decide)) rfl (by first | exact Or.inl rfl | exact Or.inr (Or.inl rfl) | exact Or.inr (Or.inr rfl))) (paf_cons (Te.pf_flE (i := 0) hp hz hf T.x_NotUsable.xfc (T.x_NotUsable.nof _ (by decide)) rfl (by first | exact Or.inl rfl | exact Or.inr (Or.inl rfl) | exact Or.inr (Or.inr rfl))) paf_nil)))))) pssf_nil)
    (pssf_one (psf_ret (pf_ifx (ptf_cmp (op_eqD' (Te.hu64H hr)) (pf_var 1) pf_int) (pf_tup (paf_cons pf_str (paf_cons Te.pf_no (paf_cons Te.pf_no paf_nil)))) (pf_tup (paf_cons pf_str paf_nil))))))))
theorem sc__law_outcome : FnScope N__law_outcome P__law_outcome (defScope s__law_outcome) := ⟨rfl, rfl, rfl, by decide +kernel, rfl, by decide +kernel, by decide +kernel⟩
noncomputable abbrev su__law_outcome : List Stmt := Te.trySuite (defBody s__law_outcome)
theorem SU__law_outcome_NotUsable {A : Around} {outer : List Env} (T : Tx P K mg) (hr0 : Room 2 A) (hg : A.guards = some []) (cdv : Value) (s : Shared) (H : Hp) (a : Addr) (oe : Obj) (dd : Addr) (pn : List (Addr × Obj)) (hz0 : L2N.Zn (.ref T.x_NotUsable.C) (some dd) oe) (hf : ∃ vs, oe.data = .fields vs) :
    PSsf ((cxOf C8.CX0 P w K mg base N__law_outcome "_law_outcome" (defScope s__law_outcome) T.d__law_outcome.f cdv A outer s H C8.E0).nox.suite a ((a, oe) :: pn)) W0 su__law_outcome (bs__law_outcome_NotUsable a dd) := by
  have nd := sc__law_outcome.nd
  have hot := Te.hot_suite (X := (cxOf C8.CX0 P w K mg base N__law_outcome "_law_outcome" (defScope s__law_outcome) T.d__law_outcome.f cdv A outer s H C8.E0).nox) (a := a) (pn := pn) hz0 hf
  have hr : L2H.RoomH 1 ((cxOf C8.CX0 P w K mg base N__law_outcome "_law_outcome" (defScope s__law_outcome) T.d__law_outcome.f cdv A outer s H C8.E0).nox.suite a ((a, oe) :: pn)).A := ⟨(hr0.deeper (envOfC "_law_outcome" (defScope s__law_outcome) s.heap.objs.size T.d__law_outcome.f cdv)).dp, (hr0.deeper (envOfC "_law_outcome" (defScope s__law_outcome) s.heap.objs.size T.d__law_outcome.f cdv)).un⟩
  have hp : (a, oe) ∈ (a, oe) :: pn := List.mem_cons_self
  have hz := hz0.zc
  have GH__law_class_flags_NotUsable := GH__law_class_flags_NotUsable (P := P) (w := w) (base := base) T
  have GH__law_fields_NotUsable := GH__law_fields_NotUsable (P := P) (w := w) (base := base) T
  have GH__law_own_flags_NotUsable := GH__law_own_flags_NotUsable (P := P) (w := w) (base := base) T
  exact (pssf_cons (psf_set (i := 3) nd rfl (by first | exact Or.inl rfl | exact Or.inr rfl) (Te.pf_callH GH__law_class_flags_NotUsable (hr.mono (by decide)) hot hp hz hg (by rfl) takesW0 (paf_cons (pf_var 2) paf_nil)))
    (pssf_cons (Te.psf_setLcH (i := 4) (own := [("_law_k", 5)]) hot hp nd rfl rfl (sw_true rfl rfl rfl (by decide +kernel)) (Te.pif_range1H (by rfl) T.b_range (paf_cons pf_int paf_nil)) (blkOk_by (own := [("_law_k", 5)]) (N := N__law_outcome) (sc := defScope s__law_outcome) (by decide +kernel)) (fun _ _ _ _ _ => (pgf_name (i := 5) nd rfl (by first | exact Or.inl rfl | exact Or.inr rfl))) (fun _ _ _ _ _ => (ptsf_one (ptf_tru (pf_ix (pf_var 3) (pf_var 5))))) (fun _ _ _ _ _ => (pf_var 5)))
    (pssf_one (psf_if (ptf_w (pwf_and (ptf_cmp (op_eqD' (Te.hu64H hr)) (pf_callB call_lenX (by rfl) T.b_len (by decide +kernel) (paf_cons (pf_var 4) paf_nil)) pf_int) (pwf_and1 (ptf_cmp (op_eqD' (Te.hu64H hr)) (pf_var 3) (Te.pf_callH GH__law_own_flags_NotUsable (hr.mono (by decide)) hot hp hz hg (by rfl) takesW0 (paf_cons (pf_ix (pf_var 4) pf_int) paf_nil)))))) (pssf_one (psf_set (i := 1) nd rfl (by first | exact Or.inl rfl | exact Or.inr rfl) (Te.pf_callH GH__law_fields_NotUsable (hr.mono (by decide)) hot hp hz hg (by rfl) takesW0 (paf_cons (pf_var 2) (paf_cons (pf_ix (pf_var 4) pf_int) paf_nil))))) pssf_nil))))
theorem GO__law_outcome {X : Cx} (T : Tx X.prog X.K X.mg) (HG : Hg__law_outcome) (hr : Room 2 X.A) (hg : X.A.guards = some []) (cdv : Value) (q : Str) : Te.GivesOut X N__law_outcome "_law_outcome" (defScope s__law_outcome) T.d__law_outcome.f cdv (defBody s__law_outcome) "_law_ask" q outF__law_outcome := by
  intro f c0 s H Q tl act code h
  refine Te.ask_body (found := "_law_found") (en := "_law_e") (te := "TidyError") (cT := T.e_TidyError.1) (bS := bS__law_outcome) (outF := outF__law_outcome) rfl sc__law_outcome.nd rfl rfl rfl rfl rfl rfl rfl act code ⟨rfl, rfl, .inl T.e_TidyError.2⟩ ?_ ?_ HG ?_ h
  · intro n C fs ds hC ho
    obtain ⟨g, hm, _⟩ := Te.outL_some ho
    simp only [List.mem_cons, List.not_mem_nil, or_false, Prod.mk.injEq] at hm
    rcases hm with ⟨rfl, rfl⟩
    · obtain rfl := Te.clsAt_eq hC T.x_NotUsable.at_
      exact Te.caught_of T.i_NotUsable_TidyError T.h_TidyError T.n_NotUsable_TidyError
  · intro n C fs ds hC ho a oe dd pn hz0 hf
    obtain ⟨g, hm, _⟩ := Te.outL_some ho
    simp only [List.mem_cons, List.not_mem_nil, or_false, Prod.mk.injEq] at hm
    rcases hm with ⟨rfl, rfl⟩
    · obtain rfl := Te.clsAt_eq hC T.x_NotUsable.at_
      exact SU__law_outcome_NotUsable T hr hg cdv s H a oe dd pn hz0 hf
  · intro n fs ds ho e
    subst e
    obtain ⟨g, hm, hq⟩ := Te.outL_some ho
    simp only [List.mem_cons, List.not_mem_nil, or_false, Prod.mk.injEq] at hm
    rcases hm with ⟨rfl, rfl⟩ <;> simp at hq
theorem sc__law_some : FnScope N__law_some P__law_some (defScope s__law_some) := ⟨rfl, rfl, rfl, by decide +kernel, rfl, by decide +kernel, by decide +kernel⟩
theorem G__law_some (T : Tx P K mg) : Gx P w K mg base 2 T.d__law_some F__law_some := by
  have G__law_draw := G__law_draw (P := P) (w := w) (base := base) T
  refine gx_of _ sc__law_some fun cdv A outer s H E hr hg => ?_
  have nd := sc__law_some.nd
  have tk := tkX (P := P) (w := w) (K := K) (mg := mg) (base := base) (x := "_law_some") (st := s__law_some) (N := N__law_some) (f := T.d__law_some.f) (cdv := cdv) (A := A) (outer := outer) (s := s) (H := H) (E := E)
  have po := poX (P := P) (w := w) (K := K) (mg := mg) (base := base) (x := "_law_some") (st := s__law_some) (N := N__law_some) (f := T.d__law_some.f) (cdv := cdv) (A := A) (outer := outer) (s := s) (H := H) (E := E)
  exact (pssf_cons (psf_set (i := 4) nd rfl (by first | exact Or.inl rfl | exact Or.inr rfl) (pf_listS (by rfl) T.b_list (by decide +kernel) (paf_cons (pf_var 1) paf_nil)))
    (pssf_cons (psf_set (i := 5) nd rfl (by first | exact Or.inl rfl | exact Or.inr rfl) (pf_bin op_addD (pf_var 2) (pf_callR G__law_draw (hr.mono (by decide)) hg (by rfl) tk (paf_cons (pf_var 0) (paf_cons (pf_bin op_addD (pf_bin op_subD (pf_var 3) (pf_var 2)) pf_int) paf_nil)))))
    (pssf_cons (psf_while po (ptf_cmp op_gtD (pf_callB call_lenX (by rfl) T.b_len (by decide +kernel) (paf_cons (pf_var 4) paf_nil)) (pf_var 5))
    (pssf_one (psf_expr (pf_lm PySem.F.slot_list_pop PySem.F.type_list_pop mtL_popAt (pf_var 4) (paf_cons (pf_callR G__law_draw (hr.mono (by decide)) hg (by rfl) tk (paf_cons (pf_var 0) (paf_cons (pf_callB call_lenX (by rfl) T.b_len (by decide +kernel) (paf_cons (pf_var 4) paf_nil)) paf_nil))) paf_nil)))))
    (pssf_one (psf_ret (pf_callB call_sortLX (by rfl) T.b_sorted (by decide +kernel) (paf_cons (pf_var 4) paf_nil)))))))
theorem sc__law_power : FnScope N__law_power P__law_power (defScope s__law_power) := ⟨rfl, rfl, rfl, by decide +kernel, rfl, by decide +kernel, by decide +kernel⟩
theorem G__law_power (T : Tx P K mg) : Gx P w K mg base 1 T.d__law_power F__law_power := by
  refine gx_of _ sc__law_power fun cdv A outer s H E hr hg => ?_
  have nd := sc__law_power.nd
  have tk := tkX (P := P) (w := w) (K := K) (mg := mg) (base := base) (x := "_law_power") (st := s__law_power) (N := N__law_power) (f := T.d__law_power.f) (cdv := cdv) (A := A) (outer := outer) (s := s) (H := H) (E := E)
  have po := poX (P := P) (w := w) (K := K) (mg := mg) (base := base) (x := "_law_power") (st := s__law_power) (N := N__law_power) (f := T.d__law_power.f) (cdv := cdv) (A := A) (outer := outer) (s := s) (H := H) (E := E)
  exact (pssf_cons (psf_set (i := 2) nd rfl (by first | exact Or.inl rfl | exact Or.inr rfl) pf_int)
    (pssf_cons (psf_for po rfl (pif_range1 (by rfl) T.b_range (paf_cons (pf_var 1) paf_nil)) (pgf_name (i := 3) nd rfl (by first | exact Or.inl rfl | exact Or.inr rfl))
    (pssf_one (psf_set (i := 2) nd rfl (by first | exact Or.inl rfl | exact Or.inr rfl) (pf_bin op_mulD (pf_var 2) (pf_var 0)))))
    (pssf_one (psf_ret (pf_var 2)))))
theorem sc__law_random_tongue : FnScope N__law_random_tongue P__law_random_tongue (defScope s__law_random_tongue) := ⟨rfl, rfl, rfl, by decide +kernel, rfl, by decide +kernel, by decide +kernel⟩
theorem G__law_random_tongue (T : Tx P K mg) : Gx P w K mg base 3 T.d__law_random_tongue F__law_random_tongue := by
  have G__law_some := G__law_some (P := P) (w := w) (base := base) T
  have G__law_draw := G__law_draw (P := P) (w := w) (base := base) T
  have G__law_power := G__law_power (P := P) (w := w) (base := base) T
  refine gx_of _ sc__law_random_tongue fun cdv A outer s H E hr hg => ?_
  have nd := sc__law_random_tongue.nd
  have tk := tkX (P := P) (w := w) (K := K) (mg := mg) (base := base) (x := "_law_random_tongue") (st := s__law_random_tongue) (N := N__law_random_tongue) (f := T.d__law_random_tongue.f) (cdv := cdv) (A := A) (outer := outer) (s := s) (H := H) (E := E)
  have po := poX (P := P) (w := w) (K := K) (mg := mg) (base := base) (x := "_law_random_tongue") (st := s__law_random_tongue) (N := N__law_random_tongue) (f := T.d__law_random_tongue.f) (cdv := cdv) (A := A) (outer := outer) (s := s) (H := H) (E := E)
  exact (pssf_cons (psf_set (i := 1) nd rfl (by first | exact Or.inl rfl | exact Or.inr rfl) (pf_ix (pf_lst (paf_cons pf_int (paf_cons pf_int (paf_cons pf_int (paf_cons pf_int paf_nil))))) (pf_callR G__law_draw (hr.mono (by decide)) hg (by rfl) tk (paf_cons (pf_var 0) (paf_cons pf_int paf_nil)))))
    (pssf_cons (psf_set (i := 2) nd rfl (by first | exact Or.inl rfl | exact Or.inr rfl) (pf_lstS paf_nil))
    (pssf_cons (psf_for po rfl (pif_any (pf_callR G__law_some (hr.mono (by decide)) hg (by rfl) tk (paf_cons (pf_var 0) (paf_cons (pf_lst (paf_cons pf_str (paf_cons pf_str (paf_cons pf_str (paf_cons pf_str (paf_cons pf_str (paf_cons pf_str paf_nil))))))) (paf_cons pf_int (paf_cons pf_int paf_nil)))))) (pgf_name (i := 3) nd rfl (by first | exact Or.inl rfl | exact Or.inr rfl))
    (pssf_cons (psf_set (i := 5) nd rfl (by first | exact Or.inl rfl | exact Or.inr rfl) (pf_ix (pf_lst (paf_cons pf_int (paf_cons pf_int (paf_cons pf_int (paf_cons pf_int paf_nil))))) (pf_callR G__law_draw (hr.mono (by decide)) hg (by rfl) tk (paf_cons (pf_var 0) (paf_cons pf_int paf_nil)))))
    (pssf_cons (psf_set (i := 6) nd rfl (by first | exact Or.inl rfl | exact Or.inr rfl) (pf_callR G__law_power (hr.mono (by decide)) hg (by rfl) tk (paf_cons (pf_var 1) (paf_cons (pf_var 5) paf_nil))))
    (pssf_one (psf_expr (pf_lm PySem.F.slot_list_append PySem.F.type_list_append mtL_append (pf_var 2) (paf_cons (pf_tup (paf_cons (pf_var 3) (paf_cons (pf_var 5) (paf_cons (pf_callTy call_tupleX (by rfl) T.b_tuple (by decide +kernel) (paf_cons (pf_lc (own := [("_law_k", 8)]) rfl nd (pif_range1 (by rfl) T.b_range (paf_cons (pf_var 6) paf_nil)) (blkOk_by (own := [("_law_k", 8)]) (N := N__law_random_tongue) (sc := defScope s__law_random_tongue) (by decide +kernel)) (fun _ _ _ _ _ => (pgf_name (i := 8) nd rfl (by first | exact Or.inl rfl | exact Or.inr rfl))) (fun _ _ _ _ _ => ptsf_nil) (fun _ _ _ _ _ => (pf_callR G__law_draw (hr.mono (by decide)) hg (by rfl) takesW0 (paf_cons (pf_var 0) (paf_cons (pf_var 1) paf_nil))))) paf_nil)) paf_nil)))) paf_nil)))))))
    (pssf_fz (i := 2) (pssf_cons (psf_set (i := 4) nd rfl (by first | exact Or.inl rfl | exact Or.inr rfl) (pf_callR G__law_some (hr.mono (by decide)) hg (by rfl) tk (paf_cons (pf_var 0) (paf_cons (pf_lst (paf_cons pf_str (paf_cons pf_str (paf_cons pf_str paf_nil)))) (paf_cons pf_int (paf_cons pf_int paf_nil))))))
    (pssf_cons (psf_if (ptf_w (pwf_and (ptf_cmp (op_eqL (hu64 hr)) (pf_var 4) (pf_lst paf_nil)) (pwf_and1 (ptf_cmp (op_eqL (hu64 hr)) (pf_lc (own := [("_law_one", 7)]) rfl nd (pif_any (pf_var 2)) (blkOk_by (own := [("_law_one", 7)]) (N := N__law_random_tongue) (sc := defScope s__law_random_tongue) (by decide +kernel)) (fun _ _ _ _ _ => (pgf_name (i := 7) nd rfl (by first | exact Or.inl rfl | exact Or.inr rfl))) (fun _ _ _ _ _ => (ptsf_one (ptf_cmp (op_eqD' (hu64 hr)) (pf_ix (pf_var 7) pf_int) pf_int))) (fun _ _ _ _ _ => (pf_var 7))) (pf_lst paf_nil))))) (pssf_one (psf_set (i := 4) nd rfl (by first | exact Or.inl rfl | exact Or.inr rfl) (pf_lst (paf_cons pf_str paf_nil)))) pssf_nil)
    (pssf_one (psf_ret (pf_tup (paf_cons (pf_var 1) (paf_cons (pf_callTy call_tupleX (by rfl) T.b_tuple (by decide +kernel) (paf_cons (pf_var 4) paf_nil)) (paf_cons (pf_callTy call_tupleX (by rfl) T.b_tuple (by decide +kernel) (paf_cons (pf_var 2) paf_nil)) paf_nil))))))))))))
theorem sc__law_fixed_tongues : FnScope N__law_fixed_tongues P__law_fixed_tongues (defScope s__law_fixed_tongues) := ⟨rfl, rfl, rfl, by decide +kernel, rfl, by decide +kernel, by decide +kernel⟩
theorem G__law_fixed_tongues (T : Tx P K mg) : Gx P w K mg base 1 T.d__law_fixed_tongues F__law_fixed_tongues := by
  refine gx_of _ sc__law_fixed_tongues fun cdv A outer s H E hr hg => ?_
  have nd := sc__law_fixed_tongues.nd
  have tk := tkX (P := P) (w := w) (K := K) (mg := mg) (base := base) (x := "_law_fixed_tongues") (st := s__law_fixed_tongues) (N := N__law_fixed_tongues) (f := T.d__law_fixed_tongues.f) (cdv := cdv) (A := A) (outer := outer) (s := s) (H := H) (E := E)
  have po := poX (P := P) (w := w) (K := K) (mg := mg) (base := base) (x := "_law_fixed_tongues") (st := s__law_fixed_tongues) (N := N__law_fixed_tongues) (f := T.d__law_fixed_tongues.f) (cdv := cdv) (A := A) (outer := outer) (s := s) (H := H) (E := E)
  exact (pssf_cons (psf_set (i := 0) nd rfl (by first | exact Or.inl rfl | exact Or.inr rfl) (pf_tup (paf_cons (pf_tup (paf_cons pf_str (paf_cons pf_int (paf_cons (pf_tup (paf_cons pf_int (paf_cons pf_int (paf_cons pf_int (paf_cons pf_int paf_nil))))) paf_nil)))) (paf_cons (pf_tup (paf_cons pf_str (paf_cons pf_int (paf_cons (pf_tup (paf_cons pf_int paf_nil)) paf_nil)))) (paf_cons (pf_tup (paf_cons pf_str (paf_cons pf_int (paf_cons (pf_tup (paf_cons pf_int (paf_cons pf_int paf_nil))) paf_nil)))) (paf_cons (pf_tup (paf_cons pf_str (paf_cons pf_int (paf_cons (pf_tup (paf_cons pf_int (paf_cons pf_int (paf_cons pf_int (paf_cons pf_int paf_nil))))) paf_nil)))) paf_nil))))))
    (pssf_cons (psf_set (i := 1) nd rfl (by first | exact Or.inl rfl | exact Or.inr rfl) (pf_tup (paf_cons pf_int (paf_cons (pf_tup paf_nil) (paf_cons (pf_tup (paf_cons (pf_tup (paf_cons pf_str (paf_cons pf_int (paf_cons (pf_tup (paf_cons pf_int paf_nil)) paf_nil)))) (paf_cons (pf_tup (paf_cons pf_str (paf_cons pf_int (paf_cons (pf_tup (paf_cons pf_int paf_nil)) paf_nil)))) paf_nil))) paf_nil)))))
    (pssf_cons (psf_set (i := 2) nd rfl (by first | exact Or.inl rfl | exact Or.inr rfl) (pf_tup (paf_cons pf_int (paf_cons (pf_tup (paf_cons pf_str (paf_cons pf_str paf_nil))) (paf_cons (pf_tup (paf_cons (pf_tup (paf_cons pf_str (paf_cons pf_int (paf_cons (pf_tup (paf_cons pf_int (paf_cons pf_int (paf_cons pf_int (paf_cons pf_int (paf_cons pf_int (paf_cons pf_int (paf_cons pf_int (paf_cons pf_int (paf_cons pf_int paf_nil)))))))))) paf_nil)))) (paf_cons (pf_tup (paf_cons pf_str (paf_cons pf_int (paf_cons (pf_tup (paf_cons pf_int (paf_cons pf_int (paf_cons pf_int paf_nil)))) paf_nil)))) paf_nil))) paf_nil)))))
    (pssf_one (psf_ret (pf_lstS (paf_cons (pf_tup (paf_cons pf_int (paf_cons (pf_tup (paf_cons pf_str (paf_cons pf_str paf_nil))) (paf_cons (pf_var 0) paf_nil)))) (paf_cons (pf_var 1) (paf_cons (pf_var 2) paf_nil)))))))))
theorem sc__law_random_notes : FnScope N__law_random_notes P__law_random_notes (defScope s__law_random_notes) := ⟨rfl, rfl, rfl, by decide +kernel, rfl, by decide +kernel, by decide +kernel⟩
theorem G__law_random_notes (T : Tx P K mg) : Gx P w K mg base 3 T.d__law_random_notes F__law_random_notes := by
  have G__law_draw := G__law_draw (P := P) (w := w) (base := base) T
  have G__law_some := G__law_some (P := P) (w := w) (base := base) T
  refine gx_of _ sc__law_random_notes fun cdv A outer s H E hr hg => ?_
  have nd := sc__law_random_notes.nd
  have tk := tkX (P := P) (w := w) (K := K) (mg := mg) (base := base) (x := "_law_random_notes") (st := s__law_random_notes) (N := N__law_random_notes) (f := T.d__law_random_notes.f) (cdv := cdv) (A := A) (outer := outer) (s := s) (H := H) (E := E)
  have po := poX (P := P) (w := w) (K := K) (mg := mg) (base := base) (x := "_law_random_notes") (st := s__law_random_notes) (N := N__law_random_notes) (f := T.d__law_random_notes.f) (cdv := cdv) (A := A) (outer := outer) (s := s) (H := H) (E := E)
  exact (pssf_cons (psf_set (i := 1) nd rfl (by first | exact Or.inl rfl | exact Or.inr rfl) (pf_lst (paf_cons pf_str (paf_cons pf_str (paf_cons pf_str (paf_cons pf_str (paf_cons pf_str (paf_cons pf_str (paf_cons pf_str paf_nil)))))))))
    (pssf_cons (psf_if (ptf_cmp (op_eqD' (hu64 hr)) (pf_callR G__law_draw (hr.mono (by decide)) hg (by rfl) tk (paf_cons (pf_var 0) (paf_cons pf_int paf_nil))) pf_int) (pssf_one (psf_ret (pf_tup paf_nil))) pssf_nil)
    (pssf_one (psf_ret (pf_callTy call_tupleX (by rfl) T.b_tuple (by decide +kernel) (paf_cons (pf_callR G__law_some (hr.mono (by decide)) hg (by rfl) tk (paf_cons (pf_var 0) (paf_cons (pf_var 1) (paf_cons pf_int (paf_cons pf_int paf_nil))))) paf_nil))))))
theorem sc__law_random_tree : FnScope N__law_random_tree P__law_random_tree (defScope s__law_random_tree) := ⟨rfl, rfl, rfl, by decide +kernel, rfl, by decide +kernel, by decide +kernel⟩
theorem G__law_random_tree (T : Tx P K mg) : ∀ l, Gx P w K mg base (3 + l) T.d__law_random_tree (F__law_random_tree l)
  | 0 => gx_no _
  | l + 1 => by
    have G := G__law_random_tree T l
    have G__law_random_notes := G__law_random_notes (P := P) (w := w) (base := base) T
    have G__law_draw := G__law_draw (P := P) (w := w) (base := base) T
    refine gx_of (k := 3 + l) _ sc__law_random_tree fun cdv A outer s H E hr hg => ?_
    have nd := sc__law_random_tree.nd
    have tk := tkX (P := P) (w := w) (K := K) (mg := mg) (base := base) (x := "_law_random_tree") (st := s__law_random_tree) (N := N__law_random_tree) (f := T.d__law_random_tree.f) (cdv := cdv) (A := A) (outer := outer) (s := s) (H := H) (E := E)
    have po := poX (P := P) (w := w) (K := K) (mg := mg) (base := base) (x := "_law_random_tree") (st := s__law_random_tree) (N := N__law_random_tree) (f := T.d__law_random_tree.f) (cdv := cdv) (A := A) (outer := outer) (s := s) (H := H) (E := E)
    exact (pssf_cons (psf_asg (pf_bin op_subD (pf_ix (pf_var 2) pf_int) pf_int) (pgf_ix (pf_w0 (W := fun c d _ H => E c d H) (pf_var 2)) (pf_w0 (W := fun c d _ H => E c d H) pf_int)))
    (pssf_cons (psf_set (i := 3) nd rfl (by first | exact Or.inl rfl | exact Or.inr rfl) (pf_bin op_addD (pf_callTy call_listX (by rfl) T.b_list (by decide +kernel) (paf_cons (pf_ix (pf_var 1) pf_int) paf_nil)) (pf_lc (own := [("_law_one", 11)]) rfl nd (pif_any (pf_ix (pf_var 1) pf_int)) (blkOk_by (own := [("_law_one", 11)]) (N := N__law_random_tree) (sc := defScope s__law_random_tree) (by decide +kernel)) (fun _ _ _ _ _ => (pgf_name (i := 11) nd rfl (by first | exact Or.inl rfl | exact Or.inr rfl))) (fun _ _ _ _ _ => (ptsf_one (ptf_cmp (op_eqD' (hu64 hr)) (pf_ix (pf_var 11) pf_int) pf_int))) (fun _ _ _ _ _ => (pf_ix (pf_var 11) pf_int)))))
    (pssf_cons (psf_setLc (i := 4) (own := [("_law_one", 11)]) rfl nd rfl rfl (sw_true rfl rfl rfl (by decide +kernel)) (pif_any (pf_ix (pf_var 1) pf_int)) (blkOk_by (own := [("_law_one", 11)]) (N := N__law_random_tree) (sc := defScope s__law_random_tree) (by decide +kernel)) (fun _ _ _ _ _ => (pgf_name (i := 11) nd rfl (by first | exact Or.inl rfl | exact Or.inr rfl))) (fun _ _ _ _ _ => (ptsf_one (ptf_chain op_ltD op_leD pf_int (pf_ix (pf_var 11) pf_int) (pf_ix (pf_var 2) pf_int)))) (fun _ _ _ _ _ => (pf_var 11)))
    (pssf_cons (psf_set (i := 5) nd rfl (by first | exact Or.inl rfl | exact Or.inr rfl) (pf_callR G__law_random_notes (hr.mono (by omega)) hg (by rfl) tk (paf_cons (pf_var 0) paf_nil)))
    (pssf_cons (psf_if (ptf_w (pwf_or (ptf_cmp (op_eqL (hu64 hr)) (pf_var 4) (pf_lst paf_nil)) (pwf_or1 (ptf_cmp (op_eqD' (hu64 hr)) (pf_callR G__law_draw (hr.mono (by omega)) hg (by rfl) tk (paf_cons (pf_var 0) (paf_cons pf_int paf_nil))) pf_int)))) (pssf_one (psf_ret (pf_tup (paf_cons (pf_var 5) (paf_cons (pf_ix (pf_var 3) (pf_callR G__law_draw (hr.mono (by omega)) hg (by rfl) tk (paf_cons (pf_var 0) (paf_cons (pf_callB call_lenX (by rfl) T.b_len (by decide +kernel) (paf_cons (pf_var 3) paf_nil)) paf_nil)))) (paf_cons (pf_tup paf_nil) paf_nil)))))) pssf_nil)
    (pssf_cons (psf_asg (pf_ix (pf_var 4) (pf_callR G__law_draw (hr.mono (by omega)) hg (by rfl) tk (paf_cons (pf_var 0) (paf_cons (pf_callB call_lenX (by rfl) T.b_len (by decide +kernel) (paf_cons (pf_var 4) paf_nil)) paf_nil)))) (pgf_tup rfl (pgsf_cons (pgf_name (i := 8) nd rfl (by first | exact Or.inl rfl | exact Or.inr rfl)) (pgsf_cons (pgf_name (i := 9) nd rfl (by first | exact Or.inl rfl | exact Or.inr rfl)) (pgsf_cons (pgf_name (i := 10) nd rfl (by first | exact Or.inl rfl | exact Or.inr rfl)) pgsf_nil)))))
    (pssf_cons (psf_asg (pf_bin op_subD (pf_ix (pf_var 2) pf_int) (pf_var 9)) (pgf_ix (pf_w0 (W := fun c d _ H => E c d H) (pf_var 2)) (pf_w0 (W := fun c d _ H => E c d H) pf_int)))
    (pssf_cons (psf_set (i := 6) nd rfl (by first | exact Or.inl rfl | exact Or.inr rfl) (pf_lstS paf_nil))
    (pssf_cons (psf_for po rfl (pif_range1 (by rfl) T.b_range (paf_cons (pf_var 9) paf_nil)) (pgf_name (i := 7) nd rfl (by first | exact Or.inl rfl | exact Or.inr rfl))
    (pssf_cons (psf_asg (pf_bin op_addD (pf_ix (pf_var 2) pf_int) pf_int) (pgf_ix (pf_w0 (W := fun c d _ H => E c d H) (pf_var 2)) (pf_w0 (W := fun c d _ H => E c d H) pf_int)))
    (pssf_one (psf_expr (pf_lm PySem.F.slot_list_append PySem.F.type_list_append mtL_append (pf_var 6) (paf_cons (pf_callR G (hr.mono (by omega)) hg (by rfl) tk (paf_cons (pf_var 0) (paf_cons (pf_var 1) (paf_cons (pf_var 2) paf_nil)))) paf_nil))))))
    (pssf_one (psf_ret (pf_tup (paf_cons (pf_var 5) (paf_cons (pf_var 8) (paf_cons (pf_callTy call_tupleX (by rfl) T.b_tuple (by decide +kernel) (paf_cons (pf_var 6) paf_nil)) paf_nil)))))))))))))))
theorem sc__law_rows : FnScope N__law_rows P__law_rows (defScope s__law_rows) := ⟨rfl, rfl, rfl, by decide +kernel, rfl, by decide +kernel, by decide +kernel⟩
theorem G__law_rows (T : Tx P K mg) : Gx P w K mg base 1 T.d__law_rows F__law_rows := by
  refine gx_of _ sc__law_rows fun cdv A outer s H E hr hg => ?_
  have nd := sc__law_rows.nd
  have tk := tkX (P := P) (w := w) (K := K) (mg := mg) (base := base) (x := "_law_rows") (st := s__law_rows) (N := N__law_rows) (f := T.d__law_rows.f) (cdv := cdv) (A := A) (outer := outer) (s := s) (H := H) (E := E)
  have po := poX (P := P) (w := w) (K := K) (mg := mg) (base := base) (x := "_law_rows") (st := s__law_rows) (N := N__law_rows) (f := T.d__law_rows.f) (cdv := cdv) (A := A) (outer := outer) (s := s) (H := H) (E := E)
  exact (pssf_cons (psf_set (i := 2) nd rfl (by first | exact Or.inl rfl | exact Or.inr rfl) (pf_lst (paf_cons (pf_tup paf_nil) paf_nil)))
    (pssf_cons (psf_for po rfl (pif_range1 (by rfl) T.b_range (paf_cons (pf_var 1) paf_nil)) (pgf_name (i := 3) nd rfl (by first | exact Or.inl rfl | exact Or.inr rfl))
    (pssf_cons (psf_set (i := 4) nd rfl (by first | exact Or.inl rfl | exact Or.inr rfl) (pf_lst paf_nil))
    (pssf_cons (psf_for po rfl (pif_any (pf_var 2)) (pgf_name (i := 5) nd rfl (by first | exact Or.inl rfl | exact Or.inr rfl))
    (pssf_one (psf_set (i := 4) nd rfl (by first | exact Or.inl rfl | exact Or.inr rfl) (pf_bin op_addD (pf_var 4) (pf_lc (own := [("_law_one", 6)]) rfl nd (pif_range1 (by rfl) T.b_range (paf_cons (pf_var 0) paf_nil)) (blkOk_by (own := [("_law_one", 6)]) (N := N__law_rows) (sc := defScope s__law_rows) (by decide +kernel)) (fun _ _ _ _ _ => (pgf_name (i := 6) nd rfl (by first | exact Or.inl rfl | exact Or.inr rfl))) (fun _ _ _ _ _ => ptsf_nil) (fun _ _ _ _ _ => (pf_bin op_addD (pf_var 5) (pf_tup (paf_cons (pf_var 6) paf_nil)))))))))
    (pssf_one (psf_set (i := 2) nd rfl (by first | exact Or.inl rfl | exact Or.inr rfl) (pf_var 4))))))
    (pssf_one (psf_ret (pf_var 2)))))
theorem sc__law_worth : FnScope N__law_worth P__law_worth (defScope s__law_worth) := ⟨rfl, rfl, rfl, by decide +kernel, rfl, by decide +kernel, by decide +kernel⟩
theorem G__law_worth (T : Tx P K mg) : ∀ l, Gx P w K mg base (0 + l) T.d__law_worth (F__law_worth l)
  | 0 => gx_no _
  | l + 1 => by
    have G := G__law_worth T l
    refine gx_of (k := 0 + l) _ sc__law_worth fun cdv A outer s H E hr hg => ?_
    have nd := sc__law_worth.nd
    have tk := tkX (P := P) (w := w) (K := K) (mg := mg) (base := base) (x := "_law_worth") (st := s__law_worth) (N := N__law_worth) (f := T.d__law_worth.f) (cdv := cdv) (A := A) (outer := outer) (s := s) (H := H) (E := E)
    have po := poX (P := P) (w := w) (K := K) (mg := mg) (base := base) (x := "_law_worth") (st := s__law_worth) (N := N__law_worth) (f := T.d__law_worth.f) (cdv := cdv) (A := A) (outer := outer) (s := s) (H := H) (E := E)
    exact (pssf_cons (psf_asg (pf_var 0) (pgf_tup rfl (pgsf_cons (pgf_name (i := 5) nd rfl (by first | exact Or.inl rfl | exact Or.inr rfl)) (pgsf_cons (pgf_name (i := 6) nd rfl (by first | exact Or.inl rfl | exact Or.inr rfl)) (pgsf_cons (pgf_name (i := 7) nd rfl (by first | exact Or.inl rfl | exact Or.inr rfl)) pgsf_nil)))))
    (pssf_cons (psf_if (ptf_cmp (op_inX (hu65 hr)) (pf_ix (pf_var 1) pf_int) (pf_var 6)) (pssf_one (psf_ret (pf_ix (pf_var 2) (pf_ixT (pf_var 6) (pf_ix (pf_var 1) pf_int))))) pssf_nil)
    (pssf_cons (psf_set (i := 3) nd rfl (by first | exact Or.inl rfl | exact Or.inr rfl) pf_int)
    (pssf_cons (psf_for po rfl (pif_any (pf_ix (pf_var 1) pf_int)) (pgf_name (i := 4) nd rfl (by first | exact Or.inl rfl | exact Or.inr rfl))
    (pssf_one (psf_set (i := 3) nd rfl (by first | exact Or.inl rfl | exact Or.inr rfl) (pf_bin op_addD (pf_bin op_mulD (pf_var 3) (pf_var 5)) (pf_callR G (hr.mono (by omega)) hg (by rfl) tk (paf_cons (pf_var 0) (paf_cons (pf_var 4) (paf_cons (pf_var 2) paf_nil))))))))
    (pssf_one (psf_ret (pf_ix (pf_ix (pf_lc (own := [("_law_one", 8)]) rfl nd (pif_any (pf_var 7)) (blkOk_by (own := [("_law_one", 8)]) (N := N__law_worth) (sc := defScope s__law_worth) (by decide +kernel)) (fun _ _ _ _ _ => (pgf_name (i := 8) nd rfl (by first | exact Or.inl rfl | exact Or.inr rfl))) (fun _ _ _ _ _ => (ptsf_one (ptf_cmp (op_eqD' (hu64 hr)) (pf_ix (pf_var 8) pf_int) (pf_ix (pf_var 1) pf_int)))) (fun _ _ _ _ _ => (pf_ix (pf_var 8) pf_int))) pf_int) (pf_var 3))))))))
theorem sc__law_due : FnScope N__law_due P__law_due (defScope s__law_due) := ⟨rfl, rfl, rfl, by decide +kernel, rfl, by decide +kernel, by decide +kernel⟩
theorem G__law_due (T : Tx P K mg) : Gx P w K mg base 15 T.d__law_due F__law_due := by
  have G__law_worth := G__law_worth (P := P) (w := w) (base := base) T 14
  have G__law_is_number := G__law_is_number (P := P) (w := w) (base := base) T
  refine gx_of _ sc__law_due fun cdv A outer s H E hr hg => ?_
  have nd := sc__law_due.nd
  have tk := tkX (P := P) (w := w) (K := K) (mg := mg) (base := base) (x := "_law_due") (st := s__law_due) (N := N__law_due) (f := T.d__law_due.f) (cdv := cdv) (A := A) (outer := outer) (s := s) (H := H) (E := E)
  have po := poX (P := P) (w := w) (K := K) (mg := mg) (base := base) (x := "_law_due") (st := s__law_due) (N := N__law_due) (f := T.d__law_due.f) (cdv := cdv) (A := A) (outer := outer) (s := s) (H := H) (E := E)
  exact (pssf_cons (psf_if (ptf_cmp (op_neD' (hu64 hr)) (pf_callB call_lenX (by rfl) T.b_len (by decide +kernel) (paf_cons (pf_var 2) paf_nil)) (pf_callB call_lenX (by rfl) T.b_len (by decide +kernel) (paf_cons (pf_ix (pf_var 0) pf_int) paf_nil))) (pssf_one (psf_ret (pf_tup (paf_cons pf_str (paf_cons pf_str (paf_cons (pf_un un_negD pf_int) paf_nil)))))) pssf_nil)
    (pssf_cons (psf_for po rfl (pif_range1 (by rfl) T.b_range (paf_cons (pf_callB call_lenX (by rfl) T.b_len (by decide +kernel) (paf_cons (pf_var 2) paf_nil)) paf_nil)) (pgf_name (i := 3) nd rfl (by first | exact Or.inl rfl | exact Or.inr rfl))
    (pssf_one (psf_if (ptf_w (pwf_or (ptf_not (ptf_tru (pf_callR G__law_is_number (hr.mono (by decide)) hg (by rfl) tk (paf_cons (pf_ix (pf_var 2) (pf_var 3)) paf_nil)))) (pwf_or1 (ptf_cmp op_geD (pf_ix (pf_var 2) (pf_var 3)) (pf_ix (pf_var 0) pf_int))))) (pssf_one (psf_ret (pf_tup (paf_cons pf_str (paf_cons pf_str (paf_cons (pf_var 3) paf_nil)))))) pssf_nil)))
    (pssf_one (psf_ret (pf_tup (paf_cons pf_str (paf_cons (pf_callR G__law_worth (hr.mono (by decide)) hg (by rfl) tk (paf_cons (pf_var 0) (paf_cons (pf_var 1) (paf_cons (pf_var 2) paf_nil)))) paf_nil)))))))
theorem sc__law_odd_rows : FnScope N__law_odd_rows P__law_odd_rows (defScope s__law_odd_rows) := ⟨rfl, rfl, rfl, by decide +kernel, rfl, by decide +kernel, by decide +kernel⟩
theorem G__law_odd_rows (T : Tx P K mg) : Gx P w K mg base 2 T.d__law_odd_rows F__law_odd_rows := by
  have G__law_draw := G__law_draw (P := P) (w := w) (base := base) T
  refine gx_of _ sc__law_odd_rows fun cdv A outer s H E hr hg => ?_
  have nd := sc__law_odd_rows.nd
  have tk := tkX (P := P) (w := w) (K := K) (mg := mg) (base := base) (x := "_law_odd_rows") (st := s__law_odd_rows) (N := N__law_odd_rows) (f := T.d__law_odd_rows.f) (cdv := cdv) (A := A) (outer := outer) (s := s) (H := H) (E := E)
  have po := poX (P := P) (w := w) (K := K) (mg := mg) (base := base) (x := "_law_odd_rows") (st := s__law_odd_rows) (N := N__law_odd_rows) (f := T.d__law_odd_rows.f) (cdv := cdv) (A := A) (outer := outer) (s := s) (H := H) (E := E)
  exact (pssf_cons (psf_set (i := 2) nd rfl (by first | exact Or.inl rfl | exact Or.inr rfl) (pf_lst (paf_cons pf_int (paf_cons (pf_ix (pf_var 1) pf_int) (paf_cons (pf_un un_negD pf_int) (paf_cons pf_bl (paf_cons pf_bl (paf_cons pf_non (paf_cons pf_str (paf_cons (pf_tup (paf_cons pf_int paf_nil)) (paf_cons (pf_lst (paf_cons pf_int paf_nil)) (paf_cons (pf_bin op_powD pf_int pf_int) paf_nil))))))))))))
    (pssf_cons (psf_set (i := 3) nd rfl (by first | exact Or.inl rfl | exact Or.inr rfl) (pf_lstS (paf_cons (pf_bin op_addD (pf_bin op_mulD (pf_tup (paf_cons pf_int paf_nil)) (pf_callB call_lenX (by rfl) T.b_len (by decide +kernel) (paf_cons (pf_ix (pf_var 1) pf_int) paf_nil))) (pf_tup (paf_cons pf_int paf_nil))) (paf_cons (pf_bin op_mulD (pf_tup (paf_cons pf_non paf_nil)) (pf_bin op_addD (pf_callB call_lenX (by rfl) T.b_len (by decide +kernel) (paf_cons (pf_ix (pf_var 1) pf_int) paf_nil)) pf_int)) paf_nil))))
    (pssf_cons (psf_set (i := 3) nd rfl (by first | exact Or.inl rfl | exact Or.inr rfl) (pf_addS (pf_var 3) (pf_lst (paf_cons (pf_bin op_mulD (pf_tup (paf_cons pf_int paf_nil)) (pf_callB (call_max2X rfl) (by rfl) T.b_max (by decide +kernel) (paf_cons pf_int (paf_cons (pf_bin op_subD (pf_callB call_lenX (by rfl) T.b_len (by decide +kernel) (paf_cons (pf_ix (pf_var 1) pf_int) paf_nil)) pf_int) paf_nil)))) paf_nil))))
    (pssf_cons (psf_for po rfl (pif_range1 (by rfl) T.b_range (paf_cons pf_int paf_nil)) (pgf_name (i := 4) nd rfl (by first | exact Or.inl rfl | exact Or.inr rfl))
    (pssf_one (psf_expr (pf_lm PySem.F.slot_list_append PySem.F.type_list_append mtL_append (pf_var 3) (paf_cons (pf_callTy call_tupleX (by rfl) T.b_tuple (by decide +kernel) (paf_cons (pf_lc (own := [("_law_name", 5)]) rfl nd (pif_any (pf_ix (pf_var 1) pf_int)) (blkOk_by (own := [("_law_name", 5)]) (N := N__law_odd_rows) (sc := defScope s__law_odd_rows) (by decide +kernel)) (fun _ _ _ _ _ => (pgf_name (i := 5) nd rfl (by first | exact Or.inl rfl | exact Or.inr rfl))) (fun _ _ _ _ _ => ptsf_nil) (fun _ _ _ _ _ => (pf_ix (pf_var 2) (pf_callR G__law_draw (hr.mono (by decide)) hg (by rfl) takesW0 (paf_cons (pf_var 0) (paf_cons (pf_ix (pf_lst (paf_cons pf_int (paf_cons pf_int paf_nil))) (pf_callR G__law_draw (hr.mono (by decide)) hg (by rfl) takesW0 (paf_cons (pf_var 0) (paf_cons pf_int paf_nil)))) paf_nil)))))) paf_nil)) paf_nil)))))
    (pssf_one (psf_ret (pf_fz (pf_var 3))))))))
theorem sc_law : FnScope N_law P_law (defScope s_law) := ⟨rfl, rfl, rfl, by decide +kernel, rfl, by decide +kernel, by decide +kernel⟩
theorem G_law (T : Tx P K mg) (B : Bx T base) : Gx P w K mg base 19 T.d_law F_law := by
  have G__law_reader := G__law_reader (P := P) (w := w) (base := base) T
  have G__law_fixed_tongues := G__law_fixed_tongues (P := P) (w := w) (base := base) T
  have G__law_rows := G__law_rows (P := P) (w := w) (base := base) T
  have G__law_random_tongue := G__law_random_tongue (P := P) (w := w) (base := base) T
  have G__law_random_tree := G__law_random_tree (P := P) (w := w) (base := base) T 14
  have G__law_odd_rows := G__law_odd_rows (P := P) (w := w) (base := base) T
  have G_table_of := G_table_of (P := P) (w := w) (base := base) T
  have G__law_draw := G__law_draw (P := P) (w := w) (base := base) T
  have G_value_of := G_value_of (P := P) (w := w) (base := base) T
  have G__law_due := G__law_due (P := P) (w := w) (base := base) T
  have G__law_worth := G__law_worth (P := P) (w := w) (base := base) T 14
  refine Te.gx_ofT _ sc_law T.l_law.code fun A outer s H E hr hg => ?_
  have nd := sc_law.nd
  have tk := tkX (P := P) (w := w) (K := K) (mg := mg) (base := base) (x := "law") (st := s_law) (N := N_law) (f := T.d_law.f) (cdv := .ref T.l_law.c) (A := A) (outer := outer) (s := s) (H := H) (E := E)
  have po := poX (P := P) (w := w) (K := K) (mg := mg) (base := base) (x := "law") (st := s_law) (N := N_law) (f := T.d_law.f) (cdv := .ref T.l_law.c) (A := A) (outer := outer) (s := s) (H := H) (E := E)
  exact (pssf_cons (psf_set (i := 1) nd rfl (by first | exact Or.inl rfl | exact Or.inr rfl) (pf_callR G__law_reader (hr.mono (by decide)) hg (by rfl) tk (paf_cons (pf_var 0) paf_nil)))
    (pssf_cons (psf_set (i := 2) nd rfl (by first | exact Or.inl rfl | exact Or.inr rfl) (pf_callR0 G__law_fixed_tongues (hr.mono (by decide)) hg (by rfl) tk))
    (pssf_cons (psf_for po rfl (pif_range1 (by rfl) T.b_range (paf_cons pf_int paf_nil)) (pgf_name (i := 3) nd rfl (by first | exact Or.inl rfl | exact Or.inr rfl))
    (pssf_one (psf_expr (pf_lm PySem.F.slot_list_append PySem.F.type_list_append mtL_append (pf_var 2) (paf_cons (pf_callR G__law_random_tongue (hr.mono (by decide)) hg (by rfl) tk (paf_cons (pf_var 1) paf_nil)) paf_nil)))))
    (pssf_fz (i := 2) (pssf_cons (psf_for po rfl (pif_any (pf_var 2)) (pgf_name (i := 4) nd rfl (by first | exact Or.inl rfl | exact Or.inr rfl))
    (pssf_cons (psf_set (i := 5) nd rfl (by first | exact Or.inl rfl | exact Or.inr rfl) (pf_callR G__law_rows (hr.mono (by decide)) hg (by rfl) tk (paf_cons (pf_ix (pf_var 4) pf_int) (paf_cons (pf_callB call_lenX (by rfl) T.b_len (by decide +kernel) (paf_cons (pf_ix (pf_var 4) pf_int) paf_nil)) paf_nil))))
    (pssf_one (psf_for po rfl (pif_range1 (by rfl) T.b_range (paf_cons pf_int paf_nil)) (pgf_name (i := 3) nd rfl (by first | exact Or.inl rfl | exact Or.inr rfl))
    (pssf_cons (psf_set (i := 6) nd rfl (by first | exact Or.inl rfl | exact Or.inr rfl) (pf_callR G__law_random_tree (hr.mono (by decide)) hg (by rfl) tk (paf_cons (pf_var 1) (paf_cons (pf_var 4) (paf_cons (pf_lstS (paf_cons (pf_bin op_addD pf_int (pf_callR G__law_draw (hr.mono (by decide)) hg (by rfl) tk (paf_cons (pf_var 1) (paf_cons pf_int paf_nil)))) paf_nil)) paf_nil)))))
    (pssf_cons (psf_set (i := 7) nd rfl (by first | exact Or.inl rfl | exact Or.inr rfl) (pf_callB (call_reprX hg (hu70 hr)) (by rfl) T.b_repr (by decide +kernel) (paf_cons (pf_lst (paf_cons (pf_var 4) (paf_cons (pf_var 6) paf_nil))) paf_nil)))
    (pssf_cons (psf_if (ptf_cmp (op_neD' (hu64 hr)) (pf_callB (call_reprX hg (hu70 hr)) (by rfl) T.b_repr (by decide +kernel) (paf_cons (pf_callR G_table_of (hr.mono (by decide)) hg (by rfl) tk (paf_cons (pf_var 4) (paf_cons (pf_var 6) paf_nil))) paf_nil)) (pf_callB (call_reprX hg (hu70 hr)) (by rfl) T.b_repr (by decide +kernel) (paf_cons (pf_callTy call_tupleX (by rfl) T.b_tuple (by decide +kernel) (paf_cons (pf_lc (own := [("_law_row", 8)]) rfl nd (pif_any (pf_var 5)) (blkOk_by (own := [("_law_row", 8)]) (N := N_law) (sc := defScope s_law) (by decide +kernel)) (fun _ _ _ _ _ => (pgf_name (i := 8) nd rfl (by first | exact Or.inl rfl | exact Or.inr rfl))) (fun _ _ _ _ _ => ptsf_nil) (fun _ _ _ _ _ => (pf_callR G__law_worth (hr.mono (by decide)) hg (by rfl) takesW0 (paf_cons (pf_var 4) (paf_cons (pf_var 6) (paf_cons (pf_var 8) paf_nil)))))) paf_nil)) paf_nil))) (pssf_one (psf_ret pf_bl)) pssf_nil)
    (pssf_cons (psf_for po rfl (pif_any (pf_bin op_addD (pf_step (c := 3) (pf_var 5) (pof_some (pf_callR G__law_draw (hr.mono (by decide)) hg (by rfl) tk (paf_cons (pf_var 1) (paf_cons pf_int paf_nil)))) pof_none) (pf_callR G__law_odd_rows (hr.mono (by decide)) hg (by rfl) tk (paf_cons (pf_var 1) (paf_cons (pf_var 4) paf_nil))))) (pgf_name (i := 8) nd rfl (by first | exact Or.inl rfl | exact Or.inr rfl))
    (pssf_cons (psf_set (i := 9) nd rfl (by first | exact Or.inl rfl | exact Or.inr rfl) (Te.pf_outD (k := 15) T.d__law_outcome T.l_law B.b_law sc__law_outcome rfl (by first | exact Or.inl rfl | exact Or.inr (Or.inl rfl)) (fun cdv => GO__law_outcome (X := cxOf (L2N.CX P w) P w K mg base N_law "law" (defScope s_law) T.d_law.f (.ref T.l_law.c) A outer s H E) T B.h__law_outcome (hr.mono (by decide)) hg cdv _) (hr.mono (by decide)) hg (by rfl) (by rfl) rfl (show LamX.LamS (defScope s_law) _ from LamX.lamS_by (by decide +kernel)) rfl (by intros; rfl)
    (fun A outer s H E f c' hr hg => (pf_callR G_value_of (hr.mono (by decide)) hg (by rfl) Te.tkN (paf_cons (pf_var 4) (paf_cons (pf_var 6) (paf_cons (pf_var 8) paf_nil)))))))
    (pssf_one (psf_if (ptf_cmp (op_neD' (hu64 hr)) (pf_callB (call_reprX hg (hu70 hr)) (by rfl) T.b_repr (by decide +kernel) (paf_cons (pf_var 9) paf_nil)) (pf_callB (call_reprX hg (hu70 hr)) (by rfl) T.b_repr (by decide +kernel) (paf_cons (pf_callR G__law_due (hr.mono (by decide)) hg (by rfl) tk (paf_cons (pf_var 4) (paf_cons (pf_var 6) (paf_cons (pf_var 8) paf_nil)))) paf_nil))) (pssf_one (psf_ret pf_bl)) pssf_nil))))
    (pssf_one (psf_if (ptf_cmp (op_neD' (hu64 hr)) (pf_callB (call_reprX hg (hu70 hr)) (by rfl) T.b_repr (by decide +kernel) (paf_cons (pf_lst (paf_cons (pf_var 4) (paf_cons (pf_var 6) paf_nil))) paf_nil)) (pf_var 7)) (pssf_one (psf_ret pf_bl)) pssf_nil))))))))))
    (pssf_one (psf_ret pf_bl)))))))
end
end Tk

set_option Elab.async false
set_option linter.all false
set_option maxRecDepth 100000
set_option maxHeartbeats 4000000
namespace Tk
open PySem L2 Td Tg Tt
theorem leave_rt {w' : Ws} {n : Nat} {d : PyData} (h : w'.length = n) : leave n (.rt d w') = .ok d w' := by
  subst h
  simp only [leave]
  split
  · rw [List.take_length]
  · rfl
theorem k_ii : kitB "int" "int" = some true := by decide +kernel
theorem k_ib : kitB "int" "bool" = some false := by decide +kernel
theorem k_is : kitB "int" "str" = some false := by decide +kernel
theorem k_it : kitB "int" "tuple" = some false := by decide +kernel
theorem k_bi : kitB "bool" "int" = some true := by decide +kernel
theorem k_bb : kitB "bool" "bool" = some true := by decide +kernel
theorem k_bs : kitB "bool" "str" = some false := by decide +kernel
theorem k_bt : kitB "bool" "tuple" = some false := by decide +kernel
theorem k_si : kitB "str" "int" = some false := by decide +kernel
theorem k_sb : kitB "str" "bool" = some false := by decide +kernel
theorem k_ss : kitB "str" "str" = some true := by decide +kernel
theorem k_st : kitB "str" "tuple" = some false := by decide +kernel
theorem k_ti : kitB "tuple" "int" = some false := by decide +kernel
theorem k_tb : kitB "tuple" "bool" = some false := by decide +kernel
theorem k_ts : kitB "tuple" "str" = some false := by decide +kernel
theorem k_tt : kitB "tuple" "tuple" = some true := by decide +kernel
theorem k_li : kitB "list" "int" = some false := by decide +kernel
theorem k_lb : kitB "list" "bool" = some false := by decide +kernel
theorem k_ls : kitB "list" "str" = some false := by decide +kernel
theorem k_lt : kitB "list" "tuple" = some false := by decide +kernel
theorem k_ni : kitB "NoneType" "int" = some false := by decide +kernel
theorem k_nb : kitB "NoneType" "bool" = some false := by decide +kernel
theorem k_ns : kitB "NoneType" "str" = some false := by decide +kernel
theorem k_nt : kitB "NoneType" "tuple" = some false := by decide +kernel
/-! comprehensions that change nothing -/
/-- the size of a text -/
noncomputable def szD : PyData → Bool
  | .none => true
  | .bool _ => true
  | .int _ => true
  | .str z => szOk z.length && PyData.strOk z
  | .list _ => true
  | .tuple _ => true
  | .dict _ => true
/-! is_ascending -/
theorem eB_ok {f : Ws → PyData → PyData → Option PyData} {fa fb : FE} {ρ : Ev} {w w1 w2 : Ws} {a b d : PyData} (h1 : fa ρ w = .ok a w1) (h2 : fb ρ w1 = .ok b w2) (h3 : f w2 a b = some d) : eB f fa fb ρ w = .ok d w2 := by
  simp only [eB, h1, h2, h3, Oc.bind, Oc.of]
theorem eV_ok {i : Nat} {ρ : Ev} {w : Ws} {d : PyData} (h : ρ[i]? = some (some d)) : eV i ρ w = .ok d w := by simp only [eV, h]
end Tk

set_option Elab.async false
set_option linter.all false
set_option maxRecDepth 100000
set_option maxHeartbeats 4000000
namespace Tk
open PySem L2 Td Tg Tt
/-! _law_rises -/
/-! ### values of a good size -/
structure VG (d : PyData) : Prop where
  ok : okD d = true
  wt : wt d ≤ 60000
  dp : d.depth ≤ 60
theorem VG.sz {d : PyData} (h : VG d) : szD d = true := by
  have h1 := h.ok
  have h2 := h.wt
  cases d with
  | str z =>
    simp only [okD] at h1
    simp only [Td.wt] at h2
    simp only [szD, szOk_of (show z.length ≤ 10000000 by omega), asc_ok h1, Bool.and_self]
  | _ => rfl
theorem VG.part {ds : List PyData} {x : PyData} (h : VG (.tuple ds)) (hx : x ∈ ds) : VG x := by
  have h1 := h.ok
  have h2 := h.wt
  have h3 := h.dp
  simp only [okD, Td.wt, PyData.depth] at h1 h2 h3
  have := wtA_mem hx
  have := (depthAll_le (D := 59) (a := ds)).mp (by omega) x hx
  exact ⟨okDA_iff.mp h1 x hx, by omega, by omega⟩
theorem VG.len {ds : List PyData} (h : VG (.tuple ds)) : ds.length ≤ 60000 := by
  have h2 := h.wt
  have := len_wtA ds
  simp only [Td.wt] at h2
  omega
/-! ### putting at a place -/
theorem cut_to {α : Type} (xs : List α) (k : Nat) : cutL xs none (some (k : Int)) = xs.take k := by
  unfold cutL
  rw [HT.sIx_none, HT.sIx_nat, List.drop_zero, Nat.sub_zero]
  by_cases h : k ≤ xs.length
  · rw [Nat.min_eq_left h]
  · rw [Nat.min_eq_right (by omega), List.take_of_length_le (Nat.le_refl _), List.take_of_length_le (by omega)]
mutual
theorem bnd_toD (n : Nat) : ∀ t : Tr, bnd n (toD t) = true
  | .mk ns h ps => by
    have e : bndA n (ns.map PyData.str) = true := by
      induction ns with
      | nil => rfl
      | cons a ns ih => simp [bndA, bnd, ih]
    simp [toD, bnd, bndA, bnd_toDs n ps, e]
theorem bnd_toDs (n : Nat) : ∀ ps : List Tr, bndA n (toDs ps) = true
  | [] => rfl
  | p :: ps => by simp [toDs, bndA, bnd_toD n p, bnd_toDs n ps]
end
theorem hgt_mem {ps : List Tr} {x : Tr} (h : x ∈ ps) : hgt x + 1 ≤ hgtA ps := by
  obtain ⟨k, hk⟩ := List.getElem?_of_mem h
  exact hgtA_get hk
theorem len_rf {W : Ws} {k : Nat} {ds : List PyData} (h : W[k]? = some (.lst ds)) : lenD W [rf k] = some (.int ds.length) := by
  simp only [lenD, rf, lst_at h, Option.map_some]
end Tk

set_option Elab.async false
set_option linter.all false
set_option maxRecDepth 100000
set_option maxHeartbeats 4000000
namespace Tk
open PySem L2 Td Tg Tt
theorem bndA_toDs (n : Nat) (L : List Tr) : bndA n (toDs L) = true := bnd_toDs n L
theorem toDs_app (a b : List Tr) : toDs (a ++ b) = toDs a ++ toDs b := by simp only [toDs_map, List.map_append]
theorem toDs_len (a : List Tr) : (toDs a).length = a.length := by rw [toDs_map, List.length_map]
noncomputable def szS (z : Str) : Bool := szOk z.length && PyData.strOk z
/-! ### the trees of the law -/
noncomputable def NU : List Str := ["-a", "-b", "-idem", "=a", "=b", "=no", "=zzzzzzzz", "a", "b", "c", "odd", "why"]
noncomputable def HU : List Str := ["x", "no", "and", "or", "not", "f", "g", "h", "top", "zzzzzzzz", "a", "y", "up", "max"]
mutual
noncomputable def VT : Tr → Prop
  | .mk ns h ps => ns.Sublist NU ∧ h ∈ HU ∧ VTA ps
noncomputable def VTA : List Tr → Prop
  | [] => True
  | p :: ps => VT p ∧ VTA ps
end
theorem VTA_iff : ∀ {ps : List Tr}, VTA ps ↔ ∀ p ∈ ps, VT p
  | [] => by simp [VTA]
  | p :: ps => by simp [VTA, VTA_iff (ps := ps)]
theorem VT.at_ : ∀ {q : List Nat} {t a : Tr}, VT t → sub t q = some a → VT a
  | [], t, a, h, e => by rw [sub_nil] at e; cases e; exact h
  | k :: q, .mk ns hd ps, a, h, e => by
    obtain ⟨p, hp, e⟩ := sub_inv e
    exact VT.at_ (VTA_iff.mp h.2.2 p (List.mem_of_getElem? hp)) e
mutual
theorem VT.br : ∀ {t : Tr}, VT t → VT (bare t)
  | .mk ns hd ps, h => ⟨List.nil_sublist _, h.2.1, VTA.br h.2.2⟩
theorem VTA.br : ∀ {ps : List Tr}, VTA ps → VTA (bareA ps)
  | [], _ => trivial
  | p :: ps, h => ⟨VT.br h.1, VTA.br h.2⟩
end
theorem NU_ok : ∀ n ∈ NU, (ascS n && szS n) = true := by decide +kernel
theorem HU_ok : ∀ n ∈ HU, ascS n = true := by decide +kernel
theorem okDA_strs {ns : List Str} (h : ∀ n ∈ ns, n ∈ NU) : okDA (ns.map .str) = true := by
  refine okDA_iff.mpr fun d hd => ?_
  obtain ⟨n, hn, rfl⟩ := List.mem_map.mp hd
  have := NU_ok n (h n hn)
  rw [Bool.and_eq_true] at this
  simpa [okD] using this.1
mutual
theorem okD_toD : ∀ {t : Tr}, VT t → okD (toD t) = true
  | .mk ns hd ps, h => by
    have h1 := okDA_strs fun n hn => h.1.subset hn
    have h2 := HU_ok hd h.2.1
    have h3 := okDA_toDs h.2.2
    simp only [toD, okD, okDA, h1, h2, h3, Bool.and_self]
theorem okDA_toDs : ∀ {ps : List Tr}, VTA ps → okDA (toDs ps) = true
  | [], _ => rfl
  | p :: ps, h => by simp only [toDs, okDA, okD_toD h.1, okDA_toDs h.2, Bool.and_self]
end
theorem dpA_strs : ∀ ns : List Str, PyData.depthAll (ns.map .str) ≤ 1
  | [] => by simp [PyData.depthAll]
  | n :: ns => by have := dpA_strs ns; simp only [List.map_cons, PyData.depthAll, PyData.depth]; omega
mutual
theorem dp_toD : ∀ t : Tr, (toD t).depth ≤ 2 * hgt t + 3
  | .mk ns h ps => by
    have h1 := dpA_strs ns
    have h2 := dpA_toDs ps
    simp only [toD, PyData.depth, PyData.depthAll, hgt]; omega
theorem dpA_toDs : ∀ ps : List Tr, PyData.depthAll (toDs ps) ≤ 2 * hgtA ps + 1
  | [] => by simp [toDs, PyData.depthAll, hgtA]
  | p :: ps => by
    have h1 := dp_toD p
    have h2 := dpA_toDs ps
    simp only [toDs, PyData.depthAll, hgtA]; omega
end
/-! comparing -/
theorem depthA_le {n : Nat} : ∀ {ds : List PyData}, (∀ d ∈ ds, d.depth ≤ n) → PyData.depthAll ds ≤ n
  | [], _ => by simp [PyData.depthAll]
  | d :: ds, h => by
    have h1 := h d List.mem_cons_self
    have h2 := depthA_le fun x hx => h x (List.mem_cons_of_mem _ hx)
    simp only [PyData.depthAll]; omega
/-! notes, sorted -/
theorem NU_pw : NU.Pairwise (leS · · = true) := by decide +kernel
theorem srt_sub {ys xs : List Str} (h : ys.Sublist NU) (hp : ys.Perm xs) : srtS xs = ys :=
  (List.Perm.eq_of_pairwise (fun a b _ _ => leS_anti) (NU_pw.sublist h) (srtS_srt xs) (hp.trans (srtS_perm xs).symm)).symm
/-! ### a place, checked -/
theorem lcL_flt {α : Type} {gt : FG} {tt : FT} {fe : FE} {ρ : Ev} {w : Ws} (g : α → PyData) (p : α → Bool) (f : α → PyData) : ∀ (L : List α) (acc : List PyData), acc.length + L.length ≤ 100000 →
    (∀ x ∈ L, ∃ ρ1, gt (g x) ρ w = .ok ρ1 w ∧ tt ρ1 w = .ok (p x) w ∧ (p x = true → fe ρ1 w = .ok (f x) w)) → lcL gt tt fe ρ (L.map g) w acc = .ok (acc ++ (L.filter p).map f) w
  | [], acc, _, _ => by simp [lcL]
  | x :: L, acc, hs, h => by
    obtain ⟨ρ1, h1, h2, h3⟩ := h x List.mem_cons_self
    simp only [List.length_cons] at hs
    cases hp : p x with
    | false =>
      rw [hp] at h2
      have ih := lcL_flt g p f L acc (by omega) fun y hy => h y (List.mem_cons_of_mem _ hy)
      simp only [List.map_cons, lcL, h1, h2, ih, List.filter_cons, hp]
      rfl
    | true =>
      rw [hp] at h2
      have ih := lcL_flt g p f L (acc ++ [f x]) (by rw [List.length_append, List.length_singleton]; omega) fun y hy => h y (List.mem_cons_of_mem _ hy)
      simp only [List.map_cons, lcL, h1, h2, h3 hp, ih, List.filter_cons, hp, if_pos (show acc.length < sizeLine by rw [sizeLine_eq]; omega)]
      simp
end Tk

set_option Elab.async false
set_option linter.all false
set_option maxRecDepth 100000
set_option maxHeartbeats 4000000
namespace Tk
open PySem L2 Td Tg Tt
/-! ### the reader -/
theorem ne_cs : ¬ (("cells" : Str) = "spot") := by decide +kernel
theorem ne_cr : ¬ (("cells" : Str) = "rest") := by decide +kernel
theorem ne_cc : ¬ (("cells" : Str) = "calls") := by decide +kernel
theorem ne_sr : ¬ (("spot" : Str) = "rest") := by decide +kernel
theorem ne_sk : ¬ (("spot" : Str) = "calls") := by decide +kernel
theorem ne_rs : ¬ (("rest" : Str) = "spot") := by decide +kernel
theorem ne_rk : ¬ (("rest" : Str) = "calls") := by decide +kernel
theorem ne_ks : ¬ (("calls" : Str) = "spot") := by decide +kernel
theorem ne_kr : ¬ (("calls" : Str) = "rest") := by decide +kernel
noncomputable def rdL (a b c d : PyData) : List (Key × PyData) := [(.inr "cells", a), (.inr "spot", b), (.inr "rest", c), (.inr "calls", d)]
noncomputable def rd (cells : List Int) (spot rest calls : Int) : Ob := .dK (rdL (.list (cells.map .int)) (.int spot) (.int rest) (.int calls))
section
variable {a b c d v : PyData}
theorem v_cells : valD (rdL a b c d) (.inr "cells") = some a := by simp [valD, rdL]
theorem v_spot : valD (rdL a b c d) (.inr "spot") = some b := by simp [valD, rdL, ne_cs]
theorem v_rest : valD (rdL a b c d) (.inr "rest") = some c := by simp [valD, rdL, ne_cr, ne_sr]
theorem v_calls : valD (rdL a b c d) (.inr "calls") = some d := by simp [valD, rdL, ne_cc, ne_sk, ne_rk]
theorem p_spot : putD (rdL a b c d) (.inr "spot") v = rdL a v c d := by simp [putD, rdL, ne_cs, ne_rs, ne_ks]
theorem p_rest : putD (rdL a b c d) (.inr "rest") v = rdL a b v d := by simp [putD, rdL, ne_cr, ne_sr, ne_kr]
theorem p_calls : putD (rdL a b c d) (.inr "calls") v = rdL a b c v := by simp [putD, rdL, ne_cc, ne_sk, ne_rk]
theorem rdL_len : (rdL a b c d).length = 4 := rfl
end
/-- a reader that has been asked at most n times -/
structure RdOk (ob : Ob) (n : Nat) : Prop where
  ex : ∃ cells spot rest calls, ob = rd cells spot rest calls ∧ cells.length ≤ 63 ∧ 0 ≤ spot ∧ 0 ≤ rest ∧ 0 ≤ calls ∧ calls ≤ n
theorem RdOk.mono {ob : Ob} {m n : Nat} (h : RdOk ob m) (hn : m ≤ n) : RdOk ob n := by
  obtain ⟨cells, spot, rest, calls, h1, h2, h3, h4, h5, h6⟩ := h.ex
  exact ⟨⟨cells, spot, rest, calls, h1, h2, h3, h4, h5, by omega⟩⟩
theorem dk_at {w : Ws} {l : Nat} {kvs : List (Key × PyData)} (h : w[l]? = some (.dK kvs)) : dkOf w (rf l) = some kvs := by
  simp [dkOf, rf, h]
theorem four_lt : 4 < sizeLine := by rw [sizeLine_eq]; decide
theorem loc_rf (l : Nat) : locOf (rf l) = some l := by simp [locOf, rf]
theorem key_str (x : Str) : keyD (.str x) = some (.inr x) := rfl
theorem set_set {w : Ws} {l : Nat} {a b : Ob} : (w.set l a).set l b = w.set l b := List.set_set ..
theorem fmod_rng {a m : Int} (h : 0 < m) : 0 ≤ a.fmod m ∧ a.fmod m < m := ⟨Int.fmod_nonneg_of_pos a h, Int.fmod_lt_of_pos a h⟩
theorem fdiv_nn {a m : Int} (ha : 0 ≤ a) (h : 0 < m) : 0 ≤ a.fdiv m := Int.fdiv_nonneg ha (Int.le_of_lt h)
theorem draw_ok {w : Ws} {l : Nat} {ob : Ob} {n : Nat} {m : Int} (hw : w[l]? = some ob) (hr : RdOk ob n) (hn : n < 1000000) (hm : 1 ≤ m) (hm2 : m < 1000000) :
    ∃ v ob', F__law_draw [rf l, .int m] w = .ok (.int v) (w.set l ob') ∧ 0 ≤ v ∧ v < m ∧ RdOk ob' (n + 1) := by
  obtain ⟨cells, spot, rest, calls, rfl, hc, hs, hre, hca, hcn⟩ := hr.ex
  have hl : l < w.length := (List.getElem?_eq_some_iff.mp hw).1
  have d0 : dkOf w (rf l) = some (rdL (.list (cells.map .int)) (.int spot) (.int rest) (.int calls)) := dk_at hw
  have ds : ∀ kvs, dkOf (w.set l (.dK kvs)) (rf l) = some kvs := fun kvs => dk_at (by rw [List.getElem?_set_self hl])
  have nz : cNz 0 m = true := decide_eq_true (by omega)
  have nz' : ∀ x, cNz x m = true := fun x => decide_eq_true (by omega)
  have dv' : ∀ x, cDv x m = true := fun x => by
    unfold cDv
    rw [decide_eq_true (show m ≠ 0 by omega), decide_eq_true (show m.natAbs < 1073741824 by omega)]; rfl
  rw [F__law_draw, defF, if_pos (by rfl), b__law_draw]
  rw [show startE 8 [rf l, PyData.int m] = [some (rf l), some (.int m), none, none, none, none, none, none] from rfl]
  rw [seq_nx (ρ1 := [some (rf l), some (.int m), some (.int (calls + 1)), none, none, none, none, none]) (w1 := w) (by
    simp [sAsg, gN, eB, eDg, eV, eC, Oc.bind, Oc.thenS, Oc.of, d0, key_str, v_calls, addD])]
  rw [seq_nx (ρ1 := [some (rf l), some (.int m), some (.int (calls + 1)), none, none, none, none, none]) (w1 := w.set l (rd cells spot rest (calls + 1))) (by
    simp [sDp, eV, eC, Oc.thenS, d0, key_str, loc_rf, rdL_len, four_lt, p_calls, rd])]
  by_cases hrest : 0 < rest
  · -- the digits of a large cell
    refine ⟨rest.fmod m, rd cells spot (rest.fdiv m) (calls + 1), ?_, (fmod_rng (by omega)).1, (fmod_rng (by omega)).2, ⟨⟨cells, spot, _, _, rfl, hc, hs, fdiv_nn hre (by omega), by omega, by omega⟩⟩⟩
    rw [seq_rt (d := .int (rest.fmod m)) (w1 := w.set l (rd cells spot (rest.fdiv m) (calls + 1))) ?_]
    · exact leave_rt (by rw [List.length_set])
    · simp [sIf, tB', eB, eDg, eV, eC, Oc.bind, Oc.thenS, Oc.of, rd, ds, key_str, v_rest, gtD, cmpD, hrest, sSeq, sAsg, gN, modD, intD, nz', eCb, aC, aN, toInt, sDp, fdvD, dv', loc_rf, rdL_len, four_lt, p_rest, sRet]
  · rw [seq_nx (ρ1 := [some (rf l), some (.int m), some (.int (calls + 1)), none, none, none, none, none]) (w1 := w.set l (rd cells spot rest (calls + 1))) (by
      simp [sIf, tB', eB, eDg, eV, eC, Oc.bind, Oc.thenS, Oc.of, rd, ds, key_str, v_rest, gtD, cmpD, hrest, sNil])]
    rw [seq_nx (ρ1 := [some (rf l), some (.int m), some (.int (calls + 1)), some (.int spot), none, none, none, none]) (w1 := w.set l (rd cells spot rest (calls + 1))) (by
      simp [sAsg, gN, eDg, eV, eC, Oc.bind, Oc.thenS, Oc.of, rd, ds, key_str, v_spot])]
    rw [seq_nx (ρ1 := [some (rf l), some (.int m), some (.int (calls + 1)), some (.int spot), none, none, none, none]) (w1 := w.set l (rd cells (spot + 1) rest (calls + 1))) (by
      simp [sDp, eB, eV, eC, Oc.bind, Oc.thenS, Oc.of, addD, rd, ds, key_str, loc_rf, rdL_len, four_lt, p_spot])]
    rw [seq_nx (ρ1 := [some (rf l), some (.int m), some (.int (calls + 1)), some (.int spot), some (.list (cells.map .int)), none, none, none]) (w1 := w.set l (rd cells (spot + 1) rest (calls + 1))) (by
      simp [sAsg, gN, eDg, eV, eC, Oc.bind, Oc.thenS, Oc.of, rd, ds, key_str, v_cells])]
    obtain ⟨cell, hcell⟩ : ∃ cell : Int, eIf (tB' (eB gtD (eCb lenD (aC (eV 4) aN)) (eC (.int 0)))) (eB ixD (eV 4) (eB modD (eCb toInt (aC (eV 3) aN)) (eCb lenD (aC (eV 4) aN)))) (eC (.int 17))
        [some (rf l), some (.int m), some (.int (calls + 1)), some (.int spot), some (.list (cells.map .int)), none, none, none] (w.set l (rd cells (spot + 1) rest (calls + 1))) = .ok (.int cell) (w.set l (rd cells (spot + 1) rest (calls + 1))) := by
      cases hcs : cells with
      | nil => exact ⟨17, by simp [eIf, tB', eB, eCb, lenD, aC, aN, eV, eC, Oc.bind, Oc.of, lstOf, gtD, cmpD]⟩
      | cons c0 cr =>
        have hlen : 0 < ((c0 :: cr).length : Int) := by simp
        obtain ⟨r1, r2⟩ := fmod_rng (a := spot) hlen
        obtain ⟨k, hk⟩ : ∃ k : Nat, (k : Int) = spot.fmod ((c0 :: cr).length : Int) := ⟨(spot.fmod ((c0 :: cr).length : Int)).toNat, by omega⟩
        have hk2 : k < (c0 :: cr).length := by omega
        refine ⟨(c0 :: cr)[k], ?_⟩
        have ha : atI ((c0 :: cr).map PyData.int) (spot.fmod ((c0 :: cr).length : Int)) = some (.int ((c0 :: cr)[k])) := by
          rw [← hk]
          exact Td.atI_nat (by rw [List.getElem?_map, List.getElem?_eq_getElem hk2]; rfl)
        have nzl : ∀ x, cNz x ((c0 :: cr).length : Int) = true := fun x => decide_eq_true (by omega)
        have g0 : decide (0 < ((c0 :: cr).length : Int)) = true := decide_eq_true hlen
        simp only [eIf, tB', eB, eCb, lenD, aC, aN, eV, eC, Oc.bind, Oc.of, lstOf, gtD, cmpD, List.length_map, g0, cond_true, modD, intD, nzl, toInt, ixD, ha, List.getElem?_cons_zero, List.getElem?_cons_succ, if_true, Option.map_some]
    rw [seq_nx (ρ1 := [some (rf l), some (.int m), some (.int (calls + 1)), some (.int spot), some (.list (cells.map .int)), some (.int cell), none, none]) (w1 := w.set l (rd cells (spot + 1) rest (calls + 1))) (by
      simp [sAsg, hcell, Oc.thenS, gN])]
    have pw : cPw 10 18 = true := by decide +kernel
    have p18 : (10 : Int) ^ (18 : Int).toNat = 1000000000000000000 := by decide +kernel
    have tst : (tAn (tB' (eB ltD (eV 3) (eCb lenD (aC (eV 4) aN)))) (tB' (eB geD (eV 5) (eB powD (eC (.int 10)) (eC (.int 18)))))) [some (rf l), some (.int m), some (.int (calls + 1)), some (.int spot), some (.list (cells.map .int)), some (.int cell), none, none] (w.set l (rd cells (spot + 1) rest (calls + 1)))
        = .ok (decide (spot < (cells.length : Int)) && decide (1000000000000000000 ≤ cell)) (w.set l (rd cells (spot + 1) rest (calls + 1))) := by
      simp only [tAn, tB', eB, eV, eC, eCb, aC, aN, lenD, lstOf, Option.map_some, List.length_map, Oc.bind, Oc.of, ltD, cmpD, List.getElem?_cons_zero, List.getElem?_cons_succ, powD, intD, pw, if_true, p18, geD]
      cases decide (spot < (cells.length : Int)) <;> rfl
    cases hb : decide (spot < (cells.length : Int)) && decide (1000000000000000000 ≤ cell) with
    | true =>
      rw [hb] at tst
      rw [Bool.and_eq_true] at hb
      have hbig := of_decide_eq_true hb.2
      refine ⟨cell.fmod m, rd cells (spot + 1) (cell.fdiv m) (calls + 1), ?_, (fmod_rng (by omega)).1, (fmod_rng (by omega)).2, ⟨⟨cells, _, _, _, rfl, hc, by omega, fdiv_nn (by omega) (by omega), by omega, by omega⟩⟩⟩
      rw [seq_rt (d := .int (cell.fmod m)) (w1 := w.set l (rd cells (spot + 1) (cell.fdiv m) (calls + 1))) ?_]
      · exact leave_rt (by rw [List.length_set])
      · rw [sIf, tst]
        simp [Oc.thenS, sSeq, sDp, eB, eV, eC, Oc.bind, Oc.of, fdvD, intD, dv', rd, ds, key_str, loc_rf, rdL_len, four_lt, p_rest, sRet, modD, nz', eCb, aC, aN, toInt]
    | false =>
      rw [hb] at tst
      rw [seq_nx (ρ1 := [some (rf l), some (.int m), some (.int (calls + 1)), some (.int spot), some (.list (cells.map .int)), some (.int cell), none, none]) (w1 := w.set l (rd cells (spot + 1) rest (calls + 1))) (by
        rw [sIf, tst]; simp [Oc.thenS, sNil])]
      obtain ⟨q1, q2⟩ := fmod_rng (a := cell) (m := 2147483629) (by decide)
      have m1 : cNz cell 2147483629 = true := by unfold cNz; decide
      have m2 : ∀ x, cMl 6101 x = true := fun x => by unfold cMl; rw [decide_eq_true (show (6101 : Int).natAbs < 2 ^ 64 by decide)]; rfl
      have m3 : cPw (cell.fmod 2147483629 + 6101 * (calls + 1) + 37) 5 = true := by
        unfold cPw
        rw [decide_eq_true (show (cell.fmod 2147483629 + 6101 * (calls + 1) + 37).natAbs < 2 ^ 64 by omega)]
        decide
      have m4 : ∀ x, cNz x 2147483647 = true := fun x => by unfold cNz; decide
      obtain ⟨once, honce⟩ : ∃ once, once = ((cell.fmod 2147483629 + 6101 * (calls + 1) + 37) ^ (5 : Int).toNat).fmod 2147483647 := ⟨_, rfl⟩
      obtain ⟨o1, o2⟩ := fmod_rng (a := (cell.fmod 2147483629 + 6101 * (calls + 1) + 37) ^ (5 : Int).toNat) (m := 2147483647) (by decide)
      rw [← honce] at o1 o2
      rw [seq_nx (ρ1 := [some (rf l), some (.int m), some (.int (calls + 1)), some (.int spot), some (.list (cells.map .int)), some (.int cell), some (.int once), none]) (w1 := w.set l (rd cells (spot + 1) rest (calls + 1))) (by
        simp only [sAsg, gN, eB, eV, eC, eCb, aC, aN, toInt, Oc.bind, Oc.thenS, Oc.of, modD, intD, m1, m2, m3, m4, mulD, addD, powD, List.getElem?_cons_zero, List.getElem?_cons_succ, if_true, ← honce, List.set_cons_zero, List.set_cons_succ])]
      have m5 : ∀ x, cMl 4159 x = true := fun x => by unfold cMl; rw [decide_eq_true (show (4159 : Int).natAbs < 2 ^ 64 by decide)]; rfl
      have m6 : cMl (4159 * (calls + 1)) (calls + 1) = true := by unfold cMl; rw [decide_eq_true (show (4159 * (calls + 1)).natAbs < 2 ^ 64 by omega)]; rfl
      have sq : (calls + 1) * (calls + 1) ≤ 1000001 * 1000001 := Int.mul_le_mul (by omega) (by omega) (by omega) (by omega)
      have sq0 : 0 ≤ (calls + 1) * (calls + 1) := Int.mul_nonneg (by omega) (by omega)
      have e0 : 4159 * (calls + 1) * (calls + 1) = 4159 * ((calls + 1) * (calls + 1)) := Int.mul_assoc _ _ _
      have m7 : cPw (once + 4159 * (calls + 1) * (calls + 1)) 5 = true := by
        unfold cPw
        rw [decide_eq_true (show (once + 4159 * (calls + 1) * (calls + 1)).natAbs < 2 ^ 64 by rw [e0]; omega)]
        decide
      have m8 : ∀ x, cNz x 2147483587 = true := fun x => by unfold cNz; decide
      have m9 : ∀ x, cDv x 32 = true := fun x => by unfold cDv; decide
      refine ⟨((((once + 4159 * (calls + 1) * (calls + 1)) ^ (5 : Int).toNat).fmod 2147483587).fdiv 32).fmod m, rd cells (spot + 1) rest (calls + 1), ?_, (fmod_rng (by omega)).1, (fmod_rng (by omega)).2, ⟨⟨cells, _, _, _, rfl, hc, by omega, hre, by omega, by omega⟩⟩⟩
      rw [sRet]
      have fin : eB modD (eCb toInt (aC (eB fdvD (eB modD (eCb toInt (aC (eB powD (eB addD (eV 6) (eB mulD (eB mulD (eC (.int 4159)) (eV 2)) (eV 2))) (eC (.int 5))) aN)) (eC (.int 2147483587))) (eC (.int 32))) aN)) (eV 1)
          [some (rf l), some (.int m), some (.int (calls + 1)), some (.int spot), some (.list (cells.map .int)), some (.int cell), some (.int once), none] (w.set l (rd cells (spot + 1) rest (calls + 1)))
          = .ok (.int (((((once + 4159 * (calls + 1) * (calls + 1)) ^ (5 : Int).toNat).fmod 2147483587).fdiv 32).fmod m)) (w.set l (rd cells (spot + 1) rest (calls + 1))) := by
        simp only [eB, eV, eC, eCb, aC, aN, toInt, Oc.bind, Oc.of, modD, fdvD, intD, m5, m6, m7, m8, m9, nz', mulD, addD, powD, List.getElem?_cons_zero, List.getElem?_cons_succ, if_true]
      rw [fin]
      exact leave_rt (by rw [List.length_set])
theorem strsD_strs : ∀ xs : List Str, strsD (xs.map .str) = some xs
  | [] => rfl
  | x :: xs => by simp only [List.map_cons, strsD, strsD_strs xs, Option.map_some]
/-! ### drawing, with what lies behind the reader -/
theorem reader_ok (ns : List Int) (h : ns.length ≤ 63) : F__law_reader [intsD ns] [] = .ok (rf 0) [rd ns 0 0 0] := by
  have c : cutL (ns.map PyData.int) none (some 63) = ns.map PyData.int := by
    have := cut_to (ns.map PyData.int) 63
    rw [List.take_of_length_le (by rw [List.length_map]; exact h)] at this
    exact this
  have m : mergeD [] (rdL (.list (ns.map .int)) (.int 0) (.int 0) (.int 0)) = rdL (.list (ns.map .int)) (.int 0) (.int 0) (.int 0) := by
    simp [mergeD, rdL, putD, ne_cs, ne_cr, ne_cc, ne_sr, ne_sk, ne_rk]
  have l : eDisp (((eC (.str "cells")), (eCb listD (aC (eSl (eV 0) oN (oS (eC (.int 63)))) aN))) :: (((eC (.str "spot")), (eC (.int 0))) :: (((eC (.str "rest")), (eC (.int 0))) :: (((eC (.str "calls")), (eC (.int 0))) :: [])))) [some (intsD ns)] [] = .ok (rf 0) [rd ns 0 0 0] := by
    simp only [eDisp, pairsF, eC, eCb, aC, aN, eSl, eV, oN, oS, Oc.bind, Oc.of, List.getElem?_cons_zero, intsD, cutD, lstOf, c, listD, Option.map_some, keysOf, keyD]
    rw [if_pos (by simp only [List.length_cons, List.length_nil]; decide)]
    have m' := m
    unfold rdL at m'
    rw [m']
    rfl
  rw [F__law_reader, defF, if_pos (show [intsD ns].length = 1 from rfl), b__law_reader, show startE 1 [intsD ns] = [some (intsD ns)] from rfl, sRet, l]
  rfl
/-- objects that hold data alone -/
noncomputable def Pl (v : Ws) : Prop := ∀ x ∈ v, ∀ n, bndO n x = true
theorem bndA_ints (k : Nat) : ∀ L : List Int, bndA k (L.map PyData.int) = true
  | [] => rfl
  | x :: L => by simp [bndA, bnd, bndA_ints k L]
theorem bndA_strs (k : Nat) : ∀ L : List Str, bndA k (L.map PyData.str) = true
  | [] => rfl
  | x :: L => by simp [bndA, bnd, bndA_strs k L]
theorem rd_bnd {ob : Ob} {n : Nat} (h : RdOk ob n) (k : Nat) : bndO k ob = true := by
  obtain ⟨cells, spot, rest, calls, rfl, _⟩ := h.ex
  have : bndA k (cells.map PyData.int) = true := bndA_ints _ _
  simp [rd, rdL, bndO, bndA, bnd, this]
theorem cl_rd {ob : Ob} {n : Nat} {v : Ws} (h : RdOk ob n) (hv : Pl v) : Cl (ob :: v) := by
  unfold Cl
  rw [List.all_eq_true]
  intro x hx
  rcases List.mem_cons.mp hx with rfl | hx
  · exact rd_bnd h _
  · exact hv x hx _
theorem draw_c {ob : Ob} {v : Ws} {n : Nat} {m : Int} (h : RdOk ob n) (hn : n < 1000000) (hm : 1 ≤ m) (hm2 : m < 1000000) :
    wO (fun d W => ∃ (k : Nat) (ob' : Ob), d = .int (k : Int) ∧ (k : Int) < m ∧ W = ob' :: v ∧ RdOk ob' (n + 1)) (F__law_draw [rf 0, .int m] (ob :: v)) := by
  obtain ⟨x, ob', e, h0, h1, h2⟩ := draw_ok (w := ob :: v) (l := 0) rfl h hn hm hm2
  rw [e]
  exact .mk ⟨x.toNat, ob', by rw [Int.toNat_of_nonneg h0], by rw [Int.toNat_of_nonneg h0]; exact h1, rfl, h2⟩
theorem lst_c {ob x : Ob} {v u : Ws} : (ob :: (v ++ x :: u))[v.length + 1]? = some x := by simp
theorem set_c {ob x y : Ob} {v u : Ws} : (ob :: (v ++ x :: u)).set (v.length + 1) y = ob :: (v ++ y :: u) := by simp
theorem leave_c {ob ob' : Ob} {v u : Ws} {d : PyData} {n : Nat} (h : RdOk ob' n) (hv : Pl v) (hd : ∀ k, bnd k d = true) : leave (ob :: v).length (.rt d (ob' :: (v ++ u))) = .ok d (ob' :: v) :=
  leave_trim (w := ob' :: v) (cl_rd h hv) (hd _)
theorem wO_leave {ob : Ob} {v : Ws} {o : Os} {P : PyData → Ob → Prop} {n : Nat} (hv : Pl v) (h : wS (fun _ _ => False) (fun d W => ∃ ob' u m, W = ob' :: (v ++ u) ∧ RdOk ob' m ∧ (∀ k, bnd k d = true) ∧ P d ob') o) :
    wO (fun d W => ∃ ob', W = ob' :: v ∧ P d ob') (leave (ob :: v).length o) := by
  obtain ⟨d, W, rfl, ob', u, m, rfl, h1, h2, h3⟩ := wS_rtE h
  rw [leave_c h1 hv h2]
  exact .mk ⟨ob', rfl, h3⟩
theorem erase_map {α β : Type} (f : α → β) : ∀ (l : List α) (k : Nat), (l.map f).eraseIdx k = (l.eraseIdx k).map f
  | [], _ => rfl
  | _ :: _, 0 => rfl
  | a :: l, k + 1 => by simp only [List.map_cons, List.eraseIdx_cons_succ, erase_map f l k]
theorem pa_at {xs : List PyData} {k : Nat} {d : PyData} (h : xs[k]? = some d) (hl : xs.length ≤ 1000000) : paL xs [.int (k : Int)] = some (d, xs.eraseIdx k) := by
  have hk := (List.getElem?_eq_some_iff.mp h).1
  have e : seqIndex? (k : Int) xs.length = some k := by
    simp [seqIndex?]; omega
  simp only [paL]
  rw [if_pos ⟨by omega, by omega⟩, e]
  simp only [h]
theorem some_ok {ob : Ob} {v : Ws} {n : Nat} {P : List Str} {lo hi : Nat} (h : RdOk ob n) (hv : Pl v) (hn : n + 100 < 1000000) (hlo : lo ≤ hi) (hhi : hi ≤ 50) (hP : P.length ≤ 50) (hPl : lo ≤ P.length) :
    wO (fun d W => ∃ ob', W = ob' :: v ∧ ∃ ks : List Str, d = .list ((srtS ks).map .str) ∧ ks.Sublist P ∧ lo ≤ ks.length ∧ RdOk ob' (n + 1 + P.length)) (F__law_some [rf 0, .list (P.map .str), .int (lo : Int), .int (hi : Int)] (ob :: v)) := by
  show wO _ (leave (ob :: v).length (b__law_some [some (rf 0), some (.list (P.map .str)), some (.int (lo : Int)), some (.int (hi : Int)), none, none] (ob :: v)))
  refine wO_leave (P := fun d ob' => ∃ ks : List Str, d = .list ((srtS ks).map .str) ∧ ks.Sublist P ∧ lo ≤ ks.length ∧ RdOk ob' (n + 1 + P.length)) (n := n) hv ?_
  unfold b__law_some
  have l1 : ∀ W L, listD W [.list L] = some (.list L) := fun _ _ => rfl
  have s1 : ∀ W (x y : Int), subD W (.int x) (.int y) = some (.int (x - y)) := fun _ _ _ => rfl
  have s2 : ∀ W (x y : Int), addD W (.int x) (.int y) = some (.int (x + y)) := fun _ _ _ => rfl
  simp only [wipeE, sRet, sExp, sIf, sAsg, sFor, gN, gT, gC, gZ, eAn, eOr, eNo, eIf, eIsi, eV, eC, eB, eU, eCb, eCall, eSl, oN, oS, eTup, eLst, aN, aC, eLc, eCh, tAn, tOr', tNo, tB', tTr, tYs, iE, iZ, iR1, iR2, sNil, wO_bind, wO_ok, wO_onE, wO_ofif, wO_some, wS_seq, wS_then, wS_nx, wS_rt, cond_true, cond_false, List.append_nil, List.nil_append, List.cons_append, List.getElem?_cons_zero, List.getElem?_cons_succ, List.set_cons_zero, List.set_cons_succ, eLsS, l1, s1, s2, List.length_cons]
  refine wO_mono (draw_c (v := v ++ [.lst (P.map .str)]) h (by omega) (by omega) (by omega)) ?_
  rintro d W ⟨k, ob1, rfl, hk, rfl, h1⟩
  simp only [wipeE, sRet, sExp, sIf, sAsg, sFor, gN, gT, gC, gZ, eAn, eOr, eNo, eIf, eIsi, eV, eC, eB, eU, eCb, eCall, eSl, oN, oS, eTup, eLst, aN, aC, eLc, eCh, tAn, tOr', tNo, tB', tTr, tYs, iE, iZ, iR1, iR2, sNil, wO_bind, wO_ok, wO_onE, wO_ofif, wO_some, wS_seq, wS_then, wS_nx, wS_rt, cond_true, cond_false, List.append_nil, List.nil_append, List.cons_append, List.getElem?_cons_zero, List.getElem?_cons_succ, List.set_cons_zero, List.set_cons_succ, s2]
  refine wS_sWh (fun m ρ W => ∃ (ks : List Str) (ob' : Ob), W = ob' :: (v ++ [.lst (ks.map .str)]) ∧ ρ = [some (rf 0), some (.list (P.map .str)), some (.int (lo : Int)), some (.int (hi : Int)), some (rf (v.length + 1)), some (.int ((lo : Int) + (k : Int)))] ∧ ks.Sublist P ∧ lo ≤ ks.length ∧ m = ks.length ∧ RdOk ob' (n + 1 + (P.length - ks.length))) P.length (by omega) ⟨P, ob1, rfl, rfl, List.Sublist.refl _, hPl, rfl, by rw [Nat.sub_self]; exact h1⟩ ?_
  rintro m ρ W ⟨ks, ob2, rfl, rfl, hs, hlk, rfl, h2⟩
  have hle := hs.length_le
  have g : (ob2 :: (v ++ [Ob.lst (ks.map PyData.str)]))[v.length + 1]? = some (.lst (ks.map .str)) := lst_c
  have lo1 := lst_at g
  have ln := len_rf g
  rw [List.length_map] at ln
  simp only [wipeE, sRet, sExp, sIf, sAsg, sFor, gN, gT, gC, gZ, eAn, eOr, eNo, eIf, eIsi, eV, eC, eB, eU, eCb, eCall, eSl, oN, oS, eTup, eLst, aN, aC, eLc, eCh, tAn, tOr', tNo, tB', tTr, tYs, iE, iZ, iR1, iR2, sNil, wO_bind, wO_ok, wO_onE, wO_ofif, wO_some, wS_seq, wS_then, wS_nx, wS_rt, cond_true, cond_false, List.append_nil, List.nil_append, List.cons_append, List.getElem?_cons_zero, List.getElem?_cons_succ, List.set_cons_zero, List.set_cons_succ, ln, gtD, cmpD]
  by_cases hc : (lo : Int) + (k : Int) < (ks.length : Int)
  · rw [decide_eq_true hc]
    simp only [wipeE, sRet, sExp, sIf, sAsg, sFor, gN, gT, gC, gZ, eAn, eOr, eNo, eIf, eIsi, eV, eC, eB, eU, eCb, eCall, eSl, oN, oS, eTup, eLst, aN, aC, eLc, eCh, tAn, tOr', tNo, tB', tTr, tYs, iE, iZ, iR1, iR2, sNil, wO_bind, wO_ok, wO_onE, wO_ofif, wO_some, wS_seq, wS_then, wS_nx, wS_rt, cond_true, cond_false, List.append_nil, List.nil_append, List.cons_append, List.getElem?_cons_zero, List.getElem?_cons_succ, List.set_cons_zero, List.set_cons_succ, eLm, lo1, Option.isSome_some, Oc.on, ln]
    refine wO_mono (draw_c (v := v ++ [.lst (ks.map .str)]) h2 (by omega) (by omega) (by omega)) ?_
    rintro d W ⟨j, ob3, rfl, hj, rfl, h3⟩
    have hj' : j < ks.length := by omega
    have g3 : (ob3 :: (v ++ [Ob.lst (ks.map PyData.str)]))[v.length + 1]? = some (.lst (ks.map .str)) := lst_c
    have u := upd_at (k := fun xs => paL xs [.int (j : Int)]) g3 (pa_at (d := .str ks[j]) (by rw [List.getElem?_map, List.getElem?_eq_getElem hj']; rfl) (by rw [List.length_map]; omega))
    have st : (ob3 :: (v ++ [Ob.lst (ks.map PyData.str)])).set (v.length + 1) (.lst ((ks.map PyData.str).eraseIdx j)) = ob3 :: (v ++ [.lst ((ks.eraseIdx j).map .str)]) := by rw [set_c, erase_map]
    rw [st] at u
    simp only [wipeE, sRet, sExp, sIf, sAsg, sFor, gN, gT, gC, gZ, eAn, eOr, eNo, eIf, eIsi, eV, eC, eB, eU, eCb, eCall, eSl, oN, oS, eTup, eLst, aN, aC, eLc, eCh, tAn, tOr', tNo, tB', tTr, tYs, iE, iZ, iR1, iR2, sNil, wO_bind, wO_ok, wO_onE, wO_ofif, wO_some, wS_seq, wS_then, wS_nx, wS_rt, cond_true, cond_false, List.append_nil, List.nil_append, List.cons_append, List.getElem?_cons_zero, List.getElem?_cons_succ, List.set_cons_zero, List.set_cons_succ, u]
    have hl2 := List.length_eraseIdx_of_lt hj'
    exact ⟨(ks.eraseIdx j).length, by omega, ks.eraseIdx j, ob3, rfl, by simp, (List.eraseIdx_sublist ..).trans hs, by omega, rfl, h3.mono (by omega)⟩
  · rw [decide_eq_false hc]
    have so : sortLD (ob2 :: (v ++ [Ob.lst (ks.map PyData.str)])) [rf (v.length + 1)] = some (.list ((srtS ks).map .str)) := by
      simp only [sortLD, lo1, strsD_strs]
      rw [if_pos (decide_eq_true (by omega))]
    simp only [wipeE, sRet, sExp, sIf, sAsg, sFor, gN, gT, gC, gZ, eAn, eOr, eNo, eIf, eIsi, eV, eC, eB, eU, eCb, eCall, eSl, oN, oS, eTup, eLst, aN, aC, eLc, eCh, tAn, tOr', tNo, tB', tTr, tYs, iE, iZ, iR1, iR2, sNil, wO_bind, wO_ok, wO_onE, wO_ofif, wO_some, wS_seq, wS_then, wS_nx, wS_rt, cond_true, cond_false, List.append_nil, List.nil_append, List.cons_append, List.getElem?_cons_zero, List.getElem?_cons_succ, List.set_cons_zero, List.set_cons_succ, so]
    refine ⟨ob2, _, _, rfl, h2, fun k => ?_, ks, rfl, hs, hlk, h2.mono (by omega)⟩
    simp only [bnd]
    exact bndA_strs _ _
end Tk

set_option Elab.async false
set_option linter.all false
set_option maxRecDepth 100000
set_option maxHeartbeats 4000000
namespace Tk
open PySem L2 Td Tg Tt
theorem lcL_fltD {α : Type} {gt : FG} {tt : FT} {fe : FE} {ρ : Ev} {w : Ws} (g : α → PyData) (p : α → Bool) (f : α → PyData) : ∀ (L : List α) (acc : List PyData), acc.length + L.length ≤ 100000 →
    (∀ x ∈ L, ∃ ρ1, gt (g x) ρ w = .ok ρ1 w ∧ tt ρ1 w = .ok (p x) w ∧ (p x = true → fe ρ1 w = .ok (f x) w)) → lcL gt tt fe ρ (L.map g) w acc = .ok (acc ++ (L.filter p).map f) w
  | [], acc, _, _ => by simp [lcL]
  | x :: L, acc, hs, h => by
    obtain ⟨ρ1, h1, h2, h3⟩ := h x List.mem_cons_self
    simp only [List.length_cons] at hs
    have hz := sizeLine_eq
    cases hp : p x with
    | false =>
      rw [hp] at h2
      have ih := lcL_fltD g p f L acc (by omega) fun y hy => h y (List.mem_cons_of_mem _ hy)
      simp only [List.map_cons, lcL, h1, h2, ih, List.filter_cons, hp]
      rfl
    | true =>
      rw [hp] at h2
      have ih := lcL_fltD g p f L (acc ++ [f x]) (by rw [List.length_append]; simp; omega) fun y hy => h y (List.mem_cons_of_mem _ hy)
      simp only [List.map_cons, lcL, h1, h2, h3 hp, ih, List.filter_cons, hp, if_pos (show acc.length < sizeLine by omega)]
      simp
theorem eq_int (w : Ws) (i j : Int) (hi : i.natAbs < ten62) (hj : j.natAbs < ten62) : eqD w (.int i) (.int j) = some (.bool (decide (i = j))) := by
  have s1 := shaped_of (d := .int i) (by simp only [okD]; exact decide_eq_true hi) (by simp [PyData.depth])
  have s2 := shaped_of (d := .int j) (by simp only [okD]; exact decide_eq_true hj) (by simp [PyData.depth])
  unfold eqD
  rw [s1, s2]
  by_cases h : i = j <;> simp [PyData.eqv, h]
theorem small62 {k : Nat} (h : k ≤ 1000000) : ((k : Int)).natAbs < ten62 := by
  have : (1000000 : Nat) < ten62 := by decide
  omega
noncomputable def gd (z : Str) : Prop := z ∈ HU
theorem powr_ok (w : Ws) : ∀ b ∈ [1, 2, 3], ∀ e ∈ [0, 1, 2], ∃ p : Nat, (p ≤ 9 ∧ p = b ^ e) ∧ F__law_power [.int ((b : Nat) : Int), .int ((e : Nat) : Int)] w = .ok (.int (p : Int)) w := by
  have key : ∀ (b e p : Nat), b__law_power [some (.int (b : Int)), some (.int (e : Int)), none, none] w = .rt (.int (p : Int)) w → F__law_power [.int (b : Int), .int (e : Int)] w = .ok (.int (p : Int)) w := fun b e p h => by
    show leave w.length (b__law_power [some (.int (b : Int)), some (.int (e : Int)), none, none] w) = _
    rw [h]; exact leave_rt rfl
  intro b hb e he
  simp only [List.mem_cons, List.not_mem_nil, or_false] at hb he
  rcases hb with rfl | rfl | rfl <;> rcases he with rfl | rfl | rfl <;> first
    | exact ⟨1, by decide, key _ _ 1 rfl⟩
    | exact ⟨2, by decide, key _ _ 2 rfl⟩
    | exact ⟨3, by decide, key _ _ 3 rfl⟩
    | exact ⟨4, by decide, key _ _ 4 rfl⟩
    | exact ⟨9, by decide, key _ _ 9 rfl⟩
noncomputable abbrev Wd := Str × Nat × List Nat
noncomputable def natsD (L : List Nat) : List PyData := L.map fun (k : Nat) => PyData.int (k : Int)
noncomputable def wD (x : Wd) : PyData := .tuple [.str x.1, .int (x.2.1 : Int), .tuple (natsD x.2.2)]
noncomputable def tgD (b : Nat) (vs : List Str) (ws : List Wd) : PyData := .tuple [.int (b : Int), .tuple (vs.map .str), .tuple (ws.map wD)]
structure Tong (b : Nat) (vs : List Str) (ws : List Wd) : Prop where
  b1 : 1 ≤ b
  b3 : b ≤ 3
  v1 : ∀ x ∈ vs, gd x
  v2 : vs.length ≤ 3
  w1 : ∀ x ∈ ws, gd x.1 ∧ x.2.1 ≤ 2 ∧ x.2.2.length ≤ 9 ∧ ∀ k ∈ x.2.2, k ≤ 3
  w0 : 1 ≤ ws.length
  w2 : ws.length ≤ 6
  ne : vs ≠ [] ∨ ∃ x ∈ ws, x.2.1 = 0
  tb : ∀ x ∈ ws, x.2.2.length = b ^ x.2.1 ∧ ∀ k ∈ x.2.2, k < b
  nd : (ws.map (·.1)).Nodup
  vnd : vs.Nodup
  vin : ∀ x ∈ ws, x.1 ∉ vs
theorem bndA_nats (k : Nat) : ∀ L : List Nat, bndA k (natsD L) = true
  | [] => rfl
  | x :: L => by
    have := bndA_nats k L
    unfold natsD at *
    simp [bndA, bnd, this]
theorem bnd_wD (k : Nat) (x : Wd) : bnd k (wD x) = true := by simp [wD, bnd, bndA, bndA_nats]
theorem bndA_wD (k : Nat) : ∀ L : List Wd, bndA k (L.map wD) = true
  | [] => rfl
  | x :: L => by simp [bndA, bnd_wD, bndA_wD k L]
theorem draws_w {ob : Ob} {v : Ws} {n b p : Nat} {ρ : Ev} {i : Nat} (h : RdOk ob n) (hn : n + 20 < 1000000) (hb : 1 ≤ b) (hb2 : b ≤ 3) (hp : p ≤ 9) (h0 : ∀ d : PyData, (ρ.set i (some d))[0]? = some (some (rf 0)))
    (h1 : ∀ d : PyData, (ρ.set i (some d))[1]? = some (some (.int (b : Int)))) :
    wO (fun acc W => ∃ ob' tb, W = ob' :: v ∧ acc = natsD tb ∧ tb.length = p ∧ (∀ k ∈ tb, k < b) ∧ RdOk ob' (n + 9)) (lcL (gN i) tYs (eCall F__law_draw [] (aC (eV 0) (aC (eV 1) aN))) ρ (rgD 0 (p : Int)) (ob :: v) []) := by
  have hl : (rgD 0 (p : Int)).length = p := by unfold rgD; rw [List.length_map, List.length_range]; omega
  refine wA_lcL (fun j acc W => ∃ ob' tb, W = ob' :: v ∧ acc = natsD tb ∧ tb.length = j ∧ (∀ k ∈ tb, k < b) ∧ RdOk ob' (n + j)) _ 0 _ [] (by rw [sizeLine_eq, hl]; simp; omega) ⟨ob, [], rfl, rfl, rfl, (fun k hk => by cases hk), h⟩ ?_ ?_
  · rintro j d acc W hj ⟨ob1, tb, rfl, rfl, htl, htk, h2⟩
    have hj' := (List.getElem?_eq_some_iff.mp hj).1
    rw [hl] at hj'
    simp only [tYs, wipeE, sRet, sExp, sIf, sAsg, sFor, gN, gT, gC, gZ, eAn, eOr, eNo, eIf, eIsi, eV, eC, eB, eU, eCb, eCall, eSl, oN, oS, eTup, eLst, aN, aC, eLc, eCh, tAn, tOr', tNo, tB', tTr, tYs, iE, iZ, iR1, iR2, sNil, wO_bind, wO_ok, wO_onE, wO_ofif, wO_some, wS_seq, wS_then, wS_nx, wS_rt, cond_true, cond_false, List.append_nil, List.nil_append, List.cons_append, List.getElem?_cons_zero, List.getElem?_cons_succ, List.set_cons_zero, List.set_cons_succ, h0, h1]
    refine wO_mono (draw_c (v := v) h2 (by omega) (by omega) (by omega)) ?_
    rintro d W ⟨k, ob2, rfl, hk, rfl, h3⟩
    exact ⟨ob2, tb ++ [k], rfl, by simp [natsD], by simp [htl], fun x hx => by
      rcases List.mem_append.mp hx with hx | hx
      · exact htk x hx
      · rw [List.mem_singleton] at hx; omega, h3.mono (by omega)⟩
  · rintro acc W ⟨ob1, tb, rfl, rfl, htl, htk, h2⟩
    exact ⟨ob1, tb, rfl, rfl, by rw [htl, Nat.zero_add, hl], htk, h2.mono (by omega)⟩
noncomputable def WP6 : List Str := ["and", "f", "no", "or", "top", "zzzzzzzz"]
noncomputable def VP3 : List Str := ["a", "x", "y"]
theorem WP6_HU : ∀ x ∈ WP6, gd x := by unfold gd; decide +kernel
theorem VP3_HU : ∀ x ∈ VP3, gd x := by unfold gd; decide +kernel
theorem VW_no : ∀ x ∈ WP6, x ∉ VP3 := by decide +kernel
theorem x_HU : gd "x" := VP3_HU "x" (by decide +kernel)
theorem srt_mem {ks P : List Str} (hs : ks.Sublist P) {x : Str} (hx : x ∈ srtS ks) : x ∈ P := hs.subset ((srtS_perm _).mem_iff.mp hx)
theorem eqL_w {α : Type} (w : Ws) (g : α → PyData) (L : List α) : eqL w (.list (L.map g)) (.list []) = some (.bool L.isEmpty) := by cases L <;> rfl
theorem lc_zero {x0 x1 x2 x3 x4 x5 x6 x8 : Option PyData} {w : Ws} {ws : List Wd} (h : ∀ x ∈ ws, gd x.1 ∧ x.2.1 ≤ 2 ∧ x.2.2.length ≤ 9 ∧ ∀ k ∈ x.2.2, k ≤ 3) (hl : ws.length ≤ 6) :
    lcL (gN 7) (tB' (eB eqD (eB ixD (eV 7) (eC (.int 1))) (eC (.int 0)))) (eV 7) [x0, x1, x2, x3, x4, x5, x6, none, x8] (ws.map wD) w [] = .ok ((ws.filter fun x => decide ((x.2.1 : Int) = 0)).map wD) w := by
  rw [lcL_fltD wD (fun x => decide ((x.2.1 : Int) = 0)) wD ws [] (by simp only [List.length_nil]; omega) fun s hs => ⟨[x0, x1, x2, x3, x4, x5, x6, some (wD s), x8], rfl, by
    have i1 : ixD w (wD s) (.int 1) = some (.int (s.2.1 : Int)) := rfl
    have := (h s hs).2.1
    simp only [tB', eB, eC, eV, List.getElem?_cons_zero, List.getElem?_cons_succ, List.set_cons_zero, List.set_cons_succ, Oc.bind, Oc.of, i1, eq_int w (s.2.1 : Int) 0 (small62 (by omega)) (by decide)], fun _ => rfl⟩]
  rfl
theorem bnd_tgD (k b : Nat) (vs : List Str) (ws : List Wd) : bnd k (tgD b vs ws) = true := by
  simp [tgD, bnd, bndA, bndA_strs, bndA_wD]
theorem tongue_w {ob : Ob} {v : Ws} {n : Nat} (h : RdOk ob n) (hv : Pl v) (hn : n + 200 < 1000000) :
    wO (fun d W => ∃ ob', W = ob' :: v ∧ ∃ b vs ws, d = tgD b vs ws ∧ Tong b vs ws ∧ RdOk ob' (n + 100)) (F__law_random_tongue [rf 0] (ob :: v)) := by
  show wO _ (leave (ob :: v).length (b__law_random_tongue [some (rf 0), none, none, none, none, none, none, none, none] (ob :: v)))
  refine wO_leave (P := fun d ob' => ∃ b vs ws, d = tgD b vs ws ∧ Tong b vs ws ∧ RdOk ob' (n + 100)) (n := n) hv ?_
  unfold b__law_random_tongue
  have z4 : szOk 4 = true := szOk_of (by omega)
  have z6 : szOk 6 = true := szOk_of (by omega)
  have z3 : szOk 3 = true := szOk_of (by omega)
  have z1 : szOk 1 = true := szOk_of (by omega)
  have z0 : szOk 0 = true := szOk_of (by omega)
  simp only [wipeE, sRet, sExp, sIf, sAsg, sFor, gN, gT, gC, gZ, eAn, eOr, eNo, eIf, eIsi, eV, eC, eB, eU, eCb, eCall, eSl, oN, oS, eTup, eLst, aN, aC, eLc, eCh, tAn, tOr', tNo, tB', tTr, tYs, iE, iZ, iR1, iR2, sNil, wO_bind, wO_ok, wO_onE, wO_ofif, wO_some, wS_seq, wS_then, wS_nx, wS_rt, cond_true, cond_false, List.append_nil, List.nil_append, List.cons_append, List.getElem?_cons_zero, List.getElem?_cons_succ, List.set_cons_zero, List.set_cons_succ, Oc.on, List.length_cons, List.length_nil, Nat.zero_add, Nat.reduceAdd, z4]
  refine wO_mono (draw_c (v := v) h (by omega) (by omega) (by omega)) ?_
  rintro d W ⟨k, ob1, rfl, hk, rfl, h1⟩
  obtain ⟨x, hx, e1⟩ := atL (w := ob1 :: v) (xs := [.int 2, .int 2, .int 3, .int 1]) (v := (k : Int)) (by omega) (by simpa using hk)
  obtain ⟨b, rfl, hb⟩ : ∃ b : Nat, x = .int (b : Int) ∧ b ∈ [1, 2, 3] := by
    simp only [List.mem_cons, List.not_mem_nil, or_false] at hx
    rcases hx with rfl | rfl | rfl | rfl
    · exact ⟨2, rfl, by decide⟩
    · exact ⟨2, rfl, by decide⟩
    · exact ⟨3, rfl, by decide⟩
    · exact ⟨1, rfl, by decide⟩
  have hb1 : 1 ≤ b ∧ b ≤ 3 := by
    simp only [List.mem_cons, List.not_mem_nil, or_false] at hb
    omega
  simp only [wipeE, sRet, sExp, sIf, sAsg, sFor, gN, gT, gC, gZ, eAn, eOr, eNo, eIf, eIsi, eV, eC, eB, eU, eCb, eCall, eSl, oN, oS, eTup, eLst, aN, aC, eLc, eCh, tAn, tOr', tNo, tB', tTr, tYs, iE, iZ, iR1, iR2, sNil, wO_bind, wO_ok, wO_onE, wO_ofif, wO_some, wS_seq, wS_then, wS_nx, wS_rt, cond_true, cond_false, List.append_nil, List.nil_append, List.cons_append, List.getElem?_cons_zero, List.getElem?_cons_succ, List.set_cons_zero, List.set_cons_succ, e1, eLstS, Oc.on, List.length_cons, List.length_nil, Nat.zero_add, Nat.reduceAdd, z0, z6]
  have hv1 : Pl (v ++ [Ob.lst []]) := by
    intro x hx
    rcases List.mem_append.mp hx with hx | hx
    · exact hv x hx
    · rw [List.mem_singleton] at hx; subst hx; exact fun _ => rfl
  have q1 := some_ok (P := WP6) (lo := 1) (hi := 6) h1 hv1 (by omega) (by omega) (by omega) (by decide) (by decide)
  have q2 : F__law_some [rf 0, .list (WP6.map .str), .int ((1 : Nat) : Int), .int ((6 : Nat) : Int)] (ob1 :: (v ++ [Ob.lst []])) = F__law_some [rf 0, .list [.str "and", .str "f", .str "no", .str "or", .str "top", .str "zzzzzzzz"], .int 1, .int 6] (ob1 :: (v ++ [Ob.lst []])) := by
    rw [show WP6.map PyData.str = [.str "and", .str "f", .str "no", .str "or", .str "top", .str "zzzzzzzz"] from rfl]
    rfl
  rw [q2] at q1
  refine wO_mono q1 ?_
  rintro d W ⟨ob2, rfl, ks, rfl, hs, hlk, h2⟩
  have hkl : (srtS ks).length ≤ 6 := by
    rw [(srtS_perm ks).length_eq]
    have := hs.length_le
    have : WP6.length = 6 := rfl
    omega
  have it : itD (.list ((srtS ks).map PyData.str)) = some ((srtS ks).map .str) := rfl
  have h2' : RdOk ob2 (n + 9) := h2.mono (by have : WP6.length = 6 := rfl; omega)
  simp only [wipeE, sRet, sExp, sIf, sAsg, sFor, gN, gT, gC, gZ, eAn, eOr, eNo, eIf, eIsi, eV, eC, eB, eU, eCb, eCall, eSl, oN, oS, eTup, eLst, aN, aC, eLc, eCh, tAn, tOr', tNo, tB', tTr, tYs, iE, iZ, iR1, iR2, sNil, wO_bind, wO_ok, wO_onE, wO_ofif, wO_some, wS_seq, wS_then, wS_nx, wS_rt, cond_true, cond_false, List.append_nil, List.nil_append, List.cons_append, List.getElem?_cons_zero, List.getElem?_cons_succ, List.set_cons_zero, List.set_cons_succ, it]
  refine wS_forL (fun i ρ W => ∃ (ws : List Wd) (ob' : Ob) (y3 y5 y6 : Option PyData), W = ob' :: (v ++ [.lst (ws.map wD)]) ∧ ρ = [some (rf 0), some (.int (b : Int)), some (rf (v.length + 1)), y3, none, y5, y6, none, none] ∧ ws.map (·.1) = (srtS ks).take i ∧ (∀ x ∈ ws, (gd x.1 ∧ x.2.1 ≤ 2 ∧ x.2.2.length ≤ 9 ∧ ∀ k ∈ x.2.2, k ≤ 3) ∧ x.2.2.length = b ^ x.2.1 ∧ ∀ k ∈ x.2.2, k < b) ∧ RdOk ob' (n + 9 + 10 * i)) _ 0 _ _ ⟨[], ob2, none, none, none, rfl, rfl, rfl, (fun x hx => by cases hx), h2'⟩ ?_ ?_
  · rintro i d ρ W hj ⟨ws, ob3, y3, y5, y6, rfl, rfl, hl, hw, h3⟩
    rw [Nat.zero_add] at *
    have hi := (List.getElem?_eq_some_iff.mp hj).1
    rw [List.length_map] at hi
    obtain ⟨nm, hnj, rfl⟩ : ∃ nm, (srtS ks)[i]? = some nm ∧ PyData.str nm = d := by
      rw [List.getElem?_map] at hj
      exact Option.map_eq_some_iff.mp hj
    have hnm := List.mem_of_getElem? hnj
    have hl' : ws.length = i := by
      have := congrArg List.length hl
      rw [List.length_map, List.length_take] at this
      omega
    have hnU := WP6_HU nm (srt_mem hs hnm)
    simp only [wipeE, sRet, sExp, sIf, sAsg, sFor, gN, gT, gC, gZ, eAn, eOr, eNo, eIf, eIsi, eV, eC, eB, eU, eCb, eCall, eSl, oN, oS, eTup, eLst, aN, aC, eLc, eCh, tAn, tOr', tNo, tB', tTr, tYs, iE, iZ, iR1, iR2, sNil, wO_bind, wO_ok, wO_onE, wO_ofif, wO_some, wS_seq, wS_then, wS_nx, wS_rt, cond_true, cond_false, List.append_nil, List.nil_append, List.cons_append, List.getElem?_cons_zero, List.getElem?_cons_succ, List.set_cons_zero, List.set_cons_succ, Oc.on, List.length_cons, List.length_nil, Nat.zero_add, Nat.reduceAdd, z4]
    refine wO_mono (draw_c (v := v ++ [.lst (ws.map wD)]) h3 (by omega) (by omega) (by omega)) ?_
    rintro d W ⟨k5, ob4, rfl, hk5, rfl, h4⟩
    obtain ⟨x, hx, e5⟩ := atL (w := ob4 :: (v ++ [.lst (ws.map wD)])) (xs := [.int 2, .int 1, .int 0, .int 2]) (v := (k5 : Int)) (by omega) (by simpa using hk5)
    obtain ⟨ar, rfl, har⟩ : ∃ b : Nat, x = .int (b : Int) ∧ b ∈ [0, 1, 2] := by
      simp only [List.mem_cons, List.not_mem_nil, or_false] at hx
      rcases hx with rfl | rfl | rfl | rfl
      · exact ⟨2, rfl, by decide⟩
      · exact ⟨1, rfl, by decide⟩
      · exact ⟨0, rfl, by decide⟩
      · exact ⟨2, rfl, by decide⟩
    have har2 : ar ≤ 2 := by
      simp only [List.mem_cons, List.not_mem_nil, or_false] at har
      omega
    obtain ⟨p, ⟨hp, hpe⟩, ep⟩ := powr_ok (ob4 :: (v ++ [.lst (ws.map wD)])) b hb ar har
    have cp : c62 (p : Int) = true := by unfold c62; exact decide_eq_true (by omega)
    have g : (ob4 :: (v ++ [Ob.lst (ws.map wD)]))[v.length + 1]? = some (.lst (ws.map wD)) := lst_c
    have lo := lst_at g
    simp only [wipeE, sRet, sExp, sIf, sAsg, sFor, gN, gT, gC, gZ, eAn, eOr, eNo, eIf, eIsi, eV, eC, eB, eU, eCb, eCall, eSl, oN, oS, eTup, eLst, aN, aC, eLc, eCh, tAn, tOr', tNo, tB', tTr, tYs, iE, iZ, iR1, iR2, sNil, wO_bind, wO_ok, wO_onE, wO_ofif, wO_some, wS_seq, wS_then, wS_nx, wS_rt, cond_true, cond_false, List.append_nil, List.nil_append, List.cons_append, List.getElem?_cons_zero, List.getElem?_cons_succ, List.set_cons_zero, List.set_cons_succ, e5, ep, eLm, lo, Option.isSome_some, Oc.on, cp]
    refine wO_mono (draws_w (v := v ++ [.lst (ws.map wD)]) (b := b) (p := p) h4 (by omega) hb1.1 hb1.2 hp (fun _ => rfl) (fun _ => rfl)) ?_
    rintro acc W ⟨ob5, tb, rfl, rfl, htl, htk, h5⟩
    have tp : ∀ W L, tupleD W [.list L] = some (.tuple L) := fun _ _ => rfl
    have g5 : (ob5 :: (v ++ [Ob.lst (ws.map wD)]))[v.length + 1]? = some (.lst (ws.map wD)) := lst_c
    have u := upd_at (k := fun xs => apL xs [wD (nm, ar, tb)]) (d := .none) (ys := ws.map wD ++ [wD (nm, ar, tb)]) g5 (by simp only [apL]; rw [if_pos (by rw [sizeLine_eq, List.length_map]; omega)])
    have st : (ob5 :: (v ++ [Ob.lst (ws.map wD)])).set (v.length + 1) (.lst (ws.map wD ++ [wD (nm, ar, tb)])) = ob5 :: (v ++ [.lst ((ws ++ [(nm, ar, tb)]).map wD)]) := by rw [set_c, List.map_append]; rfl
    rw [st] at u
    simp only [wD] at u
    simp only [wipeE, sRet, sExp, sIf, sAsg, sFor, gN, gT, gC, gZ, eAn, eOr, eNo, eIf, eIsi, eV, eC, eB, eU, eCb, eCall, eSl, oN, oS, eTup, eLst, aN, aC, eLc, eCh, tAn, tOr', tNo, tB', tTr, tYs, iE, iZ, iR1, iR2, sNil, wO_bind, wO_ok, wO_onE, wO_ofif, wO_some, wS_seq, wS_then, wS_nx, wS_rt, cond_true, cond_false, List.append_nil, List.nil_append, List.cons_append, List.getElem?_cons_zero, List.getElem?_cons_succ, List.set_cons_zero, List.set_cons_succ, tp, List.length_cons, List.length_nil, Nat.zero_add, Nat.reduceAdd, z3]
    simp only [u, wO_ok]
    refine ⟨ws ++ [(nm, ar, tb)], ob5, some (.str nm), some (.int (ar : Int)), some (.int (p : Int)), rfl, rfl, by rw [List.map_append, hl, List.take_succ, hnj]; rfl, ?_, h5.mono (by omega)⟩
    intro x hx
    rcases List.mem_append.mp hx with hx | hx
    · exact hw x hx
    · rw [List.mem_singleton] at hx; subst hx; exact ⟨⟨hnU, har2, by show tb.length ≤ 9; omega, fun k hk => by have := htk k hk; omega⟩, htl.trans hpe, htk⟩
  · rintro ρ W ⟨ws, ob3, y3, y5, y6, rfl, rfl, hl, hw, h3⟩
    rw [Nat.zero_add, List.length_map, List.take_of_length_le (Nat.le_refl _)] at hl
    have hll : ws.length = (srtS ks).length := by
      have := congrArg List.length hl
      rwa [List.length_map] at this
    have hsub : ∀ x ∈ ws, x.1 ∈ WP6 := fun x hx => srt_mem hs (hl ▸ List.mem_map.mpr ⟨x, hx, rfl⟩)
    have hnd : (ws.map (·.1)).Nodup := by rw [hl]; exact (srtS_perm ks).nodup_iff.mpr (hs.nodup (by decide +kernel))
    have hwl : ws.length ≤ 6 := by omega
    have hw0 : 1 ≤ ws.length := by
      have := (srtS_perm ks).length_eq
      omega
    have g : (ob3 :: (v ++ [Ob.lst (ws.map wD)]))[v.length + 1]? = some (.lst (ws.map wD)) := lst_c
    have fz : fzD (ob3 :: (v ++ [Ob.lst (ws.map wD)])) (rf (v.length + 1)) = some (.list (ws.map wD), ob3 :: (v ++ [.dead])) := by
      have lo : locOf (rf (v.length + 1)) = some (v.length + 1) := rfl
      simp only [fzD, lo, g, set_c]
    have hv2 : Pl (v ++ [Ob.dead]) := by
      intro x hx
      rcases List.mem_append.mp hx with hx | hx
      · exact hv x hx
      · rw [List.mem_singleton] at hx; subst hx; exact fun _ => rfl
    have h3' : RdOk ob3 (n + 80) := h3.mono (by rw [List.length_map]; omega)
    have q1 := some_ok (P := VP3) (lo := 0) (hi := 3) h3' hv2 (by omega) (by omega) (by omega) (by decide) (by decide)
    have q2 : F__law_some [rf 0, .list (VP3.map .str), .int ((0 : Nat) : Int), .int ((3 : Nat) : Int)] (ob3 :: (v ++ [Ob.dead])) = F__law_some [rf 0, .list [.str "a", .str "x", .str "y"], .int 0, .int 3] (ob3 :: (v ++ [Ob.dead])) := by
      rw [show VP3.map PyData.str = [.str "a", .str "x", .str "y"] from rfl]
      rfl
    rw [q2] at q1
    simp only [wipeE, sRet, sExp, sIf, sAsg, sFor, gN, gT, gC, gZ, eAn, eOr, eNo, eIf, eIsi, eV, eC, eB, eU, eCb, eCall, eSl, oN, oS, eTup, eLst, aN, aC, eLc, eCh, tAn, tOr', tNo, tB', tTr, tYs, iE, iZ, iR1, iR2, sNil, wO_bind, wO_ok, wO_onE, wO_ofif, wO_some, wS_seq, wS_then, wS_nx, wS_rt, cond_true, cond_false, List.append_nil, List.nil_append, List.cons_append, List.getElem?_cons_zero, List.getElem?_cons_succ, List.set_cons_zero, List.set_cons_succ, sFz, fz, Oc.on, List.length_cons, List.length_nil, Nat.zero_add, Nat.reduceAdd, z3]
    refine wO_mono q1 ?_
    rintro d W ⟨ob4, rfl, kv, rfl, hs3, _, h4⟩
    have h4' : RdOk ob4 (n + 100) := h4.mono (by have : VP3.length = 3 := rfl; omega)
    have hk3 : (srtS kv).length ≤ 3 := by
      rw [(srtS_perm kv).length_eq]
      have := hs3.length_le
      have : VP3.length = 3 := rfl
      omega
    have tp : ∀ W L, tupleD W [.list L] = some (.tuple L) := fun _ _ => rfl
    have it2 : itD (.list (ws.map wD)) = some (ws.map wD) := rfl
    have fin : ∀ vs : List Str, vs.Nodup → (∀ x ∈ vs, x ∈ VP3) → (∀ x ∈ vs, gd x) → vs.length ≤ 3 → (vs ≠ [] ∨ ∃ x ∈ ws, x.2.1 = 0) → ∃ ob' u m, ob4 :: (v ++ [Ob.dead]) = ob' :: (v ++ u) ∧ RdOk ob' m ∧ (∀ k, bnd k (tgD b vs ws) = true) ∧ ∃ b' vs' ws', tgD b vs ws = tgD b' vs' ws' ∧ Tong b' vs' ws' ∧ RdOk ob' (n + 100) := fun vs hvn hvp h1 h2 h3 =>
      ⟨ob4, _, _, rfl, h4', fun k => bnd_tgD k b vs ws, b, vs, ws, rfl, ⟨hb1.1, hb1.2, h1, h2, fun x hx => (hw x hx).1, hw0, hwl, h3, fun x hx => (hw x hx).2, hnd, hvn, fun x hx hv => VW_no x.1 (hsub x hx) (hvp x.1 hv)⟩, h4'⟩
    simp only [wipeE, sRet, sExp, sIf, sAsg, sFor, gN, gT, gC, gZ, eAn, eOr, eNo, eIf, eIsi, eV, eC, eB, eU, eCb, eCall, eSl, oN, oS, eTup, eLst, aN, aC, eLc, eCh, tAn, tOr', tNo, tB', tTr, tYs, iE, iZ, iR1, iR2, sNil, wO_bind, wO_ok, wO_onE, wO_ofif, wO_some, wS_seq, wS_then, wS_nx, wS_rt, cond_true, cond_false, List.append_nil, List.nil_append, List.cons_append, List.getElem?_cons_zero, List.getElem?_cons_succ, List.set_cons_zero, List.set_cons_succ, eqL_w, Oc.on, List.length_cons, List.length_nil, Nat.zero_add, Nat.reduceAdd, z0, szOk_of (show 0 ≤ 10000000 by omega)]
    cases hk : srtS kv with
    | cons k0 kr =>
      rw [hk] at hk3
      have hvn : (k0 :: kr).Nodup := hk ▸ (srtS_perm kv).nodup_iff.mpr (hs3.nodup (by decide +kernel))
      have := fin (k0 :: kr) hvn (fun x hx => srt_mem hs3 (hk ▸ hx)) (fun x hx => VP3_HU x (srt_mem hs3 (hk ▸ hx))) hk3 (.inl (by simp))
      simp only [wipeE, sRet, sExp, sIf, sAsg, sFor, gN, gT, gC, gZ, eAn, eOr, eNo, eIf, eIsi, eV, eC, eB, eU, eCb, eCall, eSl, oN, oS, eTup, eLst, aN, aC, eLc, eCh, tAn, tOr', tNo, tB', tTr, tYs, iE, iZ, iR1, iR2, sNil, wO_bind, wO_ok, wO_onE, wO_ofif, wO_some, wS_seq, wS_then, wS_nx, wS_rt, cond_true, cond_false, List.append_nil, List.nil_append, List.cons_append, List.getElem?_cons_zero, List.getElem?_cons_succ, List.set_cons_zero, List.set_cons_succ, List.isEmpty, tp, Oc.on, List.length_cons, List.length_nil, Nat.zero_add, Nat.reduceAdd, z3]
      exact this
    | nil =>
      simp only [wipeE, sRet, sExp, sIf, sAsg, sFor, gN, gT, gC, gZ, eAn, eOr, eNo, eIf, eIsi, eV, eC, eB, eU, eCb, eCall, eSl, oN, oS, eTup, eLst, aN, aC, eLc, eCh, tAn, tOr', tNo, tB', tTr, tYs, iE, iZ, iR1, iR2, sNil, wO_bind, wO_ok, wO_onE, wO_ofif, wO_some, wS_seq, wS_then, wS_nx, wS_rt, cond_true, cond_false, List.append_nil, List.nil_append, List.cons_append, List.getElem?_cons_zero, List.getElem?_cons_succ, List.set_cons_zero, List.set_cons_succ, List.isEmpty, it2, tp, Oc.on, List.length_cons, List.length_nil, Nat.zero_add, Nat.reduceAdd, z3, z0, z1, lc_zero (fun x hx => (hw x hx).1) hwl, eqL_w]
      cases hf : ws.filter fun x => decide ((x.2.1 : Int) = 0) with
      | nil =>
        have := fin ["x"] (by simp) (fun x hx => by rw [List.mem_singleton] at hx; subst hx; decide +kernel) (fun x hx => by rw [List.mem_singleton] at hx; subst hx; exact x_HU) (by simp) (.inl (by simp))
        simp only [wipeE, sRet, sExp, sIf, sAsg, sFor, gN, gT, gC, gZ, eAn, eOr, eNo, eIf, eIsi, eV, eC, eB, eU, eCb, eCall, eSl, oN, oS, eTup, eLst, aN, aC, eLc, eCh, tAn, tOr', tNo, tB', tTr, tYs, iE, iZ, iR1, iR2, sNil, wO_bind, wO_ok, wO_onE, wO_ofif, wO_some, wS_seq, wS_then, wS_nx, wS_rt, cond_true, cond_false, List.append_nil, List.nil_append, List.cons_append, List.getElem?_cons_zero, List.getElem?_cons_succ, List.set_cons_zero, List.set_cons_succ, List.isEmpty, it2, tp, Oc.on, List.length_cons, List.length_nil, Nat.zero_add, Nat.reduceAdd, z3, z0, z1]
        exact this
      | cons f0 fr =>
        have hf0 : f0 ∈ ws.filter fun x => decide ((x.2.1 : Int) = 0) := hf ▸ List.mem_cons_self
        rw [List.mem_filter] at hf0
        have := fin [] List.nodup_nil (fun x hx => by cases hx) (fun x hx => by cases hx) (by simp) (.inr ⟨f0, hf0.1, by have := of_decide_eq_true hf0.2; omega⟩)
        simp only [wipeE, sRet, sExp, sIf, sAsg, sFor, gN, gT, gC, gZ, eAn, eOr, eNo, eIf, eIsi, eV, eC, eB, eU, eCb, eCall, eSl, oN, oS, eTup, eLst, aN, aC, eLc, eCh, tAn, tOr', tNo, tB', tTr, tYs, iE, iZ, iR1, iR2, sNil, wO_bind, wO_ok, wO_onE, wO_ofif, wO_some, wS_seq, wS_then, wS_nx, wS_rt, cond_true, cond_false, List.append_nil, List.nil_append, List.cons_append, List.getElem?_cons_zero, List.getElem?_cons_succ, List.set_cons_zero, List.set_cons_succ, List.isEmpty, it2, tp, Oc.on, List.length_cons, List.length_nil, Nat.zero_add, Nat.reduceAdd, z3, z0, z1]
        exact this
noncomputable def NP : List Str := ["-a", "-idem", "=a", "=zzzzzzzz", "a", "odd", "why"]
theorem NP_sub : NP.Sublist NU := by decide +kernel
theorem notes_w {ob : Ob} {v : Ws} {n : Nat} (h : RdOk ob n) (hv : Pl v) (hn : n + 200 < 1000000) :
    wO (fun d W => ∃ ob', W = ob' :: v ∧ ∃ ns : List Str, d = .tuple (ns.map .str) ∧ ns.Sublist NU ∧ RdOk ob' (n + 9)) (F__law_random_notes [rf 0] (ob :: v)) := by
  show wO _ (leave (ob :: v).length (b__law_random_notes [some (rf 0), none] (ob :: v)))
  refine wO_leave (P := fun d ob' => ∃ ns : List Str, d = .tuple (ns.map .str) ∧ ns.Sublist NU ∧ RdOk ob' (n + 9)) (n := n) hv ?_
  unfold b__law_random_notes
  have z7 : szOk 7 = true := szOk_of (by omega)
  have z0 : szOk 0 = true := szOk_of (by omega)
  simp only [wipeE, sRet, sExp, sIf, sAsg, sFor, gN, gT, gC, gZ, eAn, eOr, eNo, eIf, eIsi, eV, eC, eB, eU, eCb, eCall, eSl, oN, oS, eTup, eLst, aN, aC, eLc, eCh, tAn, tOr', tNo, tB', tTr, tYs, iE, iZ, iR1, iR2, sNil, wO_bind, wO_ok, wO_onE, wO_ofif, wO_some, wS_seq, wS_then, wS_nx, wS_rt, cond_true, cond_false, List.append_nil, List.nil_append, List.cons_append, List.getElem?_cons_zero, List.getElem?_cons_succ, List.set_cons_zero, List.set_cons_succ, Oc.on, List.length_cons, List.length_nil, Nat.zero_add, Nat.reduceAdd, z7, z0]
  refine wO_mono (draw_c (v := v) h (by omega) (by omega) (by omega)) ?_
  rintro d W ⟨k, ob1, rfl, hk, rfl, h1⟩
  rw [wO_oksome (eq_int _ _ _ (small62 (by omega)) (by decide))]
  dsimp only
  rw [wO_ok]
  by_cases hz : (k : Int) = 0
  · rw [decide_eq_true hz]
    simp only [wipeE, sRet, sExp, sIf, sAsg, sFor, gN, gT, gC, gZ, eAn, eOr, eNo, eIf, eIsi, eV, eC, eB, eU, eCb, eCall, eSl, oN, oS, eTup, eLst, aN, aC, eLc, eCh, tAn, tOr', tNo, tB', tTr, tYs, iE, iZ, iR1, iR2, sNil, wO_bind, wO_ok, wO_onE, wO_ofif, wO_some, wS_seq, wS_then, wS_nx, wS_rt, cond_true, cond_false, List.append_nil, List.nil_append, List.cons_append, List.getElem?_cons_zero, List.getElem?_cons_succ, List.set_cons_zero, List.set_cons_succ]
    exact ⟨ob1, [], n + 1, by simp, h1, fun k => rfl, [], rfl, List.nil_sublist _, h1.mono (by omega)⟩
  · rw [decide_eq_false hz]
    simp only [wipeE, sRet, sExp, sIf, sAsg, sFor, gN, gT, gC, gZ, eAn, eOr, eNo, eIf, eIsi, eV, eC, eB, eU, eCb, eCall, eSl, oN, oS, eTup, eLst, aN, aC, eLc, eCh, tAn, tOr', tNo, tB', tTr, tYs, iE, iZ, iR1, iR2, sNil, wO_bind, wO_ok, wO_onE, wO_ofif, wO_some, wS_seq, wS_then, wS_nx, wS_rt, cond_true, cond_false, List.append_nil, List.nil_append, List.cons_append, List.getElem?_cons_zero, List.getElem?_cons_succ, List.set_cons_zero, List.set_cons_succ]
    refine wO_mono (some_ok (P := NP) (lo := 0) (hi := 3) h1 hv (by omega) (by omega) (by omega) (by decide) (by decide)) ?_
    rintro d W ⟨ob2, rfl, ks, rfl, hs, _, h2⟩
    have hs' := hs.trans NP_sub
    rw [srt_sub hs' (List.Perm.refl _)]
    have tp : ∀ W L, tupleD W [.list L] = some (.tuple L) := fun _ _ => rfl
    simp only [wipeE, sRet, sExp, sIf, sAsg, sFor, gN, gT, gC, gZ, eAn, eOr, eNo, eIf, eIsi, eV, eC, eB, eU, eCb, eCall, eSl, oN, oS, eTup, eLst, aN, aC, eLc, eCh, tAn, tOr', tNo, tB', tTr, tYs, iE, iZ, iR1, iR2, sNil, wO_bind, wO_ok, wO_onE, wO_ofif, wO_some, wS_seq, wS_then, wS_nx, wS_rt, cond_true, cond_false, List.append_nil, List.nil_append, List.cons_append, List.getElem?_cons_zero, List.getElem?_cons_succ, List.set_cons_zero, List.set_cons_succ, tp]
    have h2' : RdOk ob2 (n + 1 + 1 + 7) := h2
    exact ⟨ob2, [], n + 9, by simp, h2'.mono (by omega), fun k => by simp only [bnd]; exact bndA_strs _ _, ks, rfl, hs', h2'.mono (by omega)⟩
end Tk

set_option Elab.async false
set_option linter.all false
set_option maxRecDepth 100000
set_option maxHeartbeats 4000000
namespace Tk
open PySem L2 Td Tg Tt
/-- a tree small enough -/
structure Sml (t : Tr) : Prop where
  vt : VT t
  ht : hgt t ≤ 12
  nd : nds t ≤ 13
/-! ### a tree over a tongue, drawn -/
mutual
theorem hgt_nds : ∀ t : Tr, hgt t + 1 ≤ nds t
  | .mk _ _ ps => by have := hgtA_nds ps; simp only [hgt, nds]; omega
theorem hgtA_nds : ∀ ps : List Tr, hgtA ps ≤ ndsA ps
  | [] => Nat.le_refl _
  | p :: ps => by have := hgt_nds p; have := hgtA_nds ps; simp only [hgtA, ndsA]; omega
end
theorem ndsA_app : ∀ a b : List Tr, ndsA (a ++ b) = ndsA a + ndsA b
  | [], b => by simp [ndsA]
  | p :: a, b => by simp only [List.cons_append, ndsA, ndsA_app a b]; omega
noncomputable def room (b : Nat) : Ob := .lst [.int (b : Int)]
theorem room_bnd (b k : Nat) : bndO k (room b) = true := rfl
theorem pl_app {a b : Ws} (ha : Pl a) (hb : Pl b) : Pl (a ++ b) := fun x hx => (List.mem_append.mp hx).elim (ha x) (hb x)
theorem pl_one {x : Ob} (h : ∀ k, bndO k x = true) : Pl [x] := fun y hy => by rw [List.mem_singleton] at hy; subst hy; exact h
theorem pl_set {v : Ws} {r : Nat} {x : Ob} (hv : Pl v) (h : ∀ k, bndO k x = true) : Pl (v.set r x) := fun y hy => by
  rcases List.mem_or_eq_of_mem_set hy with hy | rfl
  · exact hv y hy
  · exact h
theorem lst_bnd (L : List Tr) (k : Nat) : bndO k (.lst (toDs L)) = true := by simp only [bndO, bndA_toDs]
theorem ix_room {w : Ws} {q b : Nat} (h : w[q]? = some (room b)) : ixD w (rf q) (.int 0) = some (.int (b : Int)) := by
  have lo := lst_at (ds := [.int (b : Int)]) h
  show (match lstOf w (rf q) with | some ds => atI ds 0 | none => none) = _
  rw [lo]
  rfl
theorem up_room {w : Ws} {q b : Nat} (h : w[q]? = some (room b)) {x : Int} {c : Nat} (hx : x = (c : Int)) : updL w (rf q) (fun xs => (ixN xs.length 0).map fun j => (PyData.none, xs.set j (.int x))) = some (.none, w.set q (room c)) := by
  subst hx
  exact upd_at (ds := [.int (b : Int)]) h rfl
theorem tup_rf {w : Ws} {q : Nat} {ds : List PyData} (h : w[q]? = some (.lst ds)) : tupleD w [rf q] = some (.tuple ds) := by
  have lo := lst_at h
  show (lstOf w (rf q)).map (fun ds => PyData.tuple ds) = _
  rw [lo]
  rfl
theorem get_in {ob : Ob} {v u : Ws} {r : Nat} {x : Ob} (h : v[r]? = some x) : (ob :: (v ++ u))[r + 1]? = some x := by
  have hr := (List.getElem?_eq_some_iff.mp h).1
  rw [List.getElem?_cons_succ, List.getElem?_append_left hr, h]
theorem set_in {ob : Ob} {v u : Ws} {r : Nat} {y : Ob} (hr : r < v.length) : (ob :: (v ++ u)).set (r + 1) y = ob :: (v.set r y ++ u) := by
  rw [List.set_cons_succ, List.set_append_left _ _ hr]
theorem wO_leave2 {ob : Ob} {v : Ws} {o : Os} {P : PyData → Ob → Ws → Prop} (h : wS (fun _ _ => False) (fun d W => ∃ ob' v' u m, W = ob' :: (v' ++ u) ∧ v'.length = v.length ∧ Pl v' ∧ RdOk ob' m ∧ (∀ k, bnd k d = true) ∧ P d ob' v') o) :
    wO (fun d W => ∃ ob' v', W = ob' :: v' ∧ P d ob' v') (leave (ob :: v).length o) := by
  obtain ⟨d, W, rfl, ob', v', u, m, rfl, hl, h1, h2, h3, h4⟩ := wS_rtE h
  have e : (ob :: v).length = (ob' :: v').length := by simp [hl]
  rw [e, leave_c h2 h1 h3]
  exact .mk ⟨ob', v', rfl, h4⟩
theorem wS_AsgG {f : FE} {gt : FG} {ρ : Ev} {w : Ws} {N : Ev → Ws → Prop} {R : PyData → Ws → Prop} : wS N R (sAsg f gt ρ w) = wO (fun d w1 => wO N (gt d ρ w1)) (f ρ w) := by
  unfold sAsg
  rw [wS_then]
  congr 1
  funext d w1
  cases gt d ρ w1 <;> simp only [wS_nx, wS_no, wO_ok, wO_xc, wO_no]
theorem a_room {fe : FE} {i q b c : Nat} {x : Int} {ρ : Ev} {w : Ws} (hρ : ρ[i]? = some (some (rf q))) (hw : w[q]? = some (room b)) (he : fe ρ w = .ok (.int x) w) (hx : x = (c : Int)) : sAsg fe (gIx (eV i) (eC (.int 0))) ρ w = .nx ρ (w.set q (room c)) := by
  have u := up_room hw hx
  simp only [sAsg, gIx, he, Oc.thenS, eV, eC, hρ, Oc.bind, u]
theorem ix_rm {i q b : Nat} {ρ : Ev} {w : Ws} (hρ : ρ[i]? = some (some (rf q))) (hw : w[q]? = some (room b)) : eB ixD (eV i) (eC (.int 0)) ρ w = .ok (.int (b : Int)) w := by
  simp only [eB, eV, eC, hρ, Oc.bind, ix_room hw, Oc.of]
noncomputable def zeroW (x : Wd) : Bool := decide ((x.2.1 : Int) = 0)
noncomputable def wideW (b : Nat) (x : Wd) : Bool := decide (0 < x.2.1) && decide (x.2.1 ≤ b)
theorem lc_leaf {x0 x1 x2 x3 x4 x5 x6 x7 x8 x9 x10 : Option PyData} {w : Ws} {b0 : Nat} {vs : List Str} {ws : List Wd} (h : Tong b0 vs ws) :
    lcL (gN 11) (tB' (eB eqD (eB ixD (eV 11) (eC (.int 1))) (eC (.int 0)))) (eB ixD (eV 11) (eC (.int 0))) [x0, x1, x2, x3, x4, x5, x6, x7, x8, x9, x10, none] (ws.map wD) w [] = .ok ((ws.filter zeroW).map fun x => .str x.1) w := by
  have hl := h.w2
  rw [lcL_flt wD zeroW (fun x => .str x.1) ws [] (by simp only [List.length_nil]; omega) fun s hs => ⟨[x0, x1, x2, x3, x4, x5, x6, x7, x8, x9, x10, some (wD s)], rfl, by
    have i1 : ixD w (wD s) (.int 1) = some (.int (s.2.1 : Int)) := rfl
    have := (h.w1 s hs).2.1
    simp only [tB', eB, eC, eV, List.getElem?_cons_zero, List.getElem?_cons_succ, List.set_cons_zero, List.set_cons_succ, Oc.bind, Oc.of, i1, eq_int w (s.2.1 : Int) 0 (small62 (by omega)) (by decide), zeroW], fun _ => rfl⟩]
  rfl
theorem lc_wide {x0 x1 x3 x4 x5 x6 x7 x8 x9 x10 : Option PyData} {w : Ws} {vs : List Str} {ws : List Wd} {b0 q b : Nat} (h : Tong b0 vs ws) (hq : w[q]? = some (room b)) :
    lcL (gN 11) (tB' (eCh ltD leD (eC (.int 0)) (eB ixD (eV 11) (eC (.int 1))) (eB ixD (eV 2) (eC (.int 0))))) (eV 11) [x0, x1, some (rf q), x3, x4, x5, x6, x7, x8, x9, x10, none] (ws.map wD) w [] = .ok ((ws.filter (wideW b)).map wD) w := by
  have hl := h.w2
  have i2 := ix_room hq
  rw [lcL_flt wD (wideW b) wD ws [] (by simp only [List.length_nil]; omega) fun s hs => ⟨[x0, x1, some (rf q), x3, x4, x5, x6, x7, x8, x9, x10, some (wD s)], rfl, by
    have i1 : ixD w (wD s) (.int 1) = some (.int (s.2.1 : Int)) := rfl
    simp only [tB', eCh, eB, eC, eV, List.getElem?_cons_zero, List.getElem?_cons_succ, List.set_cons_zero, List.set_cons_succ, Oc.bind, Oc.of, i1, i2, ltD, leD, cmpD, wideW]
    by_cases h0 : 0 < s.2.1
    · have h0' : (0 : Int) < (s.2.1 : Int) := by omega
      have e2 : decide ((s.2.1 : Int) ≤ (b : Int)) = decide (s.2.1 ≤ b) := decide_eq_decide.mpr (by omega)
      simp only [decide_eq_true h0, decide_eq_true h0', e2, Bool.true_and]
    · have h0' : ¬ (0 : Int) < (s.2.1 : Int) := by omega
      simp only [decide_eq_false h0, decide_eq_false h0', Bool.false_and], fun _ => rfl⟩]
  rfl
theorem add_ls (w : Ws) {a b : List PyData} (h : a.length + b.length ≤ 1000) : addD w (.list a) (.list b) = some (.list (a ++ b)) := by
  simp only [addD, lstOf, szOk_of (show a.length + b.length ≤ 10000000 by omega), if_true]
mutual
/-- a tree of the language -/
noncomputable def Lw (vs : List Str) (ws : List Wd) : Tr → Prop
  | .mk _ h ps => ((h ∈ vs ∧ ps = []) ∨ (h ∉ vs ∧ ∃ y ∈ ws, y.1 = h ∧ y.2.1 = ps.length)) ∧ LwA vs ws ps
noncomputable def LwA (vs : List Str) (ws : List Wd) : List Tr → Prop
  | [] => True
  | p :: ps => Lw vs ws p ∧ LwA vs ws ps
end
theorem LwA_iff {vs : List Str} {ws : List Wd} : ∀ {ps : List Tr}, LwA vs ws ps ↔ ∀ p ∈ ps, Lw vs ws p
  | [] => by simp [LwA]
  | p :: ps => by simp [LwA, LwA_iff (ps := ps)]
theorem rtree_w {b0 : Nat} {vs : List Str} {ws : List Wd} (hT : Tong b0 vs ws) : ∀ (f : Nat) {ob : Ob} {v : Ws} {n r b : Nat}, RdOk ob n → Pl v → v[r]? = some (room b) → 1 ≤ b → b ≤ f → b ≤ 13 → n + 20 * b + 300 < 1000000 →
    wO (fun d W => ∃ ob' v', W = ob' :: v' ∧ ∃ t b' k, v' = v.set r (room b') ∧ d = toD t ∧ (VT t ∧ Lw vs ws t) ∧ k + b' = b ∧ nds t ≤ k ∧ RdOk ob' (n + 20 * k)) (F__law_random_tree f [rf 0, tgD b0 vs ws, rf (r + 1)] (ob :: v)) := by
  intro f
  induction f with
  | zero => intro ob v n r b _ _ _ h1 h2; omega
  | succ f ih =>
    intro ob v n r b h hv hr hb1 hbf hb13 hn
    have hrl := (List.getElem?_eq_some_iff.mp hr).1
    show wO _ (leave (ob :: v).length (b__law_random_tree (F__law_random_tree f) [some (rf 0), some (tgD b0 vs ws), some (rf (r + 1)), none, none, none, none, none, none, none, none, none] (ob :: v)))
    refine wO_leave2 (P := fun d ob' v' => ∃ t b' k, v' = v.set r (room b') ∧ d = toD t ∧ (VT t ∧ Lw vs ws t) ∧ k + b' = b ∧ nds t ≤ k ∧ RdOk ob' (n + 20 * k)) ?_
    obtain ⟨g, hg⟩ : ∃ g, g = F__law_random_tree f := ⟨_, rfl⟩
    rw [← hg] at ih ⊢
    unfold b__law_random_tree
    have g0 : (ob :: v)[r + 1]? = some (room b) := hr
    have s1 : ∀ W (x y : Int), subD W (.int x) (.int y) = some (.int (x - y)) := fun _ _ _ => rfl
    have s2 : ∀ W (x y : Int), addD W (.int x) (.int y) = some (.int (x + y)) := fun _ _ _ => rfl
    obtain ⟨v1, hv1⟩ : ∃ v1, v1 = v.set r (room (b - 1)) := ⟨_, rfl⟩
    have st0 : (ob :: v).set (r + 1) (room (b - 1)) = ob :: v1 := by rw [hv1]; rfl
    have a0 : sAsg (eB subD (eB ixD (eV 2) (eC (.int 0))) (eC (.int 1))) (gIx (eV 2) (eC (.int 0))) [some (rf 0), some (tgD b0 vs ws), some (rf (r + 1)), none, none, none, none, none, none, none, none, none] (ob :: v) = .nx [some (rf 0), some (tgD b0 vs ws), some (rf (r + 1)), none, none, none, none, none, none, none, none, none] (ob :: v1) := by
      rw [← st0]
      exact a_room (q := r + 1) (b := b) (x := (b : Int) - 1) rfl g0 (by rw [eB, ix_rm (q := r + 1) rfl g0]; rfl) (by omega)
    have pv1 : Pl v1 := hv1 ▸ pl_set hv (room_bnd _)
    have lv1 : v1.length = v.length := by rw [hv1, List.length_set]
    have r1 : v1[r]? = some (room (b - 1)) := by rw [hv1, List.getElem?_set_self hrl]
    have g1 : ∀ ob, (ob :: v1)[r + 1]? = some (room (b - 1)) := fun _ => r1
    have t1 : ∀ W, ixD W (tgD b0 vs ws) (.int 1) = some (.tuple (vs.map .str)) := fun _ => rfl
    have t2 : ∀ W, ixD W (tgD b0 vs ws) (.int 2) = some (.tuple (ws.map wD)) := fun _ => rfl
    have l1 : ∀ W L, listD W [.tuple L] = some (.list L) := fun _ _ => rfl
    have it1 : ∀ L, itD (.tuple L) = some L := fun _ => rfl
    have ln1 : ∀ W L, lenD W [.list L] = some (.int (L.length : Int)) := fun _ _ => rfl
    have z0 : szOk 0 = true := szOk_of (by omega)
    have z3 : szOk 3 = true := szOk_of (by omega)
    have hv2 := hT.v2
    have hw2 := hT.w2
    have hfz : (ws.filter zeroW).length ≤ 6 := Nat.le_trans (List.length_filter_le ..) hw2
    obtain ⟨lv, hlv⟩ : ∃ lv, lv = vs ++ (ws.filter zeroW).map (·.1) := ⟨_, rfl⟩
    have lvm : vs.map PyData.str ++ (ws.filter zeroW).map (fun x => PyData.str x.1) = lv.map .str := by rw [hlv]; simp [List.map_map, Function.comp_def]
    have lvl : lv.length ≤ 9 := by rw [hlv]; simp only [List.length_append, List.length_map]; omega
    have lvp : 1 ≤ lv.length := by
      rw [hlv]; simp only [List.length_append, List.length_map]
      rcases hT.ne with h | ⟨x, hx, h0⟩
      · have := List.length_pos_iff.mpr h; omega
      · have : x ∈ ws.filter zeroW := List.mem_filter.mpr ⟨hx, by unfold zeroW; exact decide_eq_true (by omega)⟩
        have := List.length_pos_of_mem this; omega
    have lvu : ∀ x ∈ lv, x ∈ HU := by
      intro x hx
      rw [hlv] at hx
      rcases List.mem_append.mp hx with hx | hx
      · exact hT.v1 x hx
      · obtain ⟨y, hy, rfl⟩ := List.mem_map.mp hx
        exact (hT.w1 y (List.mem_filter.mp hy).1).1
    have lvw : ∀ x ∈ lv, (x ∈ vs ∧ ([] : List Tr) = []) ∨ (x ∉ vs ∧ ∃ y ∈ ws, y.1 = x ∧ y.2.1 = ([] : List Tr).length) := by
      intro x hx
      rw [hlv] at hx
      rcases List.mem_append.mp hx with hx | hx
      · exact .inl ⟨hx, rfl⟩
      · obtain ⟨y, hy, rfl⟩ := List.mem_map.mp hx
        obtain ⟨hy1, hy2⟩ := List.mem_filter.mp hy
        have := of_decide_eq_true hy2
        exact .inr ⟨hT.vin y hy1, y, hy1, rfl, by rw [List.length_nil]; omega⟩
    have ad : ∀ W, addD W (.list (vs.map .str)) (.list ((ws.filter zeroW).map fun x => .str x.1)) = some (.list (lv.map .str)) := fun W => by
      rw [add_ls W (by simp only [List.length_map]; omega), lvm]
    simp only [wS_seq, a0, wS_nx]
    simp only [wipeE, sRet, sExp, sIf, wS_AsgG, gIx, sFor, gN, gT, gC, gZ, eAn, eOr, eNo, eIf, eIsi, eV, eC, eB, eU, eCb, eCall, eSl, oN, oS, eTup, eLst, aN, aC, eLc, eCh, tAn, tOr', tNo, tB', tTr, tYs, iE, iZ, iR1, iR2, sNil, wO_bind, wO_ok, wO_onE, wO_ofif, wO_some, wS_seq, wS_then, wS_nx, wS_rt, cond_true, cond_false, List.append_nil, List.nil_append, List.cons_append, List.getElem?_cons_zero, List.getElem?_cons_succ, List.set_cons_zero, List.set_cons_succ, s1, t1, t2, l1, it1, lc_leaf hT, lc_wide hT (g1 _), ad, Oc.on, List.length_cons, List.length_nil, Nat.zero_add, Nat.reduceAdd, z0, z3]
    refine wO_mono (notes_w h pv1 (by omega)) ?_
    rintro d W ⟨ob1, rfl, ns, rfl, hns, h1⟩
    simp only [wipeE, sRet, sExp, sIf, sAsg, sFor, gN, gT, gC, gZ, eAn, eOr, eNo, eIf, eIsi, eV, eC, eB, eU, eCb, eCall, eSl, oN, oS, eTup, eLst, aN, aC, eLc, eCh, tAn, tOr', tNo, tB', tTr, tYs, iE, iZ, iR1, iR2, sNil, wO_bind, wO_ok, wO_onE, wO_ofif, wO_some, wS_seq, wS_then, wS_nx, wS_rt, cond_true, cond_false, List.append_nil, List.nil_append, List.cons_append, List.getElem?_cons_zero, List.getElem?_cons_succ, List.set_cons_zero, List.set_cons_succ, eqL_w, Oc.on]
    obtain ⟨W4, hW4⟩ : ∃ W4, W4 = ws.filter (wideW (b - 1)) := ⟨_, rfl⟩
    rw [← hW4]
    have leaf : ∀ (ob2 : Ob) (K : PyData → Ws → Prop), RdOk ob2 (n + 10) → (∀ x ob3, x ∈ lv → RdOk ob3 (n + 11) → K (.str x) (ob3 :: v1)) → wO (fun a w => wO K (Oc.of (ixD w (.list (lv.map .str)) a) w)) (F__law_draw [rf 0, PyData.int ((lv.map PyData.str).length : Int)] (ob2 :: v1)) := by
      intro ob2 K h2 hK
      refine wO_mono (draw_c (v := v1) h2 (by omega) (by rw [List.length_map]; omega) (by rw [List.length_map]; omega)) ?_
      rintro d W ⟨k, ob3, rfl, hk, rfl, h3⟩
      obtain ⟨x, hx, e⟩ := atL (w := ob3 :: v1) (xs := lv.map .str) (v := (k : Int)) (by omega) hk
      obtain ⟨y, hy, rfl⟩ := List.mem_map.mp hx
      rw [e, wO_some]
      exact hK y ob3 hy h3
    have lfin : ∀ x ob3, x ∈ lv → RdOk ob3 (n + 11) → ∃ ob' v' u m, ob3 :: v1 = ob' :: (v' ++ u) ∧ v'.length = v.length ∧ Pl v' ∧ RdOk ob' m ∧ (∀ k, bnd k (toD (.mk ns x [])) = true) ∧ ∃ t b' k, v' = v.set r (room b') ∧ toD (.mk ns x []) = toD t ∧ (VT t ∧ Lw vs ws t) ∧ k + b' = b ∧ nds t ≤ k ∧ RdOk ob' (n + 20 * k) := fun x ob3 hx h3 =>
      ⟨ob3, v1, [], _, by simp, lv1, pv1, h3, fun k => bnd_toD k _, .mk ns x [], b - 1, 1, hv1, rfl, ⟨⟨hns, lvu x hx, trivial⟩, lvw x hx, trivial⟩, by omega, by simp [nds, ndsA], h3.mono (by omega)⟩
    cases hw4 : W4 with
    | nil =>
      simp only [wipeE, sRet, sExp, sIf, sAsg, sFor, gN, gT, gC, gZ, eAn, eOr, eNo, eIf, eIsi, eV, eC, eB, eU, eCb, eCall, eSl, oN, oS, eTup, eLst, aN, aC, eLc, eCh, tAn, tOr', tNo, tB', tTr, tYs, iE, iZ, iR1, iR2, sNil, wO_bind, wO_ok, wO_onE, wO_ofif, wO_some, wS_seq, wS_then, wS_nx, wS_rt, cond_true, cond_false, List.append_nil, List.nil_append, List.cons_append, List.getElem?_cons_zero, List.getElem?_cons_succ, List.set_cons_zero, List.set_cons_succ, List.map_nil, List.isEmpty, ln1]
      refine leaf ob1 _ (h1.mono (by omega)) fun x ob3 hx h3 => ?_
      simp only [wipeE, sRet, sExp, sIf, sAsg, sFor, gN, gT, gC, gZ, eAn, eOr, eNo, eIf, eIsi, eV, eC, eB, eU, eCb, eCall, eSl, oN, oS, eTup, eLst, aN, aC, eLc, eCh, tAn, tOr', tNo, tB', tTr, tYs, iE, iZ, iR1, iR2, sNil, wO_bind, wO_ok, wO_onE, wO_ofif, wO_some, wS_seq, wS_then, wS_nx, wS_rt, cond_true, cond_false, List.append_nil, List.nil_append, List.cons_append, List.getElem?_cons_zero, List.getElem?_cons_succ, List.set_cons_zero, List.set_cons_succ, Oc.on, List.length_cons, List.length_nil, Nat.zero_add, Nat.reduceAdd, z0, z3]
      exact lfin x ob3 hx h3
    | cons y0 yr =>
      have hW4l : (y0 :: yr).length ≤ 6 := by rw [← hw4, hW4]; exact Nat.le_trans (List.length_filter_le ..) hw2
      simp only [wipeE, sRet, sExp, sIf, sAsg, sFor, gN, gT, gC, gZ, eAn, eOr, eNo, eIf, eIsi, eV, eC, eB, eU, eCb, eCall, eSl, oN, oS, eTup, eLst, aN, aC, eLc, eCh, tAn, tOr', tNo, tB', tTr, tYs, iE, iZ, iR1, iR2, sNil, wO_bind, wO_ok, wO_onE, wO_ofif, wO_some, wS_seq, wS_then, wS_nx, wS_rt, cond_true, cond_false, List.append_nil, List.nil_append, List.cons_append, List.getElem?_cons_zero, List.getElem?_cons_succ, List.set_cons_zero, List.set_cons_succ, List.isEmpty, List.map_cons, ln1]
      rw [← List.map_cons (f := wD)]
      refine wO_mono (draw_c (v := v1) h1 (by omega) (by omega) (by omega)) ?_
      rintro d W ⟨k, ob2, rfl, hk, rfl, h2⟩
      rw [wO_oksome (eq_int _ _ _ (small62 (by omega)) (by decide))]
      dsimp only
      rw [wO_ok]
      by_cases hz : (k : Int) = 0
      · rw [decide_eq_true hz]
        simp only [wipeE, sRet, sExp, sIf, sAsg, sFor, gN, gT, gC, gZ, eAn, eOr, eNo, eIf, eIsi, eV, eC, eB, eU, eCb, eCall, eSl, oN, oS, eTup, eLst, aN, aC, eLc, eCh, tAn, tOr', tNo, tB', tTr, tYs, iE, iZ, iR1, iR2, sNil, wO_bind, wO_ok, wO_onE, wO_ofif, wO_some, wS_seq, wS_then, wS_nx, wS_rt, cond_true, cond_false, List.append_nil, List.nil_append, List.cons_append, List.getElem?_cons_zero, List.getElem?_cons_succ, List.set_cons_zero, List.set_cons_succ, ln1]
        refine leaf ob2 _ (h2.mono (by omega)) fun x ob3 hx h3 => ?_
        simp only [wipeE, sRet, sExp, sIf, sAsg, sFor, gN, gT, gC, gZ, eAn, eOr, eNo, eIf, eIsi, eV, eC, eB, eU, eCb, eCall, eSl, oN, oS, eTup, eLst, aN, aC, eLc, eCh, tAn, tOr', tNo, tB', tTr, tYs, iE, iZ, iR1, iR2, sNil, wO_bind, wO_ok, wO_onE, wO_ofif, wO_some, wS_seq, wS_then, wS_nx, wS_rt, cond_true, cond_false, List.append_nil, List.nil_append, List.cons_append, List.getElem?_cons_zero, List.getElem?_cons_succ, List.set_cons_zero, List.set_cons_succ, Oc.on, List.length_cons, List.length_nil, Nat.zero_add, Nat.reduceAdd, z0, z3]
        exact lfin x ob3 hx h3
      · rw [decide_eq_false hz]
        simp only [wipeE, sRet, sExp, sIf, sAsg, sFor, gN, gT, gC, gZ, eAn, eOr, eNo, eIf, eIsi, eV, eC, eB, eU, eCb, eCall, eSl, oN, oS, eTup, eLst, aN, aC, eLc, eCh, tAn, tOr', tNo, tB', tTr, tYs, iE, iZ, iR1, iR2, sNil, wO_bind, wO_ok, wO_onE, wO_ofif, wO_some, wS_seq, wS_then, wS_nx, wS_rt, cond_true, cond_false, List.append_nil, List.nil_append, List.cons_append, List.getElem?_cons_zero, List.getElem?_cons_succ, List.set_cons_zero, List.set_cons_succ, ln1]
        have hlen : (((y0 :: yr).map wD).length : Int) = ((y0 :: yr).length : Int) := by rw [List.length_map]
        have hpos : 1 ≤ (y0 :: yr).length := by simp
        refine wO_mono (draw_c (v := v1) (m := (((y0 :: yr).map wD).length : Int)) h2 (by omega) (by rw [hlen]; omega) (by rw [hlen]; omega)) ?_
        rintro d W ⟨k2, ob3, rfl, hk2, rfl, h3⟩
        obtain ⟨x, hx, e⟩ := atL (w := ob3 :: v1) (xs := (y0 :: yr).map wD) (v := (k2 : Int)) (by omega) hk2
        obtain ⟨y, hy, rfl⟩ := List.mem_map.mp hx
        rw [← hw4, hW4] at hy
        obtain ⟨hyw, hyb⟩ := List.mem_filter.mp hy
        unfold wideW at hyb
        obtain ⟨hb2, hb3⟩ := Bool.and_eq_true_iff.mp hyb
        have hb2 := of_decide_eq_true hb2
        have hb3 := of_decide_eq_true hb3
        have hyU := (hT.w1 y hyw).1
        have hy2 := (hT.w1 y hyw).2.1
        rw [e, wO_some]
        have i2 := ix_room (g1 ob3)
        obtain ⟨c, hc⟩ : ∃ c, c = b - 1 - y.2.1 := ⟨_, rfl⟩
        have u2 := up_room (g1 ob3) (x := ((b - 1 : Nat) : Int) - (y.2.1 : Int)) (c := c) (by omega)
        obtain ⟨v2, hv2⟩ : ∃ v2, v2 = v.set r (room c) := ⟨_, rfl⟩
        have st2 : (ob3 :: v1).set (r + 1) (room c) = ob3 :: v2 := by rw [hv2, hv1, List.set_cons_succ, List.set_set]
        rw [st2] at u2
        have lv2 : v2.length = v.length := by rw [hv2, List.length_set]
        have cp : c62 (y.2.1 : Int) = true := by unfold c62; exact decide_eq_true (by omega)
        have wd : wD y = .tuple [.str y.1, .int (y.2.1 : Int), .tuple (natsD y.2.2)] := rfl
        rw [wd]
        simp only [wipeE, sRet, sExp, sIf, wS_AsgG, gIx, sFor, gN, gT, gC, gZ, eAn, eOr, eNo, eIf, eIsi, eV, eC, eB, eU, eCb, eCall, eSl, oN, oS, eTup, eLst, aN, aC, eLc, eCh, tAn, tOr', tNo, tB', tTr, tYs, iE, iZ, iR1, iR2, sNil, wO_bind, wO_ok, wO_onE, wO_ofif, wO_some, wS_seq, wS_then, wS_nx, wS_rt, cond_true, cond_false, List.append_nil, List.nil_append, List.cons_append, List.getElem?_cons_zero, List.getElem?_cons_succ, List.set_cons_zero, List.set_cons_succ, i2, s1, u2, eLstS, cp, lv2, Oc.on, Oc.bind, List.length_cons, List.length_nil, Nat.zero_add, Nat.reduceAdd, if_true, z0]
        refine wS_forL (fun i ρ W => ∃ (ps : List Tr) (ob' : Ob) (y7 : Option PyData) (R k : Nat), W = ob' :: (v.set r (room R) ++ [.lst (toDs ps)]) ∧
          ρ = [some (rf 0), some (tgD b0 vs ws), some (rf (r + 1)), some (.list (lv.map .str)), some (.list ((y0 :: yr).map wD)), some (.tuple (ns.map .str)), some (rf (v.length + 1)), y7, some (.str y.1), some (.int (y.2.1 : Int)), some (.tuple (natsD y.2.2)), none] ∧
          ps.length = i ∧ (VTA ps ∧ LwA vs ws ps) ∧ ndsA ps ≤ k ∧ k + R = c + i ∧ RdOk ob' (n + 12 + 20 * k)) _ 0 _ _ ⟨[], ob3, none, c, 0, by rw [← hv2]; rfl, rfl, rfl, ⟨trivial, trivial⟩, by simp [ndsA], by omega, h3.mono (by omega)⟩ ?_ ?_
        · rintro i d ρ W hj ⟨ps, ob4, y7, R, k, rfl, rfl, hl, hps, hk, hR, h4⟩
          rw [Nat.zero_add] at *
          have hi := (List.getElem?_eq_some_iff.mp hj).1
          have hrl2 : (rgD 0 (y.2.1 : Int)).length = y.2.1 := by unfold rgD; rw [List.length_map, List.length_range]; omega
          rw [hrl2] at hi
          have lR : ∀ R, (v.set r (room R)).length = v.length := fun R => List.length_set ..
          have gR : ∀ R, (v.set r (room R))[r]? = some (room R) := fun R => List.getElem?_set_self hrl
          have gq : ∀ (o : Ob) R L, (o :: (v.set r (room R) ++ [Ob.lst L]))[r + 1]? = some (room R) := fun o R L => get_in (gR R)
          have sq : ∀ (o : Ob) R R' L, (o :: (v.set r (room R) ++ [Ob.lst L])).set (r + 1) (room R') = o :: (v.set r (room R') ++ [Ob.lst L]) := fun o R R' L => by
            rw [set_in (by rw [lR]; exact hrl), List.set_set]
          have gp : ∀ (o : Ob) R L, (o :: (v.set r (room R) ++ [Ob.lst L]))[v.length + 1]? = some (.lst L) := fun o R L => by
            have := lst_c (ob := o) (x := .lst L) (v := v.set r (room R)) (u := [])
            rw [lR] at this; exact this
          have sp : ∀ (o : Ob) R L L', (o :: (v.set r (room R) ++ [Ob.lst L])).set (v.length + 1) (.lst L') = o :: (v.set r (room R) ++ [Ob.lst L']) := fun o R L L' => by
            have := set_c (ob := o) (x := .lst L) (y := .lst L') (v := v.set r (room R)) (u := [])
            rw [lR] at this; exact this
          have i3 := ix_room (gq ob4 R (toDs ps))
          have u3 := up_room (gq ob4 R (toDs ps)) (x := (R : Int) + 1) (c := R + 1) (by omega)
          rw [sq] at u3
          have lo := lst_at (gp ob4 (R + 1) (toDs ps))
          have pv : Pl (v.set r (room (R + 1)) ++ [.lst (toDs ps)]) := pl_app (pl_set hv (room_bnd _)) (pl_one (lst_bnd ps))
          have ih1 := ih (ob := ob4) (v := v.set r (room (R + 1)) ++ [.lst (toDs ps)]) (n := n + 12 + 20 * k) (r := r) (b := R + 1) h4 pv (by rw [List.getElem?_append_left (by rw [lR]; exact hrl)]; exact gR _) (by omega) (by omega) (by omega) (by omega)
          simp only [wipeE, sRet, sExp, sIf, wS_AsgG, gIx, sFor, gN, gT, gC, gZ, eAn, eOr, eNo, eIf, eIsi, eV, eC, eB, eU, eCb, eCall, eSl, oN, oS, eTup, eLst, aN, aC, eLc, eCh, tAn, tOr', tNo, tB', tTr, tYs, iE, iZ, iR1, iR2, sNil, wO_bind, wO_ok, wO_onE, wO_ofif, wO_some, wS_seq, wS_then, wS_nx, wS_rt, cond_true, cond_false, List.append_nil, List.nil_append, List.cons_append, List.getElem?_cons_zero, List.getElem?_cons_succ, List.set_cons_zero, List.set_cons_succ, i3, s2, u3, eLm, lo, Option.isSome_some, Oc.on]
          refine wO_mono ih1 ?_
          rintro d W ⟨ob5, v5, rfl, t, b', k', rfl, rfl, ⟨ht, htl⟩, hk2, hn2, h5⟩
          rw [List.set_append_left _ _ (by rw [lR]; exact hrl), List.set_set]
          have u := upd_at (k := fun xs => apL xs [toD t]) (d := .none) (ys := toDs ps ++ [toD t]) (gp ob5 b' (toDs ps)) (by simp only [apL]; rw [if_pos (by rw [sizeLine_eq, toDs_len]; omega)])
          rw [sp] at u
          simp only [u, wO_ok]
          refine ⟨ps ++ [t], ob5, some d, b', k + k', by rw [toDs_app]; rfl, rfl, by simp [hl], ?_, ?_, by omega, h5.mono (by omega)⟩
          · exact ⟨VTA_iff.mpr fun p hp => (List.mem_append.mp hp).elim (VTA_iff.mp hps.1 p) fun h => by rw [List.mem_singleton] at h; subst h; exact ht, LwA_iff.mpr fun p hp => (List.mem_append.mp hp).elim (LwA_iff.mp hps.2 p) fun h => by rw [List.mem_singleton] at h; subst h; exact htl⟩
          · rw [ndsA_app]; simp only [ndsA]; omega
        · rintro ρ W ⟨ps, ob4, y7, R, k, rfl, rfl, hl, hps, hk, hR, h4⟩
          have hrl2 : (rgD 0 (y.2.1 : Int)).length = y.2.1 := by unfold rgD; rw [List.length_map, List.length_range]; omega
          rw [Nat.zero_add, hrl2] at hl hR
          have lR : (v.set r (room R)).length = v.length := List.length_set ..
          have gp : (ob4 :: (v.set r (room R) ++ [Ob.lst (toDs ps)]))[v.length + 1]? = some (.lst (toDs ps)) := by
            have := lst_c (ob := ob4) (x := .lst (toDs ps)) (v := v.set r (room R)) (u := [])
            rw [lR] at this; exact this
          simp only [wipeE, sRet, sExp, sIf, wS_AsgG, gIx, sFor, gN, gT, gC, gZ, eAn, eOr, eNo, eIf, eIsi, eV, eC, eB, eU, eCb, eCall, eSl, oN, oS, eTup, eLst, aN, aC, eLc, eCh, tAn, tOr', tNo, tB', tTr, tYs, iE, iZ, iR1, iR2, sNil, wO_bind, wO_ok, wO_onE, wO_ofif, wO_some, wS_seq, wS_then, wS_nx, wS_rt, cond_true, cond_false, List.append_nil, List.nil_append, List.cons_append, List.getElem?_cons_zero, List.getElem?_cons_succ, List.set_cons_zero, List.set_cons_succ, tup_rf gp, Oc.on, List.length_cons, List.length_nil, Nat.zero_add, Nat.reduceAdd, z3]
          exact ⟨ob4, v.set r (room R), [.lst (toDs ps)], _, rfl, lR, pl_set hv (room_bnd _), h4, fun k => bnd_toD k (.mk ns y.1 ps), .mk ns y.1 ps, R, k + 1, rfl, rfl, ⟨⟨hns, hyU, hps.1⟩, .inr ⟨hT.vin y hyw, y, hyw, rfl, hl.symm⟩, hps.2⟩, by omega, by simp only [nds]; omega, h4.mono (by omega)⟩
end Tk

set_option Elab.async false
set_option linter.all false
set_option maxRecDepth 100000
set_option maxHeartbeats 4000000
namespace Tk
open PySem L2 Td Tg Tt
/-! ### what a tree is worth -/
theorem in_strs {z : Str} {ns : List Str} {w : Ws} (hz : ascS z = true) (hn : okDA (ns.map .str) = true) : isIn w (.str z) (.tuple (ns.map .str)) = some (decide (z ∈ ns)) := by
  have s1 := shaped_of (d := .str z) (by simp only [okD]; exact hz) (by simp [PyData.depth])
  have s2 := shaped_of (d := .tuple (ns.map .str)) (by simp only [okD]; exact hn) (by
    have : PyData.depthAll (ns.map PyData.str) ≤ 1 := depthAll_le.mpr fun x hx => by
      obtain ⟨y, _, rfl⟩ := List.mem_map.mp hx
      simp [PyData.depth]
    simp only [PyData.depth]; omega)
  have e : (ns.map PyData.str).any (fun y => PyData.eqv y (.str z)) = decide (z ∈ ns) := by
    rw [Bool.eq_iff_iff, List.any_eq_true, decide_eq_true_iff]
    constructor
    · rintro ⟨y, hy, e⟩
      obtain ⟨x, hx, rfl⟩ := List.mem_map.mp hy
      rw [Td.eqv_str, decide_eq_true_iff] at e
      exact e ▸ hx
    · intro h
      exact ⟨_, List.mem_map.mpr ⟨z, h, rfl⟩, by rw [Td.eqv_str, decide_eq_true rfl]⟩
  simp only [isIn, s1, s2, Bool.and_self, if_true, e]
noncomputable abbrev Chs := List (Str × Nat)
noncomputable def lk (κ : Chs) (k : Str) : Option Nat := (κ.find? fun p => decide (p.1 = k)).map (·.2)
noncomputable def kI (p : Str × Nat) : Key × PyData := (.inr p.1, .int (p.2 : Int))
theorem valP_lk (k : Str) : ∀ κ : Chs, valP (κ.map kI) (.inr k) = (lk κ k).map fun (v : Nat) => .int (v : Int)
  | [] => rfl
  | p :: κ => by
    unfold valP lk
    by_cases h : p.1 = k
    · simp [kI, h]
    · have ih := valP_lk k κ
      unfold valP lk at ih
      have h' : ¬ ((Sum.inr p.1 : Key) = Sum.inr k) := fun e => h (Sum.inr.inj e)
      simp only [List.map_cons, List.find?_cons, kI, h, h', decide_false, cond_false] at ih ⊢
      exact ih
theorem valP_some (κ : Chs) (k : Str) : (valP (κ.map kI) (.inr k)).isSome = (lk κ k).isSome := by rw [valP_lk]; cases lk κ k <;> rfl
noncomputable def tbl (ws : List Wd) (h : Str) : List Nat := ((ws.find? fun x => decide (x.1 = h)).map (·.2.2)).getD []
mutual
noncomputable def tev (b : Nat) (ws : List Wd) (κ : Chs) : Tr → Nat
  | .mk _ h ps => match lk κ h with
    | some v => v
    | none => (tbl ws h).getD (tevs b ws κ 0 ps) 0
noncomputable def tevs (b : Nat) (ws : List Wd) (κ : Chs) (a : Nat) : List Tr → Nat
  | [] => a
  | p :: ps => tevs b ws κ (a * b + tev b ws κ p) ps
end
/-- what is known: a value for each input -/
structure Kn (b : Nat) (vs : List Str) (κ : Chs) : Prop where
  ks : κ.map (·.1) = vs
  lt : ∀ p ∈ κ, p.2 < b
theorem lk_key {k : Str} : ∀ {κ : Chs}, (lk κ k).isSome = true ↔ k ∈ κ.map (·.1)
  | [] => by simp [lk]
  | p :: κ => by
    have ih := lk_key (k := k) (κ := κ)
    unfold lk at ih ⊢
    by_cases h : p.1 = k
    · simp [h]
    · rw [List.find?_cons, decide_eq_false h, ih, List.map_cons, List.mem_cons]
      exact ⟨.inr, fun z => z.elim (fun z => absurd z.symm h) id⟩
section
variable {b : Nat} {vs : List Str} {ws : List Wd} {κ : Chs} {w : Ws}
theorem Kn.some (h : Kn b vs κ) {k : Str} (hk : k ∈ vs) : ∃ v, lk κ k = some v ∧ v < b := by
  obtain ⟨v, hv⟩ := Option.isSome_iff_exists.mp (lk_key.mpr (by rw [h.ks]; exact hk))
  refine ⟨v, hv, ?_⟩
  unfold lk at hv
  obtain ⟨p, hp, rfl⟩ := Option.map_eq_some_iff.mp hv
  exact h.lt p (List.mem_of_find?_eq_some hp)
theorem Kn.none (h : Kn b vs κ) {k : Str} (hk : k ∉ vs) : lk κ k = none := by
  cases e : lk κ k with
  | none => rfl
  | some v => exact absurd (by rw [← h.ks]; exact lk_key.mp (by rw [e]; rfl)) hk
theorem tbl_of (hT : Tong b vs ws) {x : Wd} (hx : x ∈ ws) : tbl ws x.1 = x.2.2 := by
  have : ∀ ws : List Wd, (ws.map (·.1)).Nodup → x ∈ ws → ws.find? (fun y => decide (y.1 = x.1)) = some x := by
    intro ws
    induction ws with
    | nil => intro _ h; cases h
    | cons y ws ih =>
      intro hn h
      rw [List.map_cons, List.nodup_cons] at hn
      rcases List.mem_cons.mp h with rfl | h
      · simp
      · have ne : ¬ y.1 = x.1 := fun e => hn.1 (e ▸ List.mem_map.mpr ⟨x, h, rfl⟩)
        rw [List.find?_cons, decide_eq_false ne]
        exact ih hn.2 h
  unfold tbl
  rw [this ws hT.nd hx]; rfl
mutual
theorem tev_lt (hT : Tong b vs ws) (hκ : Kn b vs κ) : ∀ t : Tr, Lw vs ws t → tev b ws κ t < b
  | .mk ns h ps, hl => by
    rcases hl.1 with ⟨hv, rfl⟩ | ⟨hv, x, hx, rfl, ha⟩
    · obtain ⟨v, e, lt⟩ := hκ.some hv
      simp only [tev, e]; exact lt
    · have h1 := tevs_lt hT hκ ps 0 hl.2
      obtain ⟨t1, t2⟩ := hT.tb x hx
      rw [Nat.zero_add, Nat.one_mul, ← ha, ← t1] at h1
      simp only [tev, hκ.none hv, tbl_of hT hx]
      rw [List.getD_eq_getElem?_getD, List.getElem?_eq_getElem h1, Option.getD_some]
      exact t2 _ (List.getElem_mem h1)
theorem tevs_lt (hT : Tong b vs ws) (hκ : Kn b vs κ) : ∀ (ps : List Tr) (a : Nat), LwA vs ws ps → tevs b ws κ a ps < (a + 1) * b ^ ps.length
  | [], a, _ => by simp [tevs]
  | p :: ps, a, h => by
    have h1 := tev_lt hT hκ p h.1
    have h2 := tevs_lt hT hκ ps (a * b + tev b ws κ p) h.2
    rw [tevs, List.length_cons, Nat.pow_succ]
    refine Nat.lt_of_lt_of_le h2 ?_
    have : a * b + tev b ws κ p + 1 ≤ (a + 1) * b := by rw [Nat.add_mul]; omega
    calc (a * b + tev b ws κ p + 1) * b ^ ps.length ≤ ((a + 1) * b) * b ^ ps.length := Nat.mul_le_mul_right _ this
      _ = (a + 1) * (b ^ ps.length * b) := by rw [Nat.mul_assoc, Nat.mul_comm b]
end
theorem tg0 : ixD w (tgD b vs ws) (.int 0) = some (.int (b : Int)) := rfl
theorem tg1 : ixD w (tgD b vs ws) (.int 1) = some (.tuple (vs.map .str)) := rfl
theorem tb_at (t : List Nat) {i : Nat} (h : i < t.length) : ixD w (.tuple (natsD t)) (.int (i : Int)) = some (.int ((t.getD i 0 : Nat) : Int)) := by
  unfold natsD
  rw [ixD_tup]
  refine Td.atI_nat ?_
  rw [List.getElem?_map, List.getElem?_eq_getElem h, List.getD_eq_getElem?_getD, List.getElem?_eq_getElem h]; rfl
theorem mulN (a s : Nat) (hs : s ≤ 3) : mulD w (.int (a : Int)) (.int (s : Int)) = some (.int ((a * s : Nat) : Int)) := by
  have c : cMl (a : Int) (s : Int) = true := by unfold cMl; rw [decide_eq_true (show (s : Int).natAbs < 2 ^ 64 by omega), Bool.or_true]
  show (if cMl (a : Int) (s : Int) = true then some (PyData.int ((a : Int) * (s : Int))) else none) = _
  rw [c, if_pos rfl, Int.natCast_mul]
theorem addN (a b : Nat) : addD w (.int (a : Int)) (.int (b : Int)) = some (.int ((a + b : Nat) : Int)) := by
  show some (PyData.int ((a : Int) + (b : Int))) = _
  rw [Int.natCast_add]
theorem HU_a {z : Str} (h : z ∈ HU) : ascS z = true := HU_ok z h
theorem okDA_vs (hT : Tong b vs ws) : okDA (vs.map .str) = true := okDA_iff.mpr fun d hd => by
  obtain ⟨x, hx, rfl⟩ := List.mem_map.mp hd
  simp only [okD]; exact HU_a (hT.v1 x hx)
theorem inV (hT : Tong b vs ws) {h : Str} (hh : h ∈ HU) : inD w (.str h) (.tuple (vs.map .str)) = some (.bool (decide (h ∈ vs))) := by
  unfold inD
  rw [in_strs (HU_a hh) (okDA_vs hT), Option.map_some]
theorem fkK (κ : Chs) : fkOf (fkD (κ.map kI)) = some (κ.map kI) := fkOf_fk _
mutual
noncomputable def VH : Tr → Prop
  | .mk _ h ps => h ∈ HU ∧ VHA ps
noncomputable def VHA : List Tr → Prop
  | [] => True
  | p :: ps => VH p ∧ VHA ps
end
mutual
theorem VT.vh : ∀ t : Tr, VT t → VH t
  | .mk _ h ps, v => ⟨v.2.1, VTA.vh ps v.2.2⟩
theorem VTA.vh : ∀ ps : List Tr, VTA ps → VHA ps
  | [], _ => trivial
  | p :: ps, v => ⟨VT.vh p v.1, VTA.vh ps v.2⟩
end
theorem VHA.mem {p : Tr} : ∀ {ps : List Tr}, VHA ps → p ∈ ps → VH p
  | q :: ps, h, hp => by
    rcases List.mem_cons.mp hp with rfl | hp
    · exact h.1
    · exact VHA.mem h.2 hp
theorem rowK {row : List Nat} (hl : row.length = vs.length) (hb : ∀ v ∈ row, v < b) : Kn b vs (vs.zip row) := by
  refine ⟨by rw [List.map_fst_zip (by omega)], fun p hp => hb p.2 (List.of_mem_zip hp).2⟩
theorem lk_row : ∀ {vs : List Str} {row : List Nat} {h : Str}, vs.Nodup → row.length = vs.length → h ∈ vs → lk (vs.zip row) h = row[vs.idxOf h]? 
  | v :: vs, [], h, _, hl, _ => by simp at hl
  | v :: vs, r :: row, h, hn, hl, hm => by
    rw [List.nodup_cons] at hn
    unfold lk
    rw [List.zip_cons_cons, List.find?_cons]
    by_cases e : v = h
    · subst e
      simp
    · have ei : (v :: vs).idxOf h = vs.idxOf h + 1 := by
        rw [List.idxOf_cons, beq_eq_false_iff_ne.mpr e]; rfl
      rw [decide_eq_false e, ei, List.getElem?_cons_succ]
      have hm : h ∈ vs := (List.mem_cons.mp hm).resolve_left fun z => e z.symm
      exact lk_row hn.2 (by simpa using hl) hm
end
end Tk

set_option Elab.async false
set_option linter.all false
set_option maxRecDepth 100000
set_option maxHeartbeats 4000000
namespace Tk
open PySem L2 Td Tg Tt
section
variable {b : Nat} {vs : List Str} {ws : List Wd} {κ : Chs} {w : Ws}
noncomputable def rwD (row : List Nat) : PyData := .tuple (natsD row)
noncomputable def wtA1 (g : FF) : FS := sAsg (eB addD (eB mulD (eV 3) (eV 5)) (eCall g [] (aC (eV 0) (aC (eV 4) (aC (eV 2) aN))))) (gN 3)
noncomputable def wtC : FE := eB ixD (eB ixD (eLc (iE (eV 7)) (gN 8) (tB' (eB eqD (eB ixD (eV 8) (eC (.int 0))) (eB ixD (eV 1) (eC (.int 1))))) (eB ixD (eV 8) (eC (.int 2))) [8]) (eC (.int 0))) (eV 3)
theorem worth_eq (g : FF) : b__law_worth g = sSeq (sAsg (eV 0) (gT 3 (gC (gN 5) (gC (gN 6) (gC (gN 7) gZ)))))
    (sSeq (sIf (tB' (eB inD (eB ixD (eV 1) (eC (.int 1))) (eV 6))) (sRet (eB ixD (eV 2) (eIx (eV 6) (eB ixD (eV 1) (eC (.int 1)))))) sNil)
    (sSeq (sAsg (eC (.int 0)) (gN 3)) (sSeq (sFor (iE (eB ixD (eV 1) (eC (.int 2)))) (gN 4) (wtA1 g)) (sRet wtC)))) := rfl
theorem wt_loop (hb : b ≤ 3) {g : FF} {T K : PyData} {x1 x6 x7 x8 : Option PyData} : ∀ (ps : List Tr) (a : Nat) (x4 : Option PyData), (∀ p ∈ ps, g [T, toD p, K] w = .ok (.int (tev b ws κ p : Int)) w) →
    ∃ y4, forL (gN 4) (wtA1 g) (toDs ps) [some T, x1, some K, some (.int (a : Int)), x4, some (.int (b : Int)), x6, x7, x8] w = .nx [some T, x1, some K, some (.int (tevs b ws κ a ps : Int)), y4, some (.int (b : Int)), x6, x7, x8] w
  | [], a, x4, _ => ⟨x4, rfl⟩
  | p :: ps, a, x4, h => by
    obtain ⟨y4, e⟩ := wt_loop hb ps (a * b + tev b ws κ p) (some (toD p)) fun q hq => h q (by simp [hq])
    refine ⟨y4, ?_⟩
    have hp := h p (by simp)
    have st : wtA1 g [some T, x1, some K, some (.int (a : Int)), some (toD p), some (.int (b : Int)), x6, x7, x8] w = .nx [some T, x1, some K, some (.int ((a * b + tev b ws κ p : Nat) : Int)), some (toD p), some (.int (b : Int)), x6, x7, x8] w := by
      simp only [wtA1, sAsg, eB, eV, eC, eCall, aC, aN, List.getElem?_cons_zero, List.getElem?_cons_succ, Oc.bind, Oc.of, mulN a b hb, List.append_nil, hp, addN, Oc.thenS, gN, List.set_cons_zero, List.set_cons_succ]
    rw [toDs, forL]
    simp only [gN, List.set_cons_zero, List.set_cons_succ, st]
    exact e
theorem wtC_ok (hT : Tong b vs ws) {T K : PyData} {x : Wd} {ns : List Str} {ps : List Tr} {i : Nat} {x4 x5 x6 x8 : Option PyData} (hx : x ∈ ws) (hi : i < x.2.2.length) :
    wtC [some T, some (toD (.mk ns x.1 ps)), some K, some (.int (i : Int)), x4, x5, x6, some (.tuple (ws.map wD)), x8] w = .ok (.int ((x.2.2.getD i 0 : Nat) : Int)) w := by
  have p0 : ixD w (toD (.mk ns x.1 ps)) (.int 1) = some (.str x.1) := rfl
  have lc := lcL_flt (gt := gN 8) (tt := tB' (eB eqD (eB ixD (eV 8) (eC (.int 0))) (eB ixD (eV 1) (eC (.int 1))))) (fe := eB ixD (eV 8) (eC (.int 2))) (ρ := [some T, some (toD (.mk ns x.1 ps)), some K, some (.int (i : Int)), x4, x5, x6, some (.tuple (ws.map wD)), none]) (w := w)
    wD (fun y => decide (y.1 = x.1)) (fun y => .tuple (natsD y.2.2)) ws [] (by have := hT.w2; simp; omega) (fun y hy => by
      have y0 : ixD w (wD y) (.int 0) = some (.str y.1) := rfl
      have y2 : ixD w (wD y) (.int 2) = some (.tuple (natsD y.2.2)) := rfl
      refine ⟨[some T, some (toD (.mk ns x.1 ps)), some K, some (.int (i : Int)), x4, x5, x6, some (.tuple (ws.map wD)), some (wD y)], rfl, ?_, fun _ => ?_⟩
      · simp only [tB', eB, eV, eC, List.getElem?_cons_zero, List.getElem?_cons_succ, Oc.bind, Oc.of, y0, p0, eqD_str]
      · simp only [eB, eV, eC, List.getElem?_cons_zero, List.getElem?_cons_succ, Oc.bind, Oc.of, y2])
  have fl : ws.filter (fun y => decide (y.1 = x.1)) = [x] := by
    have : ∀ ws : List Wd, (ws.map (·.1)).Nodup → x ∈ ws → ws.filter (fun y => decide (y.1 = x.1)) = [x] := by
      intro ws
      induction ws with
      | nil => intro _ h; cases h
      | cons y ws ih =>
        intro hn h
        rw [List.map_cons, List.nodup_cons] at hn
        rcases List.mem_cons.mp h with rfl | h
        · rw [List.filter_cons_of_pos (by simp), List.filter_eq_nil_iff.mpr fun z hz e => hn.1 (by rw [← of_decide_eq_true e]; exact List.mem_map.mpr ⟨z, hz, rfl⟩)]
        · have ne : ¬ y.1 = x.1 := fun e => hn.1 (e ▸ List.mem_map.mpr ⟨x, h, rfl⟩)
          rw [List.filter_cons_of_neg (by simpa using ne)]
          exact ih hn.2 h
    exact this ws hT.nd hx
  rw [fl] at lc
  have i0 : ixD w (.list [.tuple (natsD x.2.2)]) (.int 0) = some (.tuple (natsD x.2.2)) := rfl
  simp only [wtC, eB, eLc, iE, eV, eC, List.getElem?_cons_zero, List.getElem?_cons_succ, Oc.bind, Oc.of, itD, wipeE, List.set_cons_zero, List.set_cons_succ, lc, List.nil_append, List.map_cons, List.map_nil, i0, tb_at _ hi]
theorem worth_ok (hT : Tong b vs ws) {row : List Nat} (hl : row.length = vs.length) (hr : ∀ v ∈ row, v < b) : ∀ (l : Nat) (t : Tr), hgt t < l → VH t → Lw vs ws t → F__law_worth l [tgD b vs ws, toD t, rwD row] w = .ok (.int (tev b ws (vs.zip row) t : Int)) w
  | 0, _, h, _, _ => by omega
  | l + 1, .mk ns h ps, hg, hv, hw => by
    have ih := worth_ok hT hl hr l
    have hκ := rowK hl hr
    show leave w.length (b__law_worth (F__law_worth l) [some (tgD b vs ws), some (toD (.mk ns h ps)), some (rwD row), none, none, none, none, none, none] w) = _
    have key : b__law_worth (F__law_worth l) [some (tgD b vs ws), some (toD (.mk ns h ps)), some (rwD row), none, none, none, none, none, none] w = .rt (.int (tev b ws (vs.zip row) (.mk ns h ps) : Int)) w := by
      rw [worth_eq]
      generalize F__law_worth l = g at ih
      have p1 : ixD w (toD (.mk ns h ps)) (.int 1) = some (.str h) := rfl
      have p2 : ixD w (toD (.mk ns h ps)) (.int 2) = some (.tuple (toDs ps)) := rfl
      rw [seq_nx (ρ1 := [some (tgD b vs ws), some (toD (.mk ns h ps)), some (rwD row), none, none, some (.int (b : Int)), some (.tuple (vs.map .str)), some (.tuple (ws.map wD)), none]) (w1 := w) (by rfl)]
      rcases hw.1 with ⟨hi, rfl⟩ | ⟨hi, x, hx, rfl, ha⟩
      · have e1 := lk_row hT.vnd hl hi
        have hlt : vs.idxOf h < row.length := by rw [hl]; exact List.idxOf_lt_length_of_mem hi
        rw [List.getElem?_eq_getElem hlt] at e1
        have ix : ixT [.tuple (vs.map .str), .str h] w = some (.int (vs.idxOf h : Nat)) := by
          simp only [ixT, strsD_strs, List.contains_iff_mem.mpr hi, if_true]
        have at_ : ixD w (rwD row) (.int (vs.idxOf h : Nat)) = some (.int ((row.getD (vs.idxOf h) 0 : Nat) : Int)) := tb_at row hlt
        have eg : row.getD (vs.idxOf h) 0 = row[vs.idxOf h] := by rw [List.getD_eq_getElem?_getD, List.getElem?_eq_getElem hlt, Option.getD_some]
        rw [eg] at at_
        have ev : tev b ws (vs.zip row) (.mk ns h []) = row[vs.idxOf h] := by simp only [tev, e1]
        rw [ev]
        simp only [sSeq, sIf, tB', eB, eV, eC, List.getElem?_cons_zero, List.getElem?_cons_succ, Oc.bind, Oc.of, Oc.thenS, p1, inV hT hv.1, decide_eq_true hi, cond_true, sRet, eIx, isTp, Oc.on, ix, at_]
      · have hlt := tevs_lt hT hκ ps 0 hw.2
        obtain ⟨t1, t2⟩ := hT.tb x hx
        rw [Nat.zero_add, Nat.one_mul, ← ha, ← t1] at hlt
        have hph : ∀ p ∈ ps, hgt p < l := fun p hp => by
          have h1 := hgt_mem hp
          have h2 : hgtA ps < l + 1 := hg
          omega
        obtain ⟨y4, e⟩ := wt_loop (w := w) (κ := vs.zip row) (ws := ws) (T := tgD b vs ws) (K := rwD row) (g := g) (x1 := some (toD (.mk ns x.1 ps))) (x6 := some (.tuple (vs.map .str))) (x7 := some (.tuple (ws.map wD))) (x8 := none) hT.b3 ps 0 none fun p hp => ih p (hph p hp) (hv.2.mem hp) (LwA_iff.mp hw.2 p hp)
        have wc := wtC_ok (w := w) (T := tgD b vs ws) (K := rwD row) (ns := ns) (ps := ps) (x4 := y4) (x5 := some (.int (b : Int))) (x6 := some (.tuple (vs.map .str))) (x8 := none) hT hx hlt
        have ee : tev b ws (vs.zip row) (.mk ns x.1 ps) = x.2.2.getD (tevs b ws (vs.zip row) 0 ps) 0 := by simp only [tev, hκ.none hi, tbl_of hT hx]
        rw [ee]
        rw [seq_nx (ρ1 := [some (tgD b vs ws), some (toD (.mk ns x.1 ps)), some (rwD row), none, none, some (.int (b : Int)), some (.tuple (vs.map .str)), some (.tuple (ws.map wD)), none]) (w1 := w) (by
          simp only [sIf, tB', eB, eV, eC, List.getElem?_cons_zero, List.getElem?_cons_succ, Oc.bind, Oc.of, Oc.thenS, p1, inV hT hv.1, decide_eq_false hi, cond_false, sNil])]
        rw [seq_nx (ρ1 := [some (tgD b vs ws), some (toD (.mk ns x.1 ps)), some (rwD row), some (.int 0), none, some (.int (b : Int)), some (.tuple (vs.map .str)), some (.tuple (ws.map wD)), none]) (w1 := w) (by rfl)]
        have it : (iE (eB ixD (eV 1) (eC (.int 2)))) [some (tgD b vs ws), some (toD (.mk ns x.1 ps)), some (rwD row), some (.int 0), none, some (.int (b : Int)), some (.tuple (vs.map .str)), some (.tuple (ws.map wD)), none] w = .ok (toDs ps) w := by
          simp only [iE, eB, eV, eC, List.getElem?_cons_zero, List.getElem?_cons_succ, Oc.bind, Oc.of, p2, itD]
        rw [seq_nx (ρ1 := [some (tgD b vs ws), some (toD (.mk ns x.1 ps)), some (rwD row), some (.int (tevs b ws (vs.zip row) 0 ps : Int)), y4, some (.int (b : Int)), some (.tuple (vs.map .str)), some (.tuple (ws.map wD)), none]) (w1 := w) (by
          rw [sFor, it]
          simp only [Oc.thenS]
          exact e)]
        simp only [sRet, wc, Oc.thenS]
    rw [key]
    exact leave_rt rfl
/-! ### Meaning -/
theorem ins_fi (w : Ws) (c : Str) (fs : List (Str × PyData)) : insB w (fiD c fs) c = some fs := by
  have : insOf w (fiD c fs) c = none := rfl
  unfold insB
  rw [this]
  exact fiOf_fi c fs
noncomputable def tI (x : Wd) : Key × PyData := (.inr x.1, .tuple (natsD x.2.2))
noncomputable def mFs (b : Nat) (vs : List Str) (ws : List Wd) : List (Str × PyData) := [("size", .int (b : Int)), ("inputs", .tuple (vs.map .str)), ("tables", fkD (ws.map tI))]
noncomputable def mD (b : Nat) (vs : List Str) (ws : List Wd) : PyData := fiD "Meaning" (mFs b vs ws)
theorem lits_m : (("size" : Str) = "inputs") = False ∧ (("size" : Str) = "tables") = False ∧ (("inputs" : Str) = "tables") = False ∧ (("tables" : Str) == ("size" : Str)) = false ∧ (("tables" : Str) == ("inputs" : Str)) = false ∧ (("inputs" : Str) == ("size" : Str)) = false := by decide +kernel
theorem lits_v : (("value" : Str) == ("size" : Str)) = false ∧ (("value" : Str) == ("inputs" : Str)) = false ∧ (("value" : Str) == ("tables" : Str)) = false ∧ (("values" : Str) == ("size" : Str)) = false ∧ (("values" : Str) == ("inputs" : Str)) = false ∧ (("values" : Str) == ("tables" : Str)) = false ∧ (("rows" : Str) == ("size" : Str)) = false ∧ (("rows" : Str) == ("inputs" : Str)) = false ∧ (("rows" : Str) == ("tables" : Str)) = false ∧ (("is_value" : Str) == ("size" : Str)) = false ∧ (("is_value" : Str) == ("inputs" : Str)) = false ∧ (("is_value" : Str) == ("tables" : Str)) = false := by decide +kernel
theorem m_size : (insB w (mD b vs ws) "Meaning").bind (fun fs => List.lookup ("size" : Str) fs) = some (.int (b : Int)) := by
  unfold mD; rw [ins_fi]; simp [mFs, List.lookup]
theorem m_inp : (insB w (mD b vs ws) "Meaning").bind (fun fs => List.lookup ("inputs" : Str) fs) = some (.tuple (vs.map .str)) := by
  obtain ⟨_, _, _, _, _, a⟩ := lits_m
  unfold mD; rw [ins_fi]; simp [mFs, List.lookup, a]
theorem m_tabs : (insB w (mD b vs ws) "Meaning").bind (fun fs => List.lookup ("tables" : Str) fs) = some (fkD (ws.map tI)) := by
  obtain ⟨_, _, _, a, c, _⟩ := lits_m
  unfold mD; rw [ins_fi]; simp [mFs, List.lookup, a, c]
theorem m_ok : okMB w (mD b vs ws) "Meaning" "value" = true ∧ okMB w (mD b vs ws) "Meaning" "values" = true ∧ okMB w (mD b vs ws) "Meaning" "rows" = true ∧ okMB w (mD b vs ws) "Meaning" "is_value" = true := by
  obtain ⟨a1, a2, a3, a4, a5, a6, a7, a8, a9, a10, a11, a12⟩ := lits_v
  unfold okMB mD; rw [ins_fi]; simp [mFs, List.lookup, a1, a2, a3, a4, a5, a6, a7, a8, a9, a10, a11, a12]
theorem valP_tI (hT : Tong b vs ws) {x : Wd} (hx : x ∈ ws) : valP (ws.map tI) (.inr x.1) = some (.tuple (natsD x.2.2)) := by
  have : ∀ ws : List Wd, (ws.map (·.1)).Nodup → x ∈ ws → valP (ws.map tI) (.inr x.1) = some (.tuple (natsD x.2.2)) := by
    intro ws
    induction ws with
    | nil => intro _ h; cases h
    | cons y ws ih =>
      intro hn h
      rw [List.map_cons, List.nodup_cons] at hn
      rcases List.mem_cons.mp h with rfl | h
      · simp [valP, tI]
      · have ne : ¬ y.1 = x.1 := fun e => hn.1 (e ▸ List.mem_map.mpr ⟨x, h, rfl⟩)
        have ne' : ¬ ((Sum.inr y.1 : Key) = Sum.inr x.1) := fun e => ne (Sum.inr.inj e)
        have := ih hn.2 h
        unfold valP at this ⊢
        rw [List.map_cons, List.find?_cons]
        simp only [tI, ne', decide_false] at this ⊢
        exact this
  exact this ws hT.nd hx
noncomputable def mvA1 (g : FF) : FS := sAsg (eB addD (eB mulD (eV 3) (eFdB "Meaning" "size" (eV 0))) (eMtB "Meaning" "value" g (eV 0) (aC (eV 4) (aC (eV 2) aN)))) (gN 3)
theorem value_eq (g : FF) : b_Meaning_value g = sSeq (sAsg (eV 1) (gT 3 (gC (gN 5) (gC (gN 6) (gC (gN 7) gZ)))))
    (sSeq (sIf (tB' (eB inFk (eV 6) (eV 2))) (sRet (eFk (eV 2) (eV 6))) sNil) (sSeq (sAsg (eC (.int 0)) (gN 3))
    (sSeq (sFor (iE (eV 7)) (gN 4) (mvA1 g)) (sRet (eB ixD (eFk (eFdB "Meaning" "tables" (eV 0)) (eV 6)) (eV 3)))))) := rfl
theorem mv_loop (hb : b ≤ 3) {g : FF} {K : PyData} {x1 x5 x6 x7 : Option PyData} : ∀ (ps : List Tr) (a : Nat) (x4 : Option PyData), (∀ p ∈ ps, g [mD b vs ws, toD p, K] w = .ok (.int (tev b ws κ p : Int)) w) →
    ∃ y4, forL (gN 4) (mvA1 g) (toDs ps) [some (mD b vs ws), x1, some K, some (.int (a : Int)), x4, x5, x6, x7] w = .nx [some (mD b vs ws), x1, some K, some (.int (tevs b ws κ a ps : Int)), y4, x5, x6, x7] w
  | [], a, x4, _ => ⟨x4, rfl⟩
  | p :: ps, a, x4, h => by
    obtain ⟨y4, e⟩ := mv_loop hb ps (a * b + tev b ws κ p) (some (toD p)) fun q hq => h q (by simp [hq])
    refine ⟨y4, ?_⟩
    have hp := h p (by simp)
    have st : mvA1 g [some (mD b vs ws), x1, some K, some (.int (a : Int)), some (toD p), x5, x6, x7] w = .nx [some (mD b vs ws), x1, some K, some (.int ((a * b + tev b ws κ p : Nat) : Int)), some (toD p), x5, x6, x7] w := by
      simp only [mvA1, sAsg, eB, eV, eC, eFdB, eMtB, aC, aN, List.getElem?_cons_zero, List.getElem?_cons_succ, Oc.bind, Oc.of, Oc.on, cond_true, m_size, m_ok.1, mulN a b hb, List.append_nil, hp, addN, Oc.thenS, gN, List.set_cons_zero, List.set_cons_succ]
    rw [toDs, forL]
    simp only [gN, List.set_cons_zero, List.set_cons_succ, st]
    exact e
theorem value_ok (hT : Tong b vs ws) (hκ : Kn b vs κ) : ∀ (l : Nat) (t : Tr), hgt t < l → Lw vs ws t → F_Meaning_value l [mD b vs ws, toD t, fkD (κ.map kI)] w = .ok (.int (tev b ws κ t : Int)) w
  | 0, _, h, _ => by omega
  | l + 1, .mk ns h ps, hg, hw => by
    have ih := value_ok hT hκ l
    show leave w.length (b_Meaning_value (F_Meaning_value l) [some (mD b vs ws), some (toD (.mk ns h ps)), some (fkD (κ.map kI)), none, none, none, none, none] w) = _
    have key : b_Meaning_value (F_Meaning_value l) [some (mD b vs ws), some (toD (.mk ns h ps)), some (fkD (κ.map kI)), none, none, none, none, none] w = .rt (.int (tev b ws κ (.mk ns h ps) : Int)) w := by
      rw [value_eq]
      generalize F_Meaning_value l = g at ih
      have kk := fkK κ
      have vs' := valP_some κ
      generalize fkD (κ.map kI) = K at *
      rw [seq_nx (ρ1 := [some (mD b vs ws), some (toD (.mk ns h ps)), some K, none, none, some (.tuple (ns.map .str)), some (.str h), some (.tuple (toDs ps))]) (w1 := w) (by rfl)]
      rcases hw.1 with ⟨hi, rfl⟩ | ⟨hi, x, hx, rfl, ha⟩
      · obtain ⟨v, hv, _⟩ := hκ.some hi
        have vp := valP_lk h κ
        rw [hv, Option.map_some] at vp
        simp only [sSeq, sIf, tB', eB, eV, List.getElem?_cons_zero, List.getElem?_cons_succ, Oc.bind, Oc.of, Oc.thenS, inFk, kk, keyD, Option.bind_some, Option.map_some, vs', hv, Option.isSome_some, cond_true, sRet, eFk, vp, tev]
      · have hlt := tevs_lt hT hκ ps 0 hw.2
        have hn := hκ.none hi
        obtain ⟨t1, t2⟩ := hT.tb x hx
        rw [Nat.zero_add, Nat.one_mul, ← ha, ← t1] at hlt
        have hph : ∀ p ∈ ps, hgt p < l := fun p hp => by
          have h1 := hgt_mem hp
          have h2 : hgtA ps < l + 1 := hg
          omega
        generalize hX : toD (.mk ns x.1 ps) = X1
        obtain ⟨y4, e⟩ := mv_loop (w := w) (κ := κ) (vs := vs) (ws := ws) (K := K) (g := g) (x1 := some X1) (x5 := some (.tuple (ns.map .str))) (x6 := some (.str x.1)) (x7 := some (.tuple (toDs ps))) hT.b3 ps 0 none fun p hp => ih p (hph p hp) (LwA_iff.mp hw.2 p hp)
        have ee : tev b ws κ (.mk ns x.1 ps) = x.2.2.getD (tevs b ws κ 0 ps) 0 := by simp only [tev, hn, tbl_of hT hx]
        rw [ee]
        rw [seq_nx (ρ1 := [some (mD b vs ws), some X1, some K, none, none, some (.tuple (ns.map .str)), some (.str x.1), some (.tuple (toDs ps))]) (w1 := w) (by
          simp only [sIf, tB', eB, eV, List.getElem?_cons_zero, List.getElem?_cons_succ, Oc.bind, Oc.of, Oc.thenS, inFk, kk, keyD, Option.bind_some, Option.map_some, vs', hn, Option.isSome_none, cond_false, sNil])]
        rw [seq_nx (ρ1 := [some (mD b vs ws), some X1, some K, some (.int 0), none, some (.tuple (ns.map .str)), some (.str x.1), some (.tuple (toDs ps))]) (w1 := w) (by rfl)]
        have it : (iE (eV 7)) [some (mD b vs ws), some X1, some K, some (.int 0), none, some (.tuple (ns.map .str)), some (.str x.1), some (.tuple (toDs ps))] w = .ok (toDs ps) w := rfl
        rw [seq_nx (ρ1 := [some (mD b vs ws), some X1, some K, some (.int (tevs b ws κ 0 ps : Int)), y4, some (.tuple (ns.map .str)), some (.str x.1), some (.tuple (toDs ps))]) (w1 := w) (by
          rw [sFor, it]
          simp only [Oc.thenS]
          exact e)]
        have fk2 := fkOf_fk (ws.map tI)
        have mt := m_tabs (b := b) (vs := vs) (ws := ws) (w := w)
        have vt := valP_tI hT hx
        generalize fkD (ws.map tI) = KT at *
        simp only [sRet, eB, eV, eFk, eFdB, List.getElem?_cons_zero, List.getElem?_cons_succ, Oc.bind, Oc.of, mt, fk2, keyD, Option.bind_some, vt, tb_at _ hlt, Oc.thenS]
    rw [key]
    exact leave_rt rfl
end
end Tk

set_option Elab.async false
set_option linter.all false
set_option maxRecDepth 100000
set_option maxHeartbeats 4000000
namespace Tk
open PySem L2 Td Tg Tt
/-! ### a Meaning is made; its rows and values -/
theorem at_m {w v : Ws} {a : Ob} : (w ++ a :: v)[w.length]? = some a := by simp
theorem st_m {w v : Ws} {a b : Ob} : (w ++ a :: v).set w.length b = w ++ b :: v := by simp
theorem upI_at {w v : Ws} {c : Str} {fs : List (Str × PyData)} {k : List (Str × PyData) → Option (List (Str × PyData))} : updI (w ++ .ins c fs :: v) (rf w.length) c k = (k fs).map fun fs' => w ++ .ins c fs' :: v := by
  have e : locOf (rf w.length) = some w.length := rfl
  unfold updI insOf
  simp only [e, at_m, if_true]
  cases k fs <;> simp [st_m]
theorem putD_new {kvs : List (Key × PyData)} {k : Key} {v : PyData} (h : ∀ p ∈ kvs, p.1 ≠ k) : putD kvs k v = kvs ++ [(k, v)] := by
  unfold putD
  rw [if_neg]
  intro e
  obtain ⟨p, hp, e⟩ := List.any_eq_true.mp e
  exact h p hp (of_decide_eq_true e)
theorem merge_new : ∀ (more acc : List (Key × PyData)), ((acc ++ more).map (·.1)).Nodup → mergeD acc more = acc ++ more
  | [], acc, _ => by simp [mergeD]
  | p :: more, acc, h => by
    have h1 : ∀ q ∈ acc, q.1 ≠ p.1 := fun q hq e => by
      rw [List.map_append, List.map_cons, List.nodup_append] at h
      exact h.2.2 q.1 (List.mem_map.mpr ⟨q, hq, rfl⟩) p.1 (by simp) e
    have ih := merge_new more (acc ++ [p]) (by rwa [List.append_assoc])
    unfold mergeD at ih ⊢
    rw [List.foldl_cons, putD_new h1, ih, List.append_assoc]; rfl
section
variable {b : Nat} {vs : List Str} {ws : List Wd} {κ : Chs} {w : Ws}
theorem dc_loop {ρ : Ev} {W : Ws} (hρ : ρ.length = 6) : ∀ (L D : List Wd), ((D ++ L).map (·.1)).Nodup → (D ++ L).length ≤ 1000 →
    dcL (gT 3 (gC (gN 3) (gC (gN 4) (gC (gN 5) gZ)))) tYs (eV 3) (eV 5) ρ (L.map wD) W (D.map tI) = .ok ((D ++ L).map tI) W
  | [], D, _, _ => by simp [dcL]
  | x :: L, D, h, hl => by
    have ih := dc_loop (W := W) hρ L (D ++ [x]) (by rwa [List.append_assoc]) (by rwa [List.append_assoc])
    rw [List.append_assoc, List.singleton_append, List.map_append] at ih
    obtain ⟨a0, a1, a2, a3, a4, a5, rfl⟩ : ∃ a0 a1 a2 a3 a4 a5, ρ = [a0, a1, a2, a3, a4, a5] := by
      rcases ρ with _ | ⟨a0, _ | ⟨a1, _ | ⟨a2, _ | ⟨a3, _ | ⟨a4, _ | ⟨a5, _ | ⟨_, _⟩⟩⟩⟩⟩⟩⟩ <;> simp at hρ
      exact ⟨_, _, _, _, _, _, rfl⟩
    have pn : putD (D.map tI) (.inr x.1) (.tuple (natsD x.2.2)) = D.map tI ++ [tI x] := putD_new fun p hp e => by
      obtain ⟨y, hy, rfl⟩ := List.mem_map.mp hp
      rw [List.map_append, List.map_cons, List.nodup_append] at h
      exact h.2.2 y.1 (List.mem_map.mpr ⟨y, hy, rfl⟩) x.1 (by simp) (Sum.inr.inj e)
    have ln : (D.map tI).length < sizeLine := by rw [sizeLine_eq, List.length_map]; rw [List.length_append] at hl; omega
    rw [List.map_cons, dcL]
    have g : (gT 3 (gC (gN 3) (gC (gN 4) (gC (gN 5) gZ)))) (wD x) [a0, a1, a2, a3, a4, a5] W = .ok [a0, a1, a2, some (.str x.1), some (.int (x.2.1 : Int)), some (.tuple (natsD x.2.2))] W := rfl
    simp only [g, tYs, eV, List.getElem?_cons_zero, List.getElem?_cons_succ, keyD, ln, if_true, pn]
    exact ih
theorem bnd_nats (n : Nat) (L : List Nat) : bnd n (.tuple (natsD L)) = true := by rw [bnd]; exact bndA_nats n L
theorem bnd_vs (n : Nat) (L : List Str) : bnd n (.tuple (L.map .str)) = true := by rw [bnd]; exact bndA_strs n L
theorem bnd_tabs (n : Nat) : ∀ L : List Wd, bnd n (fkD (L.map tI)) = true := fun L => by
  have : ∀ L : List Wd, bndA n ((L.map tI).map (·.2)) = true := by
    intro L
    induction L with
    | nil => rfl
    | cons x L ih =>
      have e := bnd_nats n x.2.2
      rw [List.map_cons, List.map_cons, bndA, ih, Bool.and_true]
      exact e
  exact this L
theorem bnd_mFs (n : Nat) : bndO n (.ins "Meaning" (mFs b vs ws)) = true := by
  have e1 := bnd_vs n vs
  have e3 := bnd_tabs n ws
  show (bnd n (.int (b : Int)) && (bnd n (.tuple (vs.map .str)) && (bnd n (fkD (ws.map tI)) && true))) = true
  rw [e1, e3]; rfl
theorem bnd_mD (n : Nat) : bnd n (mD b vs ws) = true := bnd_mFs n
theorem init_ok (hT : Tong b vs ws) (hc : Cl w) : F_Meaning___init__ [rf w.length, tgD b vs ws] (w ++ [.ins "Meaning" []]) = .ok .none (w ++ [.ins "Meaning" (mFs b vs ws)]) := by
  obtain ⟨c1, c2, c3, _⟩ := lits_m
  show leave (w ++ [Ob.ins "Meaning" []]).length (b_Meaning___init__ [some (rf w.length), some (tgD b vs ws), none, none, none, none] (w ++ [.ins "Meaning" []])) = _
  have f1 : gFd "Meaning" "size" (eV 0) (.int (b : Int)) [some (rf w.length), some (tgD b vs ws), none, none, none, none] (w ++ [.ins "Meaning" []]) = .ok [some (rf w.length), some (tgD b vs ws), none, none, none, none] (w ++ [.ins "Meaning" [("size", .int (b : Int))]]) := by
    simp only [gFd, eV, List.getElem?_cons_zero, Oc.bind, upI_at, List.length_nil, Nat.zero_lt_succ, if_true, putFD, Option.map_some]
  have f2 : gFd "Meaning" "inputs" (eV 0) (.tuple (vs.map .str)) [some (rf w.length), some (tgD b vs ws), none, none, none, none] (w ++ [.ins "Meaning" [("size", .int (b : Int))]]) = .ok [some (rf w.length), some (tgD b vs ws), none, none, none, none] (w ++ [.ins "Meaning" [("size", .int (b : Int)), ("inputs", .tuple (vs.map .str))]]) := by
    simp only [gFd, eV, List.getElem?_cons_zero, Oc.bind, upI_at, List.length_cons, List.length_nil, putFD, c1, if_false, Option.map_some]
    rfl
  have key : b_Meaning___init__ [some (rf w.length), some (tgD b vs ws), none, none, none, none] (w ++ [.ins "Meaning" []]) = .nx [some (rf w.length), some (tgD b vs ws), some (.tuple (ws.map wD)), none, none, none] (w ++ [.ins "Meaning" (mFs b vs ws)] ++ [.dead]) := by
    unfold b_Meaning___init__
    rw [seq_nx (ρ1 := [some (rf w.length), some (tgD b vs ws), some (.tuple (ws.map wD)), none, none, none]) (w1 := w ++ [.ins "Meaning" [("size", .int (b : Int)), ("inputs", .tuple (vs.map .str))]]) (by
      have g : gT 3 (gC (gFd "Meaning" "size" (eV 0)) (gC (gFd "Meaning" "inputs" (eV 0)) (gC (gN 2) gZ))) (tgD b vs ws) [some (rf w.length), some (tgD b vs ws), none, none, none, none] (w ++ [.ins "Meaning" []]) = .ok [some (rf w.length), some (tgD b vs ws), some (.tuple (ws.map wD)), none, none, none] (w ++ [.ins "Meaning" [("size", .int (b : Int)), ("inputs", .tuple (vs.map .str))]]) := by
        show (gC (gFd "Meaning" "size" (eV 0)) (gC (gFd "Meaning" "inputs" (eV 0)) (gC (gN 2) gZ))) [PyData.int (b : Int), .tuple (vs.map .str), .tuple (ws.map wD)] [some (rf w.length), some (tgD b vs ws), none, none, none, none] (w ++ [.ins "Meaning" []]) = _
        simp only [gC, f1, Oc.bind, f2, gN, gZ, List.set_cons_zero, List.set_cons_succ]
      simp only [sAsg, eV, List.getElem?_cons_zero, List.getElem?_cons_succ, Oc.thenS, g])]
    have dc := dc_loop (W := w ++ [.ins "Meaning" [("size", .int (b : Int)), ("inputs", .tuple (vs.map .str))]]) (ρ := [some (rf w.length), some (tgD b vs ws), some (.tuple (ws.map wD)), none, none, none]) rfl ws [] (by simpa using hT.nd) (by have := hT.w2; simp; omega)
    rw [List.nil_append, List.map_nil] at dc
    have ed : (eDc (iE (eV 2)) (gT 3 (gC (gN 3) (gC (gN 4) (gC (gN 5) gZ)))) tYs (eV 3) (eV 5) [3, 4, 5]) [some (rf w.length), some (tgD b vs ws), some (.tuple (ws.map wD)), none, none, none] (w ++ [.ins "Meaning" [("size", .int (b : Int)), ("inputs", .tuple (vs.map .str))]])
        = .ok (rf (w.length + 1)) (w ++ [.ins "Meaning" [("size", .int (b : Int)), ("inputs", .tuple (vs.map .str))], .dK (ws.map tI)]) := by
      have it : iE (eV 2) [some (rf w.length), some (tgD b vs ws), some (.tuple (ws.map wD)), none, none, none] (w ++ [.ins "Meaning" [("size", .int (b : Int)), ("inputs", .tuple (vs.map .str))]]) = .ok (ws.map wD) (w ++ [.ins "Meaning" [("size", .int (b : Int)), ("inputs", .tuple (vs.map .str))]]) := rfl
      rw [eDc, it]
      simp only [Oc.bind, wipeE, List.set_cons_zero, List.set_cons_succ, dc, List.length_append, List.length_singleton, List.append_assoc, List.singleton_append]
    have dk : dkOf (w ++ [Ob.ins "Meaning" [("size", .int (b : Int)), ("inputs", .tuple (vs.map .str))], Ob.dK (ws.map tI)]) (rf (w.length + 1)) = some (ws.map tI) := by
      simp [dkOf, rf]
    have lo : locOf (rf (w.length + 1)) = some (w.length + 1) := rfl
    have st : (w ++ [Ob.ins "Meaning" [("size", .int (b : Int)), ("inputs", .tuple (vs.map .str))], Ob.dK (ws.map tI)]).set (w.length + 1) .dead = w ++ [Ob.ins "Meaning" [("size", .int (b : Int)), ("inputs", .tuple (vs.map .str))], .dead] := by
      rw [List.set_append_right _ _ (by omega)]; simp
    rw [sFd, eFzK, ed]
    simp only [Oc.bind, dk, lo, st, Oc.thenS, eV, List.getElem?_cons_zero, upI_at, List.length_cons, List.length_nil, putFD, c2, c3, if_false, Option.map_some]
    rw [if_pos (show 0 + 1 + 1 < 1000 by omega)]
    simp only [Option.map_some, List.append_assoc, List.singleton_append]
    rfl
  have ll : (w ++ [Ob.ins "Meaning" []]).length = (w ++ [Ob.ins "Meaning" (mFs b vs ws)]).length := by simp
  rw [key, ll, leave_trimN (hc.snoc (bnd_mFs _))]
theorem make_ok (hT : Tong b vs ws) (hc : Cl w) {ρ : Ev} (h0 : ρ[0]? = some (some (tgD b vs ws))) : eFzI "Meaning" (eMk "Meaning" F_Meaning___init__ (aC (eV 0) aN)) ρ w = .ok (mD b vs ws) (w ++ [.dead]) := by
  have i := init_ok hT hc
  have e1 : eMk "Meaning" F_Meaning___init__ (aC (eV 0) aN) ρ w = .ok (rf w.length) (w ++ [.ins "Meaning" (mFs b vs ws)]) := by
    simp only [eMk, aC, aN, eV, h0, Oc.bind, i]
  have lo : locOf (rf w.length) = some w.length := rfl
  simp only [eFzI, e1, Oc.bind, fzI, lo, at_m, if_true, st_m]
  rfl
/-! all rows -/
noncomputable def nxR (b : Nat) (F : List (List Nat)) : List (List Nat) := F.flatMap fun r => (List.range b).map fun v => r ++ [v]
noncomputable def rwsF (b : Nat) (F : List (List Nat)) : Nat → List (List Nat)
  | 0 => F
  | n + 1 => rwsF b (nxR b F) n
noncomputable def rws (b n : Nat) : List (List Nat) := rwsF b [[]] n
theorem nxR_len (b : Nat) (F : List (List Nat)) : (nxR b F).length = F.length * b := by
  unfold nxR
  induction F with
  | nil => simp
  | cons c F ih => rw [List.flatMap_cons, List.length_append, ih, List.length_map, List.length_range, List.length_cons, Nat.add_mul, Nat.one_mul, Nat.add_comm]
theorem rwsF_len (b : Nat) : ∀ (n : Nat) (F : List (List Nat)), (rwsF b F n).length = F.length * b ^ n
  | 0, F => by simp [rwsF]
  | n + 1, F => by rw [rwsF, rwsF_len b n, nxR_len, Nat.pow_succ, Nat.mul_assoc, Nat.mul_comm b]
theorem nxR_mem {b : Nat} {F : List (List Nat)} {r : List Nat} : r ∈ nxR b F ↔ ∃ q ∈ F, ∃ v, v < b ∧ r = q ++ [v] := by
  unfold nxR
  simp only [List.mem_flatMap, List.mem_map, List.mem_range]
  constructor
  · rintro ⟨q, hq, v, hv, rfl⟩; exact ⟨q, hq, v, hv, rfl⟩
  · rintro ⟨q, hq, v, hv, rfl⟩; exact ⟨q, hq, v, hv, rfl⟩
theorem rwsF_mem {b : Nat} : ∀ (n : Nat) (F : List (List Nat)) (m : Nat), (∀ r ∈ F, r.length = m ∧ ∀ v ∈ r, v < b) → ∀ r ∈ rwsF b F n, r.length = m + n ∧ ∀ v ∈ r, v < b
  | 0, F, m, h, r, hr => h r hr
  | n + 1, F, m, h, r, hr => by
    have := rwsF_mem n (nxR b F) (m + 1) (fun r hr => by
      obtain ⟨q, hq, v, hv, rfl⟩ := nxR_mem.mp hr
      obtain ⟨h1, h2⟩ := h q hq
      refine ⟨by rw [List.length_append, h1]; rfl, fun y hy => ?_⟩
      rcases List.mem_append.mp hy with hy | hy
      · exact h2 y hy
      · rw [List.mem_singleton] at hy; subst hy; exact hv) r hr
    exact ⟨by have := this.1; omega, this.2⟩
theorem rws_mem {b n : Nat} {r : List Nat} (hr : r ∈ rws b n) : r.length = n ∧ ∀ v ∈ r, v < b := by
  have := rwsF_mem n [[]] 0 (fun r hr => by rw [List.mem_singleton] at hr; subst hr; exact ⟨rfl, fun p hp => nomatch hp⟩) r hr
  rwa [Nat.zero_add] at this
theorem rg_s (s : Nat) : rgD 0 (s : Int) = natsD (List.range s) := by
  simp only [rgD, natsD, Int.sub_zero, Int.toNat_natCast, Int.zero_add]
theorem c62_b (hb : b ≤ 100) : c62 (b : Int) = true := by unfold c62; exact decide_eq_true (by omega)
theorem lc2_pure {α β : Type} {gt gt1 : FG} {fi1 : FA} {fe : FE} {vs1 : List Nat} {ρ : Ev} {w : Ws} (g : α → PyData) (h : α → List β) (gd : β → PyData) (f : α → β → PyData) : ∀ (L : List α) (acc : List PyData), acc.length + (L.flatMap h).length ≤ 100000 →
    (∀ x ∈ L, ∃ ρ1, gt (g x) ρ w = .ok ρ1 w ∧ fi1 ρ1 w = .ok ((h x).map gd) w ∧ ∀ y ∈ h x, ∃ ρ2, gt1 (gd y) (wipeE ρ1 vs1) w = .ok ρ2 w ∧ fe ρ2 w = .ok (f x y) w) →
    lc2L gt fi1 gt1 fe vs1 ρ (L.map g) w acc = .ok (acc ++ L.flatMap fun x => (h x).map (f x)) w
  | [], acc, _, _ => by simp [lc2L]
  | x :: L, acc, hl, hx => by
    obtain ⟨ρ1, h1, h2, h3⟩ := hx x List.mem_cons_self
    rw [List.flatMap_cons, List.length_append] at hl
    have lc := lcL_flt (gt := gt1) (tt := tYs) (fe := fe) (ρ := wipeE ρ1 vs1) (w := w) gd (fun _ => true) (f x) (h x) acc (by omega) fun y hy => by
      obtain ⟨ρ2, e1, e2⟩ := h3 y hy
      exact ⟨ρ2, e1, rfl, fun _ => e2⟩
    rw [List.filter_eq_self.mpr fun _ _ => rfl] at lc
    have ih := lc2_pure (gt := gt) (gt1 := gt1) (fi1 := fi1) (fe := fe) (vs1 := vs1) (ρ := ρ) (w := w) g h gd f L (acc ++ (h x).map (f x)) (by rw [List.length_append, List.length_map]; omega) fun y hy => hx y (List.mem_cons_of_mem _ hy)
    rw [List.map_cons, lc2L, h1]
    simp only [h2, lc, ih, List.flatMap_cons, List.append_assoc]
theorem fm_len (b : Nat) : ∀ F : List (List Nat), (F.flatMap fun _ : List Nat => List.range b).length = F.length * b
  | [] => by simp
  | c :: F => by rw [List.flatMap_cons, List.length_append, List.length_range, fm_len b F, List.length_cons, Nat.add_mul, Nat.one_mul, Nat.add_comm]
theorem nx_map (b : Nat) (F : List (List Nat)) : (F.flatMap fun r => (List.range b).map fun v => rwD (r ++ [v])) = (nxR b F).map rwD := by
  unfold nxR
  rw [List.map_flatMap]
  congr 1
  funext r
  rw [List.map_map]; rfl
theorem rw_app (r : List Nat) (v : Nat) : PyData.tuple (natsD r ++ [.int (v : Int)]) = rwD (r ++ [v]) := by simp [rwD, natsD]
end
end Tk

set_option Elab.async false
set_option linter.all false
set_option maxRecDepth 100000
set_option maxHeartbeats 4000000
namespace Tk
open PySem L2 Td Tg Tt
/-! ### rows and values -/
section
variable {b : Nat} {vs : List Str} {ws : List Wd} {κ : Chs} {w : Ws}
theorem pw27 (hT : Tong b vs ws) {n : Nat} (h : n ≤ 3) : b ^ n ≤ 27 := Nat.le_trans (Nat.pow_le_pow_left hT.b3 n) (Nat.le_trans (Nat.pow_le_pow_right (by omega) h) (by decide))
noncomputable def roE : FE := eLc2 (iE (eV 1)) (gN 3) (iR1 (aC (eFdB "Meaning" "size" (eV 0)) aN)) (gN 4) (eTup (aSt (eV 3) (aC (eV 4) aN))) [3, 4] [4]
theorem ro_step (hT : Tong b vs ws) {x2 x3 x4 : Option PyData} {F : List (List Nat)} (hF : ∀ r ∈ F, r.length ≤ 3) (hl : F.length * b ≤ 27) :
    roE [some (mD b vs ws), some (.list (F.map rwD)), x2, x3, x4] w = .ok (.list ((nxR b F).map rwD)) w := by
  have hb := hT.b3
  have lc := lc2_pure (gt := gN 3) (fi1 := iR1 (aC (eFdB "Meaning" "size" (eV 0)) aN)) (gt1 := gN 4) (fe := eTup (aSt (eV 3) (aC (eV 4) aN))) (vs1 := [4]) (ρ := [some (mD b vs ws), some (.list (F.map rwD)), x2, none, none]) (w := w)
    rwD (fun _ => List.range b) (fun (v : Nat) => .int (v : Int)) (fun r v => rwD (r ++ [v])) F [] (by rw [List.length_nil, fm_len]; omega) (fun r hr => by
      have cl := hF r hr
      refine ⟨[some (mD b vs ws), some (.list (F.map rwD)), x2, some (rwD r), none], rfl, ?_, fun v hv => ⟨[some (mD b vs ws), some (.list (F.map rwD)), x2, some (rwD r), some (.int (v : Int))], rfl, ?_⟩⟩
      · simp only [iR1, aC, aN, eFdB, eV, List.getElem?_cons_zero, Oc.bind, Oc.of, m_size, c62_b (show b ≤ 100 by omega), Oc.on, cond_true, rg_s, natsD]
      · have sq : seqOf w (rwD r) = some (natsD r) := rfl
        have z : szOk (natsD r ++ [PyData.int (v : Int)]).length = true := szOk_of (by rw [List.length_append, natsD, List.length_map, List.length_singleton]; omega)
        simp only [eTup, aSt, aC, aN, eV, List.getElem?_cons_zero, List.getElem?_cons_succ, Oc.bind, sq, z, Oc.on, cond_true, rw_app])
  rw [List.nil_append, nx_map] at lc
  have it : iE (eV 1) [some (mD b vs ws), some (.list (F.map rwD)), x2, x3, x4] w = .ok (F.map rwD) w := rfl
  rw [roE, eLc2, it]
  simp only [Oc.bind, wipeE, List.set_cons_zero, List.set_cons_succ, lc]
theorem ro_loop (hT : Tong b vs ws) : ∀ (L : List Str) (F : List (List Nat)) (n : Nat) (x2 : Option PyData), n + L.length ≤ 3 → (∀ r ∈ F, r.length ≤ n) → F.length ≤ b ^ n →
    ∃ y2, forL (gN 2) (sAsg roE (gN 1)) (L.map .str) [some (mD b vs ws), some (.list (F.map rwD)), x2, none, none] w = .nx [some (mD b vs ws), some (.list ((rwsF b F L.length).map rwD)), y2, none, none] w
  | [], F, n, x2, _, _, _ => ⟨x2, rfl⟩
  | u :: L, F, n, x2, hn, hF, hl => by
    rw [List.length_cons] at hn
    have hl2 : F.length * b ≤ b ^ (n + 1) := by rw [Nat.pow_succ]; exact Nat.mul_le_mul_right _ hl
    have st := ro_step (w := w) hT (x2 := some (.str u)) (x3 := none) (x4 := none) (F := F) (fun r hr => by have := hF r hr; omega) (Nat.le_trans hl2 (pw27 hT (by omega)))
    obtain ⟨y2, e⟩ := ro_loop hT L (nxR b F) (n + 1) (some (.str u)) (by omega) (fun r hr => by
      obtain ⟨q, hq, v, _, rfl⟩ := nxR_mem.mp hr
      have := hF q hq
      rw [List.length_append, List.length_singleton]; omega) (by rw [nxR_len]; exact hl2)
    refine ⟨y2, ?_⟩
    rw [List.map_cons, forL]
    simp only [gN, sAsg, List.set_cons_zero, List.set_cons_succ, st, Oc.thenS]
    exact e
theorem yd_loop {x0 x1 x2 x4 : Option PyData} : ∀ (F : List (List Nat)) (ys : List PyData) (x3 : Option PyData), ∃ y3, gForL (gN 3) (gSq (gYd (eV 3)) Tg.gNil) (F.map rwD) [x0, x1, x2, x3, x4] [] ys = .nx [x0, x1, x2, y3, x4] [] (ys ++ F.map rwD)
  | [], ys, x3 => ⟨x3, by simp [gForL]⟩
  | r :: F, ys, x3 => by
    obtain ⟨y3, e⟩ := yd_loop F (ys ++ [rwD r]) (some (rwD r))
    refine ⟨y3, ?_⟩
    have bb : bnd 0 (rwD r) = true := bnd_nats 0 r
    rw [List.map_cons, gForL]
    simp only [gN, List.set_cons_zero, List.set_cons_succ, gSq, gYd, eV, List.getElem?_cons_zero, List.getElem?_cons_succ, bb, List.all_nil, Bool.and_self, cond_true, Tg.gNil]
    rw [e, List.append_assoc]; rfl
theorem rows_ok (hT : Tong b vs ws) : F_Meaning_rows [mD b vs ws] = some ((rws b vs.length).map rwD) := by
  obtain ⟨y2, e⟩ := ro_loop (w := []) hT vs [[]] 0 none (by have := hT.v2; omega) (fun r hr => by rw [List.mem_singleton] at hr; subst hr; exact Nat.le_refl _) (by simp)
  have b1 : bndA 0 [mD b vs ws] = true := by
    show (bnd 0 (mD b vs ws) && true) = true
    rw [bnd_mD]; rfl
  have z0 : szOk 0 = true := szOk_of (by omega)
  have z1 : szOk 1 = true := szOk_of (by omega)
  obtain ⟨y3, e3⟩ := yd_loop (x0 := some (mD b vs ws)) (x1 := some (.list ((rws b vs.length).map rwD))) (x2 := y2) (x4 := none) (rws b vs.length) [] none
  have bb : b_Meaning_rows [some (mD b vs ws), none, none, none, none] [] [] = .nx [some (mD b vs ws), some (.list ((rws b vs.length).map rwD)), y2, y3, none] [] ((rws b vs.length).map rwD) := by
    have s1 : sAsg (eLst (aC (eTup aN) aN)) (gN 1) [some (mD b vs ws), none, none, none, none] [] = .nx [some (mD b vs ws), some (.list (([[]] : List (List Nat)).map rwD)), none, none, none] [] := by
      simp only [sAsg, eLst, eTup, aC, aN, Oc.bind, List.length_cons, List.length_nil, Nat.zero_add, z0, z1, Oc.on, cond_true, Oc.thenS, gN, List.set_cons_zero, List.set_cons_succ]
      rfl
    have it : iE (eFdB "Meaning" "inputs" (eV 0)) [some (mD b vs ws), some (.list (([[]] : List (List Nat)).map rwD)), none, none, none] [] = .ok (vs.map .str) [] := by
      simp only [iE, eFdB, eV, List.getElem?_cons_zero, Oc.bind, m_inp, Oc.of, itD]
    have s2 : sFor (iE (eFdB "Meaning" "inputs" (eV 0))) (gN 2) (sAsg roE (gN 1)) [some (mD b vs ws), some (.list (([[]] : List (List Nat)).map rwD)), none, none, none] [] = .nx [some (mD b vs ws), some (.list ((rws b vs.length).map rwD)), y2, none, none] [] := by
      rw [sFor, it]
      simp only [Oc.thenS]
      exact e
    have i3 : iE (eV 1) [some (mD b vs ws), some (.list ((rws b vs.length).map rwD)), y2, none, none] [] = .ok ((rws b vs.length).map rwD) [] := rfl
    show (gSq (gPl (sAsg (eLst (aC (eTup aN) aN)) (gN 1))) (gSq (gPl (sFor (iE (eFdB "Meaning" "inputs" (eV 0))) (gN 2) (sAsg roE (gN 1)))) (gSq (gFr (iE (eV 1)) (gN 3) (gSq (gYd (eV 3)) Tg.gNil)) Tg.gNil))) _ _ _ = _
    simp only [gSq, gPl, s1, s2]
    rw [gFr, i3]
    simp only [e3, Tg.gNil, List.nil_append]
  unfold F_Meaning_rows genF
  rw [if_pos ⟨rfl, b1⟩]
  show (match b_Meaning_rows [some (mD b vs ws), none, none, none, none] [] [] with | .nx _ w ys => cond (w.all plainOb) (some ys) none | _ => none) = _
  rw [bb]
  rfl
theorem keys_vs : ∀ vs : List Str, keysD (vs.map .str) = some (vs.map Sum.inr)
  | [] => rfl
  | v :: vs => by simp only [List.map_cons, keysD, keyD, keys_vs vs]
theorem dcz_ok {ρ : Ev} {i : Nat} {W W0 : Ws} {fo : FE} {row : List Nat} (hn : vs.Nodup) (ho : fo ρ W = .ok (.tuple (vs.map .str)) W) (h : ρ[i]? = some (some (rwD row))) : eFzK (eDcZ (aC fo (aC (eV i) aN))) ρ W = .ok (fkD ((vs.zip row).map kI)) (W ++ [.dead]) := by
  have zz : ∀ (vs : List Str) (row : List Nat), (vs.map (Sum.inr : Str → Key)).zip (natsD row) = (vs.zip row).map kI := by
    intro vs
    induction vs with
    | nil => intro row; rfl
    | cons v vs ih =>
      intro row
      cases row with
      | nil => rfl
      | cons r row =>
        have := ih row
        simp only [natsD] at this ⊢
        simp only [List.map_cons, List.zip_cons_cons, this, kI]
  have m : mergeD [] ((vs.zip row).map kI) = (vs.zip row).map kI := by
    have := merge_new ((vs.zip row).map kI) [] (by
      rw [List.nil_append, List.map_map]
      have e : (fun x => x.1) ∘ kI = (Sum.inr : Str → Key) ∘ (·.1) := rfl
      rw [e, ← List.map_map]
      have sb : ((vs.zip row).map (·.1)).Sublist vs := by
        have : ∀ (vs : List Str) (row : List Nat), ((vs.zip row).map (·.1)).Sublist vs := by
          intro vs
          induction vs with
          | nil => intro row; simp
          | cons v vs ih =>
            intro row
            cases row with
            | nil => simp
            | cons r row => simp only [List.zip_cons_cons, List.map_cons]; exact List.Sublist.cons₂ _ (ih row)
        exact this vs row
      exact List.Pairwise.map _ (fun a b h e => h (Sum.inr.inj e)) (sb.nodup hn))
    simpa using this
  have e : eDcZ (aC fo (aC (eV i) aN)) ρ W = .ok (rf W.length) (W ++ [.dK ((vs.zip row).map kI)]) := by
    simp only [eDcZ, aC, aN, eV, ho, h, Oc.bind, rwD, keys_vs, zz, m]
  have dk : dkOf (W ++ [Ob.dK ((vs.zip row).map kI)]) (rf W.length) = some ((vs.zip row).map kI) := by simp [dkOf, rf]
  have lo : locOf (rf W.length) = some W.length := rfl
  have st : (W ++ [Ob.dK ((vs.zip row).map kI)]).set W.length .dead = W ++ [.dead] := by rw [List.set_append_right _ _ (by omega)]; simp
  simp only [eFzK, e, Oc.bind, dk, lo, st]
noncomputable def vaE : FE := eMtB "Meaning" "value" (F_Meaning_value 14) (eV 0) (aC (eV 1) (aC (eFzK (eDcZ (aC (eFdB "Meaning" "inputs" (eV 0)) (aC (eV 2) aN)))) aN))
theorem vaE_ok (hT : Tong b vs ws) {t : Tr} (hh : hgt t < 14) (hl : Lw vs ws t) {row : List Nat} (h1 : row.length = vs.length) (h2 : ∀ v ∈ row, v < b) {W : Ws} :
    vaE [some (mD b vs ws), some (toD t), some (rwD row)] W = .ok (.int (tev b ws (vs.zip row) t : Int)) (W ++ [.dead]) := by
  have fo : eFdB "Meaning" "inputs" (eV 0) [some (mD b vs ws), some (toD t), some (rwD row)] W = .ok (.tuple (vs.map .str)) W := by
    simp only [eFdB, eV, List.getElem?_cons_zero, Oc.bind, m_inp, Oc.of]
  have dz := dcz_ok (W0 := W) (i := 2) hT.vnd fo rfl
  have vo := value_ok (w := W ++ [.dead]) hT (rowK h1 h2) 14 t hh hl
  rw [vaE, eMtB, eV]
  simp only [List.getElem?_cons_zero, Oc.bind, m_ok.1, Oc.on, cond_true]
  rw [aC, eV]
  simp only [List.getElem?_cons_zero, List.getElem?_cons_succ, Oc.bind]
  rw [aC, dz]
  simp only [Oc.bind, aN, vo]
theorem va_loop (hT : Tong b vs ws) {t : Tr} (hh : hgt t < 14) (hl : Lw vs ws t) {x2 : Option PyData} : ∀ (R : List (List Nat)) (acc : List PyData) (m : Nat), acc.length + R.length ≤ 1000 → (∀ r ∈ R, r.length = vs.length ∧ ∀ v ∈ r, v < b) →
    ∃ m', lcL (gN 2) tYs vaE [some (mD b vs ws), some (toD t), x2] (R.map rwD) (w ++ List.replicate m .dead) acc = .ok (acc ++ R.map fun r => .int (tev b ws (vs.zip r) t : Int)) (w ++ List.replicate m' .dead)
  | [], acc, m, _, _ => ⟨m, by simp [lcL]⟩
  | r :: R, acc, m, hs, hr => by
    obtain ⟨h1, h2⟩ := hr r (by simp)
    rw [List.length_cons] at hs
    have st := vaE_ok hT hh hl h1 h2 (W := w ++ List.replicate m .dead)
    rw [List.append_assoc, show List.replicate m Ob.dead ++ [.dead] = List.replicate (m + 1) .dead from (List.replicate_succ').symm] at st
    obtain ⟨m', e⟩ := va_loop hT hh hl (x2 := x2) R (acc ++ [.int (tev b ws (vs.zip r) t : Int)]) (m + 1) (by rw [List.length_append, List.length_singleton]; omega) fun q hq => hr q (by simp [hq])
    refine ⟨m', ?_⟩
    have la : acc.length < sizeLine := by rw [sizeLine_eq]; omega
    rw [List.map_cons, lcL]
    simp only [gN, List.set_cons_zero, List.set_cons_succ, tYs]
    rw [st]
    simp only [la, if_true]
    rw [e, List.append_assoc]; rfl
noncomputable def tabD (b : Nat) (vs : List Str) (ws : List Wd) (t : Tr) : PyData := .tuple ((rws b vs.length).map fun r => .int (tev b ws (vs.zip r) t : Int))
theorem bnd_ints {α : Type} (n : Nat) (f : α → Int) : ∀ L : List α, bndA n (L.map fun x => PyData.int (f x)) = true
  | [] => rfl
  | x :: L => by rw [List.map_cons, bndA, bnd_ints n f L]; rfl
theorem values_ok (hT : Tong b vs ws) (hc : Cl w) {t : Tr} (hh : hgt t < 14) (hl : Lw vs ws t) : F_Meaning_values [mD b vs ws, toD t] w = .ok (tabD b vs ws t) w := by
  have ro := rows_ok hT
  have rl : (rws b vs.length).length ≤ 27 := by
    have := rwsF_len b vs.length [[]]
    rw [List.length_singleton, Nat.one_mul] at this
    unfold rws
    rw [this]; exact pw27 hT hT.v2
  obtain ⟨m, lc⟩ := va_loop (w := w) hT hh hl (x2 := none) (rws b vs.length) [] 0 (by rw [List.length_nil]; omega) fun r hr => rws_mem hr
  rw [List.replicate_zero, List.append_nil, List.nil_append] at lc
  show leave w.length (b_Meaning_values [some (mD b vs ws), some (toD t), none] w) = _
  have ig : iGenM "Meaning" "rows" F_Meaning_rows (eV 0) [some (mD b vs ws), some (toD t), none] w = .ok ((rws b vs.length).map rwD) w := by
    simp only [iGenM, eV, List.getElem?_cons_zero, Oc.bind, m_ok.2.2.1, Oc.on, cond_true, ro]
  have tp : ∀ W L, tupleD W [.list L] = some (.tuple L) := fun _ _ => rfl
  have bb : b_Meaning_values [some (mD b vs ws), some (toD t), none] w = .rt (tabD b vs ws t) (w ++ List.replicate m .dead) := by
    show sRet (eCb tupleD (aC (eLc (iGenM "Meaning" "rows" F_Meaning_rows (eV 0)) (gN 2) tYs vaE [2]) aN)) _ _ = _
    rw [sRet, eCb, aC, eLc, ig]
    simp only [Oc.bind, wipeE, List.set_cons_zero, List.set_cons_succ]
    rw [lc]
    simp only [Oc.bind, aN, tp, Oc.of, Oc.thenS, tabD]
  rw [bb]
  exact leave_trim hc (by show bndA _ _ = true; exact bnd_ints _ _ _)
theorem table_ok (hT : Tong b vs ws) (hc : Cl w) {t : Tr} (hh : hgt t < 14) (hl : Lw vs ws t) : F_table_of [tgD b vs ws, toD t] w = .ok (tabD b vs ws t) w := by
  have mk := make_ok hT hc (ρ := [some (tgD b vs ws), some (toD t)]) rfl
  have va := values_ok (w := w ++ [.dead]) hT (hc.snoc rfl) hh hl
  show leave w.length (b_table_of [some (tgD b vs ws), some (toD t)] w) = _
  have bb : b_table_of [some (tgD b vs ws), some (toD t)] w = .rt (tabD b vs ws t) (w ++ [.dead]) := by
    rw [b_table_of, sRet, eMtB, mk]
    simp only [Oc.bind, m_ok.2.1, Oc.on, cond_true]
    rw [aC, eV]
    simp only [List.getElem?_cons_zero, List.getElem?_cons_succ, Oc.bind, aN, va, Oc.thenS]
  rw [bb]
  exact leave_trim hc (by show bndA _ _ = true; exact bnd_ints _ _ _)
/-! the law's rows -/
noncomputable def lrE : FE := eLc (iR1 (aC (eV 0) aN)) (gN 6) tYs (eB addD (eV 5) (eTup (aC (eV 6) aN))) [6]
theorem lrE_ok (hb : b ≤ 3) {x1 x2 x3 x4 : Option PyData} {r : List Nat} (hr : r.length ≤ 100) : lrE [some (.int (b : Int)), x1, x2, x3, x4, some (rwD r), none] w = .ok (.list (((List.range b).map fun v => r ++ [v]).map rwD)) w := by
  have lc := lcL_flt (gt := gN 6) (tt := tYs) (fe := eB addD (eV 5) (eTup (aC (eV 6) aN))) (ρ := [some (.int (b : Int)), x1, x2, x3, x4, some (rwD r), none]) (w := w)
    (fun (v : Nat) => .int (v : Int)) (fun _ => true) (fun v => rwD (r ++ [v])) (List.range b) [] (by rw [List.length_nil, List.length_range]; omega) (fun v hv => by
      refine ⟨[some (.int (b : Int)), x1, x2, x3, x4, some (rwD r), some (.int (v : Int))], rfl, rfl, fun _ => ?_⟩
      have z1 : szOk 1 = true := szOk_of (by omega)
      have ad : addD w (rwD r) (.tuple [.int (v : Int)]) = some (rwD (r ++ [v])) := by
        show (if szOk ((natsD r).length + 1) = true then some (PyData.tuple (natsD r ++ [.int (v : Int)])) else none) = _
        rw [szOk_of (by rw [natsD, List.length_map]; omega), if_pos rfl, rw_app]
      simp only [eB, eTup, aC, aN, eV, List.getElem?_cons_zero, List.getElem?_cons_succ, Oc.bind, List.length_cons, List.length_nil, Nat.zero_add, z1, Oc.on, cond_true, ad, Oc.of])
  rw [List.filter_eq_self.mpr fun _ _ => rfl, List.nil_append] at lc
  have it : iR1 (aC (eV 0) aN) [some (.int (b : Int)), x1, x2, x3, x4, some (rwD r), none] w = .ok ((List.range b).map fun (v : Nat) => .int (v : Int)) w := by
    simp only [iR1, aC, aN, eV, List.getElem?_cons_zero, Oc.bind, c62_b (show b ≤ 100 by omega), Oc.on, cond_true, rg_s, natsD]
  rw [lrE, eLc, it]
  simp only [Oc.bind, wipeE, List.set_cons_zero, List.set_cons_succ, lc, List.map_map]
  rfl
noncomputable def lrB : FS := sSeq (sAsg (eLst aN) (gN 4)) (sSeq (sFor (iE (eV 2)) (gN 5) (sAsg (eB addD (eV 4) lrE) (gN 4))) (sAsg (eV 4) (gN 2)))
theorem lr_in (hb : b ≤ 3) {x1 x2 x3 : Option PyData} : ∀ (F acc : List (List Nat)) (x5 : Option PyData), (∀ r ∈ F, r.length ≤ 100) → acc.length + F.length * b ≤ 1000 →
    ∃ y5, forL (gN 5) (sAsg (eB addD (eV 4) lrE) (gN 4)) (F.map rwD) [some (.int (b : Int)), x1, x2, x3, some (.list (acc.map rwD)), x5, none] w = .nx [some (.int (b : Int)), x1, x2, x3, some (.list ((acc ++ nxR b F).map rwD)), y5, none] w
  | [], acc, x5, _, _ => ⟨x5, by simp [forL, nxR]⟩
  | r :: F, acc, x5, hF, hl => by
    rw [List.length_cons, Nat.add_mul, Nat.one_mul] at hl
    have le := lrE_ok (w := w) hb (x1 := x1) (x2 := x2) (x3 := x3) (x4 := some (.list (acc.map rwD))) (hF r (by simp))
    obtain ⟨y5, e⟩ := lr_in hb (x1 := x1) (x2 := x2) (x3 := x3) F (acc ++ (List.range b).map fun v => r ++ [v]) (some (rwD r)) (fun q hq => hF q (by simp [hq])) (by rw [List.length_append, List.length_map, List.length_range]; omega)
    refine ⟨y5, ?_⟩
    have ad := add_ls w (a := acc.map rwD) (b := ((List.range b).map fun v => r ++ [v]).map rwD) (by simp only [List.length_map, List.length_range]; omega)
    rw [← List.map_append] at ad
    have st : sAsg (eB addD (eV 4) lrE) (gN 4) [some (.int (b : Int)), x1, x2, x3, some (.list (acc.map rwD)), some (rwD r), none] w = .nx [some (.int (b : Int)), x1, x2, x3, some (.list ((acc ++ (List.range b).map fun v => r ++ [v]).map rwD)), some (rwD r), none] w := by
      rw [sAsg, eB, eV]
      simp only [List.getElem?_cons_zero, List.getElem?_cons_succ, Oc.bind]
      rw [le]
      simp only [Oc.bind, ad, Oc.of, Oc.thenS, gN, List.set_cons_zero, List.set_cons_succ]
    rw [List.map_cons, forL]
    simp only [gN, List.set_cons_zero, List.set_cons_succ]
    rw [st]
    simp only
    rw [e, List.append_assoc]
    simp only [nxR, List.flatMap_cons]
theorem lr_loop (hT : Tong b vs ws) {x1 : Option PyData} : ∀ (L : List PyData) (F : List (List Nat)) (n : Nat) (x3 x4 x5 : Option PyData), n + L.length ≤ 3 → (∀ r ∈ F, r.length ≤ n) → F.length ≤ b ^ n →
    ∃ y3 y4 y5, forL (gN 3) lrB L [some (.int (b : Int)), x1, some (.list (F.map rwD)), x3, x4, x5, none] w = .nx [some (.int (b : Int)), x1, some (.list ((rwsF b F L.length).map rwD)), y3, y4, y5, none] w
  | [], F, n, x3, x4, x5, _, _, _ => ⟨x3, x4, x5, rfl⟩
  | d :: L, F, n, x3, x4, x5, hn, hF, hl => by
    rw [List.length_cons] at hn
    have hb := hT.b3
    have hl2 : F.length * b ≤ b ^ (n + 1) := by rw [Nat.pow_succ]; exact Nat.mul_le_mul_right _ hl
    have h27 := pw27 hT (show n + 1 ≤ 3 by omega)
    obtain ⟨y5, e1⟩ := lr_in (w := w) hb (x1 := x1) (x2 := some (.list (F.map rwD))) (x3 := some d) F [] x5 (fun r hr => by have := hF r hr; omega) (by rw [List.length_nil]; omega)
    rw [List.nil_append, List.map_nil] at e1
    obtain ⟨y3, y4, z5, e⟩ := lr_loop hT (x1 := x1) L (nxR b F) (n + 1) (some d) (some (.list ((nxR b F).map rwD))) y5 (by omega) (fun r hr => by
      obtain ⟨q, hq, v, _, rfl⟩ := nxR_mem.mp hr
      have := hF q hq
      rw [List.length_append, List.length_singleton]; omega) (by rw [nxR_len]; exact hl2)
    refine ⟨y3, y4, z5, ?_⟩
    have st : lrB [some (.int (b : Int)), x1, some (.list (F.map rwD)), some d, x4, x5, none] w = .nx [some (.int (b : Int)), x1, some (.list ((nxR b F).map rwD)), some d, some (.list ((nxR b F).map rwD)), y5, none] w := by
      unfold lrB
      rw [seq_nx (ρ1 := [some (.int (b : Int)), x1, some (.list (F.map rwD)), some d, some (.list []), x5, none]) (w1 := w) (by rfl)]
      have it : iE (eV 2) [some (.int (b : Int)), x1, some (.list (F.map rwD)), some d, some (.list []), x5, none] w = .ok (F.map rwD) w := rfl
      rw [seq_nx (ρ1 := [some (.int (b : Int)), x1, some (.list (F.map rwD)), some d, some (.list ((nxR b F).map rwD)), y5, none]) (w1 := w) (by
        rw [sFor, it]
        simp only [Oc.thenS]
        exact e1)]
      rfl
    rw [forL]
    simp only [gN, List.set_cons_zero, List.set_cons_succ]
    rw [st]
    exact e
theorem lrows_ok (hT : Tong b vs ws) : F__law_rows [.int (b : Int), .int (vs.length : Int)] w = .ok (.list ((rws b vs.length).map rwD)) w := by
  have hv := hT.v2
  have rl : (rgD 0 (vs.length : Int)).length = vs.length := by rw [rg_s, natsD, List.length_map, List.length_range]
  obtain ⟨y3, y4, y5, e⟩ := lr_loop (w := w) hT (x1 := some (.int (vs.length : Int))) (rgD 0 (vs.length : Int)) [[]] 0 none none none (by rw [rl]; omega) (fun r hr => by rw [List.mem_singleton] at hr; subst hr; exact Nat.le_refl _) (by simp)
  rw [rl] at e
  have z0 : szOk 0 = true := szOk_of (by omega)
  have z1 : szOk 1 = true := szOk_of (by omega)
  show leave w.length (b__law_rows [some (.int (b : Int)), some (.int (vs.length : Int)), none, none, none, none, none] w) = _
  have bb : b__law_rows [some (.int (b : Int)), some (.int (vs.length : Int)), none, none, none, none, none] w = .rt (.list ((rws b vs.length).map rwD)) w := by
    show sSeq (sAsg (eLst (aC (eTup aN) aN)) (gN 2)) (sSeq (sFor (iR1 (aC (eV 1) aN)) (gN 3) lrB) (sRet (eV 2))) _ _ = _
    rw [seq_nx (ρ1 := [some (.int (b : Int)), some (.int (vs.length : Int)), some (.list (([[]] : List (List Nat)).map rwD)), none, none, none, none]) (w1 := w) (by
      simp only [sAsg, eLst, eTup, aC, aN, Oc.bind, List.length_cons, List.length_nil, Nat.zero_add, z0, z1, Oc.on, cond_true, Oc.thenS, gN, List.set_cons_zero, List.set_cons_succ]
      rfl)]
    have it : iR1 (aC (eV 1) aN) [some (.int (b : Int)), some (.int (vs.length : Int)), some (.list (([[]] : List (List Nat)).map rwD)), none, none, none, none] w = .ok (rgD 0 (vs.length : Int)) w := by
      simp only [iR1, aC, aN, eV, List.getElem?_cons_zero, List.getElem?_cons_succ, Oc.bind, c62_b (show vs.length ≤ 100 by omega), Oc.on, cond_true]
    rw [seq_nx (ρ1 := [some (.int (b : Int)), some (.int (vs.length : Int)), some (.list ((rws b vs.length).map rwD)), y3, y4, y5, none]) (w1 := w) (by
      rw [sFor, it]
      simp only [Oc.thenS]
      exact e)]
    simp only [sRet, eV, List.getElem?_cons_zero, List.getElem?_cons_succ, Oc.thenS]
  rw [bb]
  exact leave_rt rfl
end
end Tk

set_option Elab.async false
set_option linter.all false
set_option maxRecDepth 100000
set_option maxHeartbeats 4000000
namespace Tk
open PySem L2 Td Tg Tt
/-! ### which values are values of the language -/
noncomputable def nz : PyData → Bool
  | .none => true
  | .bool _ => true
  | .int _ => true
  | .str _ => true
  | .tuple _ => true
  | .list _ => true
  | _ => false
noncomputable def numB : PyData → Bool
  | .int i => decide (0 ≤ i)
  | _ => false
noncomputable def intB : PyData → Bool
  | .int _ => true
  | _ => false
theorem isint_ok (d : PyData) (w : Ws) (h : nz d = true) : F_is_integer [d] w = .ok (.bool (intB d)) w := by
  cases d <;> first
    | (cases h; done)
    | simp [F_is_integer, b_is_integer, defF, startE, sRet, sExp, sIf, sSeq, sAsg, sFor, gN, gT, gC, gZ, eAn, eOr, eNo, eIf, eIsi, eV, eC, eB, eU, eCb, eCall, eSl, oN, oS, eTup, eLst, aN, aC, eLc, eCh, tAn, tOr', tNo, tB', tTr, tYs, iE, iZ, iR1, iR2, sNil, Oc.bind, Oc.thenS, Oc.of, Oc.on, tyD, leave_rt, truD, List.replicate, List.set, List.append_nil, List.nil_append, List.cons_append, wipeE, cond_true, cond_false, k_ii, k_ib, k_is, k_it, k_bi, k_bb, k_bs, k_bt, k_si, k_sb, k_ss, k_st, k_ti, k_tb, k_ts, k_tt, k_li, k_lb, k_ls, k_lt, k_ni, k_nb, k_ns, k_nt, intB]
theorem isnum_ok (d : PyData) (w : Ws) (h : nz d = true) : F_is_number [d] w = .ok (.bool (numB d)) w := by
  have e := isint_ok d w h
  cases d <;> first
    | (cases h; done)
    | simp [F_is_number, b_is_number, defF, startE, sRet, sExp, sIf, sSeq, sAsg, sFor, gN, gT, gC, gZ, eAn, eOr, eNo, eIf, eIsi, eV, eC, eB, eU, eCb, eCall, eSl, oN, oS, eTup, eLst, aN, aC, eLc, eCh, tAn, tOr', tNo, tB', tTr, tYs, iE, iZ, iR1, iR2, sNil, Oc.bind, Oc.thenS, Oc.of, Oc.on, tyD, leave_rt, truD, List.replicate, List.set, List.append_nil, List.nil_append, List.cons_append, wipeE, cond_true, cond_false, k_ii, k_ib, k_is, k_it, k_bi, k_bb, k_bs, k_bt, k_si, k_sb, k_ss, k_st, k_ti, k_tb, k_ts, k_tt, k_li, k_lb, k_ls, k_lt, k_ni, k_nb, k_ns, k_nt, e, intB, numB, geD, cmpD]
theorem lisnum_ok (d : PyData) (w : Ws) (h : nz d = true) : F__law_is_number [d] w = .ok (.bool (numB d)) w := by
  cases d <;> first
    | (cases h; done)
    | simp [F__law_is_number, b__law_is_number, defF, startE, sRet, sExp, sIf, sSeq, sAsg, sFor, gN, gT, gC, gZ, eAn, eOr, eNo, eIf, eIsi, eV, eC, eB, eU, eCb, eCall, eSl, oN, oS, eTup, eLst, aN, aC, eLc, eCh, tAn, tOr', tNo, tB', tTr, tYs, iE, iZ, iR1, iR2, sNil, Oc.bind, Oc.thenS, Oc.of, Oc.on, tyD, leave_rt, truD, List.replicate, List.set, List.append_nil, List.nil_append, List.cons_append, wipeE, cond_true, cond_false, k_ii, k_ib, k_is, k_it, k_bi, k_bb, k_bs, k_bt, k_si, k_sb, k_ss, k_st, k_ti, k_tb, k_ts, k_tt, k_li, k_lb, k_ls, k_lt, k_ni, k_nb, k_ns, k_nt, numB, geD, cmpD]
noncomputable def valB (b : Nat) : PyData → Bool
  | .int i => decide (0 ≤ i) && decide (i < (b : Int))
  | _ => false
section
variable {b : Nat} {vs : List Str} {ws : List Wd} {w : Ws}
theorem isval_ok (d : PyData) (h : nz d = true) : F_Meaning_is_value [mD b vs ws, d] w = .ok (.bool (valB b d)) w := by
  have e := isnum_ok d w h
  have ms := m_size (b := b) (vs := vs) (ws := ws) (w := w)
  generalize mD b vs ws = M at *
  cases d <;> first
    | (cases h; done)
    | simp [F_Meaning_is_value, b_Meaning_is_value, defF, startE, sRet, sExp, sIf, sSeq, sAsg, sFor, gN, gT, gC, gZ, eAn, eOr, eNo, eIf, eIsi, eV, eC, eB, eU, eCb, eCall, eSl, oN, oS, eTup, eLst, aN, aC, eLc, eCh, tAn, tOr', tNo, tB', tTr, tYs, iE, iZ, iR1, iR2, sNil, Oc.bind, Oc.thenS, Oc.of, Oc.on, tyD, leave_rt, truD, List.replicate, List.set, List.append_nil, List.nil_append, List.cons_append, wipeE, cond_true, cond_false, e, numB, valB, eFdB, ms, ltD, cmpD]
  rename_i i
  by_cases hi : 0 ≤ i <;> simp [hi] <;> exact leave_rt rfl
noncomputable def fB (b : Nat) : List PyData → Nat → Option Nat
  | [], _ => none
  | d :: ds, i => if valB b d = true then fB b ds (i + 1) else some i
theorem fB_none {b : Nat} : ∀ {ds : List PyData} {i : Nat}, fB b ds i = none → ∃ row : List Nat, ds = natsD row ∧ ∀ v ∈ row, v < b
  | [], _, _ => ⟨[], rfl, fun v hv => nomatch hv⟩
  | d :: ds, i, h => by
    unfold fB at h
    split at h
    · rename_i hv
      obtain ⟨row, e, hr⟩ := fB_none h
      cases d with
      | int j =>
        unfold valB at hv
        rw [Bool.and_eq_true, decide_eq_true_eq, decide_eq_true_eq] at hv
        refine ⟨j.toNat :: row, ?_, fun v hv' => ?_⟩
        · rw [e]; simp only [natsD, List.map_cons]; rw [show ((j.toNat : Nat) : Int) = j by omega]
        · rcases List.mem_cons.mp hv' with rfl | hv'
          · omega
          · exact hr v hv'
      | _ => cases hv
    · cases h
noncomputable def nU (word : Str) (at_ : Int) : Value × List (Str × PyData) := (.str "NotUsable" 0, [("at", .int at_), ("word", .str word)])
theorem leave_trimE {w v : Ws} {ρ : Ev} {c : Value} {fs : List (Str × PyData)} (h : Cl w) (hb : bndA w.length (fs.map (·.2)) = true) : leave w.length (.ex ρ c fs (w ++ v)) = .ex c fs w := by
  simp only [leave, trim_app h, hb, Bool.and_self, if_true, List.take_left]
noncomputable def voB : FS := sIf (tNo (tTr (eMtB "Meaning" "is_value" F_Meaning_is_value (eV 3) (aC (eV 5) aN)))) (Te.sRz2 "NotUsable" "word" "at" (aC (eC (.str "value")) (aC (eV 4) aN))) sNil
theorem vo_loop {x0 x1 x2 : Option PyData} : ∀ (ds : List PyData) (i : Nat) (x4 x5 : Option PyData), (∀ d ∈ ds, nz d = true) →
    (∃ k ρ', fB b ds i = some k ∧ forL (gT 2 (gC (gN 4) (gC (gN 5) gZ))) voB (enD i ds) [x0, x1, x2, some (mD b vs ws), x4, x5] w = .ex ρ' (nU "value" k).1 (nU "value" k).2 w) ∨
    (fB b ds i = none ∧ ∃ y4 y5, forL (gT 2 (gC (gN 4) (gC (gN 5) gZ))) voB (enD i ds) [x0, x1, x2, some (mD b vs ws), x4, x5] w = .nx [x0, x1, x2, some (mD b vs ws), y4, y5] w)
  | [], i, x4, x5, _ => .inr ⟨rfl, x4, x5, rfl⟩
  | d :: ds, i, x4, x5, h => by
    have iv := isval_ok (b := b) (vs := vs) (ws := ws) (w := w) d (h d (by simp))
    have g : gT 2 (gC (gN 4) (gC (gN 5) gZ)) (wtD [.int (i : Nat), d]) [x0, x1, x2, some (mD b vs ws), x4, x5] w = .ok [x0, x1, x2, some (mD b vs ws), some (.int (i : Nat)), some d] w := rfl
    have st : voB [x0, x1, x2, some (mD b vs ws), some (.int (i : Nat)), some d] w = if valB b d = true then .nx [x0, x1, x2, some (mD b vs ws), some (.int (i : Nat)), some d] w else .ex [x0, x1, x2, some (mD b vs ws), some (.int (i : Nat)), some d] (nU "value" i).1 (nU "value" i).2 w := by
      simp only [voB, sIf, tNo, tTr, eMtB, aC, aN, eV, List.getElem?_cons_zero, List.getElem?_cons_succ, Oc.bind, m_ok.2.2.2, Oc.on, cond_true, iv, truD, Oc.of, Oc.thenS]
      cases valB b d <;> rfl
    show (∃ k ρ', _ ∧ forL _ _ (wtD [.int (i : Nat), d] :: enD (i + 1) ds) _ _ = _) ∨ (_ ∧ ∃ y4 y5, forL _ _ (wtD [.int (i : Nat), d] :: enD (i + 1) ds) _ _ = _)
    rw [forL, g]
    simp only
    rw [st]
    by_cases hv : valB b d = true
    · rw [if_pos hv]
      have e : fB b (d :: ds) i = fB b ds (i + 1) := by rw [fB, if_pos hv]
      rw [e]
      exact vo_loop ds (i + 1) _ _ fun y hy => h y (by simp [hy])
    · rw [if_neg hv]
      exact .inl ⟨i, _, by rw [fB, if_neg hv], rfl⟩
/-- what comes of it -/
noncomputable def dueD (b : Nat) (vs : List Str) (ws : List Wd) (t : Tr) (ds : List PyData) : PyData :=
  if ds.length = vs.length then
    match fB b ds 0 with
    | some k => .tuple [.str "use", .str "value", .int (k : Int)]
    | none => .tuple [.str "result", .int (tev b ws (vs.zip (ds.map fun d => match d with | .int i => i.toNat | _ => 0)) t : Int)]
  else .tuple [.str "use", .str "many", .int (-1)]
theorem nat_row (row : List Nat) : ((natsD row).map fun d => match d with | .int i => i.toNat | _ => 0) = row := by
  induction row with
  | nil => rfl
  | cons r row ih =>
    simp only [natsD] at ih ⊢
    rw [List.map_cons, List.map_cons, ih]; rfl
theorem vo_ok (hT : Tong b vs ws) (hc : Cl w) {t : Tr} (hh : hgt t < 14) (hl : Lw vs ws t) {ds : List PyData} (hd : ∀ d ∈ ds, nz d = true) {f : FE} {ρ : Ev} (hf : f ρ w = F_value_of [tgD b vs ws, toD t, .tuple ds] w) :
    Te.eOut outF__law_outcome f ρ w = .ok (dueD b vs ws t ds) w := by
  have mk := make_ok hT hc (ρ := [some (tgD b vs ws), some (toD t), some (.tuple ds), none, none, none]) rfl
  have ln1 : lenD (w ++ [.dead]) [.tuple ds] = some (.int (ds.length : Int)) := rfl
  have ln2 : lenD (w ++ [.dead]) [.tuple (vs.map .str)] = some (.int (vs.length : Int)) := by
    show some (PyData.int ((vs.map PyData.str).length : Int)) = _
    rw [List.length_map]
  have ne := neD_int (w ++ [.dead]) (ds.length : Int) (vs.length : Int)
  rw [decide_eq_decide.mpr (Int.ofNat_inj (m := ds.length) (n := vs.length))] at ne
  have s1 : ∀ rest, b_value_of = sSeq (sAsg (eFzI "Meaning" (eMk "Meaning" F_Meaning___init__ (aC (eV 0) aN))) (gN 3)) rest → b_value_of [some (tgD b vs ws), some (toD t), some (.tuple ds), none, none, none] w = rest [some (tgD b vs ws), some (toD t), some (.tuple ds), some (mD b vs ws), none, none] (w ++ [.dead]) := fun rest e => by
    rw [e, seq_nx (ρ1 := [some (tgD b vs ws), some (toD t), some (.tuple ds), some (mD b vs ws), none, none]) (w1 := w ++ [.dead]) (by
      rw [sAsg, mk]
      rfl)]
  have s1 := s1 _ rfl
  have fe : F_value_of [tgD b vs ws, toD t, .tuple ds] w = leave w.length (b_value_of [some (tgD b vs ws), some (toD t), some (.tuple ds), none, none, none] w) := rfl
  unfold dueD
  by_cases hn : ds.length = vs.length
  · rw [if_pos hn]
    rw [decide_eq_true hn] at ne
    have s2 : b_value_of [some (tgD b vs ws), some (toD t), some (.tuple ds), none, none, none] w = sSeq (sFor (iEn2 (aC (eV 2) aN)) (gT 2 (gC (gN 4) (gC (gN 5) gZ))) voB)
        (sRet (eMtB "Meaning" "value" (F_Meaning_value 14) (eV 3) (aC (eV 1) (aC (eFzK (eDcZ (aC (eB ixD (eV 0) (eC (.int 1))) (aC (eV 2) aN)))) aN)))) [some (tgD b vs ws), some (toD t), some (.tuple ds), some (mD b vs ws), none, none] (w ++ [.dead]) := by
      rw [s1, seq_nx (ρ1 := [some (tgD b vs ws), some (toD t), some (.tuple ds), some (mD b vs ws), none, none]) (w1 := w ++ [.dead]) (by
        simp only [sIf, tB', eB, eCb, eC, aC, aN, eV, List.getElem?_cons_zero, List.getElem?_cons_succ, Oc.bind, Oc.of, ln1, tg1, ln2, ne, Bool.not_true, Oc.thenS, cond_false, sNil])]
      rfl
    have it : iEn2 (aC (eV 2) aN) [some (tgD b vs ws), some (toD t), some (.tuple ds), some (mD b vs ws), none, none] (w ++ [.dead]) = .ok (enD 0 ds) (w ++ [.dead]) := rfl
    rcases vo_loop (b := b) (vs := vs) (ws := ws) (w := w ++ [.dead]) (x0 := some (tgD b vs ws)) (x1 := some (toD t)) (x2 := some (.tuple ds)) ds 0 none none hd with ⟨k, ρ', e1, e2⟩ | ⟨e1, y4, y5, e2⟩
    · rw [e1]
      have fv : F_value_of [tgD b vs ws, toD t, .tuple ds] w = .ex (nU "value" k).1 (nU "value" k).2 w := by
        rw [fe, s2, sSeq, sFor, it]
        simp only [Oc.thenS]
        rw [e2]
        exact leave_trimE hc rfl
      rw [Te.eOut, hf, fv]
      rfl
    · rw [e1]
      obtain ⟨row, rfl, hr⟩ := fB_none e1
      have hlr : row.length = vs.length := by rw [← hn, natsD, List.length_map]
      have fo : eB ixD (eV 0) (eC (.int 1)) [some (tgD b vs ws), some (toD t), some (rwD row), some (mD b vs ws), y4, y5] (w ++ [.dead]) = .ok (.tuple (vs.map .str)) (w ++ [.dead]) := rfl
      have dz := dcz_ok (W0 := w) (i := 2) hT.vnd fo rfl
      have vo := value_ok (w := w ++ [.dead] ++ [.dead]) hT (rowK hlr hr) 14 t hh hl
      have fv : F_value_of [tgD b vs ws, toD t, .tuple (natsD row)] w = .ok (.int (tev b ws (vs.zip row) t : Int)) w := by
        rw [fe, s2, seq_nx (ρ1 := [some (tgD b vs ws), some (toD t), some (rwD row), some (mD b vs ws), y4, y5]) (w1 := w ++ [.dead]) (by
          rw [sFor, it]
          simp only [Oc.thenS]
          exact e2)]
        rw [sRet, eMtB, eV]
        simp only [List.getElem?_cons_zero, List.getElem?_cons_succ, Oc.bind, m_ok.1, Oc.on, cond_true]
        rw [aC, eV]
        simp only [List.getElem?_cons_zero, List.getElem?_cons_succ, Oc.bind]
        rw [aC, dz]
        simp only [Oc.bind, aN, vo, Oc.thenS]
        rw [List.append_assoc]
        exact leave_trim hc rfl
      rw [Te.eOut, hf, fv]
      simp only [nat_row]
  · rw [if_neg hn]
    rw [decide_eq_false hn] at ne
    have fv : F_value_of [tgD b vs ws, toD t, .tuple ds] w = .ex (nU "many" (-1)).1 (nU "many" (-1)).2 w := by
      rw [fe, s1, sSeq]
      have n1 : negD (w ++ [.dead]) (.int 1) = some (.int (-1)) := rfl
      simp only [sIf, tB', eB, eU, eCb, eC, aC, aN, eV, List.getElem?_cons_zero, List.getElem?_cons_succ, Oc.bind, Oc.of, ln1, tg1, ln2, ne, Bool.not_false, Oc.thenS, cond_true, Te.sRz2, n1]
      exact leave_trimE hc rfl
    rw [Te.eOut, hf, fv]
    rfl
noncomputable def duB : FS := sIf (tOr' (tNo (tTr (eCall F__law_is_number [] (aC (eB ixD (eV 2) (eV 3)) aN)))) (tB' (eB geD (eB ixD (eV 2) (eV 3)) (eB ixD (eV 0) (eC (.int 0)))))) (sRet (eTup (aC (eC (.str "use")) (aC (eC (.str "value")) (aC (eV 3) aN))))) sNil
theorem du_loop {x1 : Option PyData} {full : List PyData} : ∀ (ds : List PyData) (i : Nat) (x3 : Option PyData), full.drop i = ds → (∀ d ∈ ds, nz d = true) →
    (∃ k, fB b ds i = some k ∧ forL (gN 3) duB ((List.range' i ds.length).map fun (k : Nat) => .int (k : Int)) [some (tgD b vs ws), x1, some (.tuple full), x3] w = .rt (.tuple [.str "use", .str "value", .int (k : Int)]) w) ∨
    (fB b ds i = none ∧ ∃ y3, forL (gN 3) duB ((List.range' i ds.length).map fun (k : Nat) => .int (k : Int)) [some (tgD b vs ws), x1, some (.tuple full), x3] w = .nx [some (tgD b vs ws), x1, some (.tuple full), y3] w)
  | [], i, x3, _, _ => .inr ⟨rfl, x3, rfl⟩
  | d :: ds, i, x3, hf, h => by
    have hi : full[i]? = some d := by
      have := congrArg (·[0]?) hf
      simpa using this
    have hd := h d (by simp)
    have ix : ixD w (.tuple full) (.int (i : Int)) = some d := by rw [ixD_tup]; exact Td.atI_nat hi
    have iv := lisnum_ok d w hd
    have z3 : szOk 3 = true := szOk_of (by omega)
    have st : duB [some (tgD b vs ws), x1, some (.tuple full), some (.int (i : Int))] w = if valB b d = true then .nx [some (tgD b vs ws), x1, some (.tuple full), some (.int (i : Int))] w else .rt (.tuple [.str "use", .str "value", .int (i : Int)]) w := by
      by_cases hn : numB d = true
      · cases d with
        | int j =>
          have h0 : 0 ≤ j := of_decide_eq_true hn
          have ge : geD w (.int j) (.int (b : Int)) = some (.bool (decide ((b : Int) ≤ j))) := rfl
          have e : valB b (.int j) = !decide ((b : Int) ≤ j) := by
            show (decide (0 ≤ j) && decide (j < (b : Int))) = _
            rw [decide_eq_true h0, Bool.true_and]
            by_cases hb : (b : Int) ≤ j
            · rw [decide_eq_true hb, decide_eq_false (by omega)]; rfl
            · rw [decide_eq_false hb, decide_eq_true (by omega)]; rfl
          simp only [duB, sIf, tOr', tNo, tTr, tB', eB, eCall, aC, aN, eC, eV, List.getElem?_cons_zero, List.getElem?_cons_succ, Oc.bind, Oc.of, List.append_nil, ix, iv, hn, truD, Bool.not_true, cond_false, tg0, ge, Oc.thenS, e]
          cases decide ((b : Int) ≤ j)
          · rfl
          · simp only [Bool.not_true, cond_true, sRet, eTup, aC, aN, eC, eV, List.getElem?_cons_zero, List.getElem?_cons_succ, Oc.bind, List.length_cons, List.length_nil, Nat.zero_add, Nat.reduceAdd, z3, Oc.on, Oc.thenS]
            rfl
        | _ => cases hn
      · have hn' : numB d = false := by simpa using hn
        have e : valB b d = false := by
          cases d <;> first | rfl | skip
          rename_i j
          have hj : decide (0 ≤ j) = false := hn'
          show (decide (0 ≤ j) && decide (j < (b : Int))) = false
          rw [hj]; rfl
        simp only [duB, sIf, tOr', tNo, tTr, tB', eB, eCall, aC, aN, eC, eV, List.getElem?_cons_zero, List.getElem?_cons_succ, Oc.bind, Oc.of, List.append_nil, ix, iv, hn', truD, Bool.not_false, cond_true, Oc.thenS, e, sRet, eTup, List.length_cons, List.length_nil, Nat.zero_add, Nat.reduceAdd, z3, Oc.on]
        rfl
    rw [List.length_cons, List.range'_succ, List.map_cons, forL]
    simp only [gN, List.set_cons_zero, List.set_cons_succ]
    rw [st]
    by_cases hv : valB b d = true
    · rw [if_pos hv]
      have e : fB b (d :: ds) i = fB b ds (i + 1) := by rw [fB, if_pos hv]
      rw [e]
      exact du_loop ds (i + 1) _ (by rw [← List.drop_drop, hf]; rfl) fun y hy => h y (by simp [hy])
    · rw [if_neg hv]
      exact .inl ⟨i, by rw [fB, if_neg hv], rfl⟩
theorem due_ok (hT : Tong b vs ws) {t : Tr} (hh : hgt t < 14) (hv : VH t) (hl : Lw vs ws t) {ds : List PyData} (hd : ∀ d ∈ ds, nz d = true) (hs : ds.length ≤ 100) : F__law_due [tgD b vs ws, toD t, .tuple ds] w = .ok (dueD b vs ws t ds) w := by
  have ln1 : lenD w [.tuple ds] = some (.int (ds.length : Int)) := rfl
  have ln2 : lenD w [.tuple (vs.map .str)] = some (.int (vs.length : Int)) := by
    show some (PyData.int ((vs.map PyData.str).length : Int)) = _
    rw [List.length_map]
  have ne := neD_int w (ds.length : Int) (vs.length : Int)
  rw [decide_eq_decide.mpr (Int.ofNat_inj (m := ds.length) (n := vs.length))] at ne
  have z3 : szOk 3 = true := szOk_of (by omega)
  have z2 : szOk 2 = true := szOk_of (by omega)
  have n1 : negD w (.int 1) = some (.int (-1)) := rfl
  show leave w.length (b__law_due [some (tgD b vs ws), some (toD t), some (.tuple ds), none] w) = _
  have bb : b__law_due [some (tgD b vs ws), some (toD t), some (.tuple ds), none] w = .rt (dueD b vs ws t ds) w := by
    unfold dueD
    by_cases hn : ds.length = vs.length
    · rw [if_pos hn]
      rw [decide_eq_true hn] at ne
      unfold b__law_due
      rw [seq_nx (ρ1 := [some (tgD b vs ws), some (toD t), some (.tuple ds), none]) (w1 := w) (by
        simp only [sIf, tB', eB, eCb, eC, aC, aN, eV, List.getElem?_cons_zero, List.getElem?_cons_succ, Oc.bind, Oc.of, ln1, tg1, ln2, ne, Bool.not_true, Oc.thenS, cond_false, sNil])]
      have rg : rgD 0 (ds.length : Int) = (List.range' 0 ds.length).map fun (k : Nat) => .int (k : Int) := by rw [rg_s, natsD, List.range_eq_range']
      have it : iR1 (aC (eCb lenD (aC (eV 2) aN)) aN) [some (tgD b vs ws), some (toD t), some (.tuple ds), none] w = .ok ((List.range' 0 ds.length).map fun (k : Nat) => .int (k : Int)) w := by
        simp only [iR1, eCb, aC, aN, eV, List.getElem?_cons_zero, List.getElem?_cons_succ, Oc.bind, Oc.of, ln1, c62_b hs, Oc.on, cond_true, rg]
      have eB' : (sIf (tOr' (tNo (tTr (eCall F__law_is_number [] (aC (eB ixD (eV 2) (eV 3)) aN)))) (tB' (eB geD (eB ixD (eV 2) (eV 3)) (eB ixD (eV 0) (eC (.int 0)))))) (sRet (eTup (aC (eC (.str "use")) (aC (eC (.str "value")) (aC (eV 3) aN))))) sNil) = duB := rfl
      rw [eB']
      rcases du_loop (b := b) (vs := vs) (ws := ws) (w := w) (x1 := some (toD t)) (full := ds) ds 0 none rfl hd with ⟨k, e1, e2⟩ | ⟨e1, y3, e2⟩
      · rw [e1, sSeq, sFor, it]
        simp only [Oc.thenS]
        rw [e2]
      · rw [e1]
        obtain ⟨row, rfl, hr⟩ := fB_none e1
        have hlr : row.length = vs.length := by rw [← hn, natsD, List.length_map]
        have wo := worth_ok (w := w) hT hlr hr 14 t hh hv hl
        rw [seq_nx (ρ1 := [some (tgD b vs ws), some (toD t), some (rwD row), y3]) (w1 := w) (by
          rw [sFor, it]
          simp only [Oc.thenS]
          exact e2)]
        simp only [nat_row]
        generalize F__law_worth 14 = g at *
        simp only [sRet, eTup, eCall, aC, aN, eC, eV, List.getElem?_cons_zero, List.getElem?_cons_succ, Oc.bind, List.append_nil, wo, List.length_cons, List.length_nil, Nat.zero_add, Nat.reduceAdd, z2, Oc.on, cond_true, Oc.thenS]
    · rw [if_neg hn]
      rw [decide_eq_false hn] at ne
      unfold b__law_due
      rw [sSeq]
      simp only [sIf, tB', eB, eU, eCb, eC, aC, aN, eV, List.getElem?_cons_zero, List.getElem?_cons_succ, Oc.bind, Oc.of, ln1, tg1, ln2, ne, Bool.not_false, Oc.thenS, cond_true, sRet, eTup, n1, List.length_cons, List.length_nil, Nat.zero_add, Nat.reduceAdd, z3, Oc.on]
  rw [bb]
  exact leave_rt rfl
end
end Tk

set_option Elab.async false
set_option linter.all false
set_option maxRecDepth 100000
set_option maxHeartbeats 4000000
namespace Tk
open PySem L2 Td Tg Tt
/-! ### odd rows -/
structure OdR (ds : List PyData) : Prop where
  len : ds.length ≤ 5
  nz : ∀ d ∈ ds, nz d = true
  bnd : ∀ k, bndA k ds = true
noncomputable def tpD (ds : List PyData) : PyData := .tuple ds
theorem OdR.rep {d : PyData} (n : Nat) (hn : n ≤ 5) (h1 : Tk.nz d = true) (h2 : ∀ k, Td.bnd k d = true) : OdR (List.replicate n d) := by
  refine ⟨by rw [List.length_replicate]; exact hn, fun x hx => by rw [List.eq_of_mem_replicate hx]; exact h1, fun k => ?_⟩
  induction n with
  | zero => rfl
  | succ n ih => rw [List.replicate_succ, bndA, h2 k, ih (by omega)]; rfl
theorem bndL_od {L : List (List PyData)} (h : ∀ ds ∈ L, OdR ds) (k : Nat) : bndA k (L.map tpD) = true := by
  induction L with
  | nil => rfl
  | cons ds L ih =>
    have e : Td.bnd k (tpD ds) = true := (h ds (by simp)).bnd k
    rw [List.map_cons, bndA, e, ih fun x hx => h x (by simp [hx])]; rfl
theorem mul_t (w : Ws) (d : PyData) {n : Nat} (hn : n ≤ 5) : mulD w (.tuple [d]) (.int (n : Int)) = some (.tuple (List.replicate n d)) := by
  rcases (show n = 0 ∨ n = 1 ∨ n = 2 ∨ n = 3 ∨ n = 4 ∨ n = 5 by omega) with rfl | rfl | rfl | rfl | rfl | rfl <;> simp [mulD, cMt, List.replicate]
noncomputable def mnL (b : Nat) : List PyData := [.int 0, .int (b : Int), .int (-1), .bool true, .bool false, .none, .str "0", .tuple [.int 0], .list [.int 0], .int (10 ^ 30)]
theorem mn_ok (b : Nat) : ∀ d ∈ mnL b, nz d = true ∧ ∀ k, bnd k d = true := by
  intro d hd
  simp only [mnL, List.mem_cons, List.not_mem_nil, or_false] at hd
  rcases hd with rfl | rfl | rfl | rfl | rfl | rfl | rfl | rfl | rfl | rfl <;> exact ⟨rfl, fun _ => rfl⟩
section
variable {b : Nat} {vs : List Str} {ws : List Wd} {w : Ws}
noncomputable def odE : FE := eB ixD (eV 2) (eCall F__law_draw [] (aC (eV 0) (aC (eB ixD (eLst (aC (eC (.int 2)) (aC (eC (.int 10)) aN))) (eCall F__law_draw [] (aC (eV 0) (aC (eC (.int 2)) aN)))) aN)))
theorem od_row {ob : Ob} {V : Ws} {n : Nat} {x1 x3 x4 : Option PyData} (hv2 : vs.length ≤ 3) (h : RdOk ob n) (hn : n + 20 < 1000000) :
    wO (fun acc W => ∃ ob', W = ob' :: V ∧ OdR acc ∧ RdOk ob' (n + 6)) (lcL (gN 5) tYs odE [some (rf 0), x1, some (.list (mnL b)), x3, x4, none] (vs.map .str) (ob :: V) []) := by
  have hl : (vs.map PyData.str).length = vs.length := List.length_map ..
  refine wA_lcL (fun j acc W => ∃ ob', W = ob' :: V ∧ acc.length = j ∧ (∀ d ∈ acc, nz d = true) ∧ (∀ k, bndA k acc = true) ∧ RdOk ob' (n + 2 * j)) _ 0 _ [] (by rw [sizeLine_eq, hl]; simp; omega) ⟨ob, rfl, rfl, (fun d hd => nomatch hd), (fun _ => rfl), h⟩ ?_ ?_
  · rintro j d acc W hj ⟨ob1, rfl, hal, hnz, hbd, h1⟩
    have hj' := (List.getElem?_eq_some_iff.mp hj).1
    rw [hl] at hj'
    have z2 : szOk 2 = true := szOk_of (by omega)
    simp only [tYs, odE, wipeE, sRet, sExp, sIf, sAsg, sFor, gN, gT, gC, gZ, eAn, eOr, eNo, eIf, eIsi, eV, eC, eB, eU, eCb, eCall, eSl, oN, oS, eTup, eLst, aN, aC, eLc, eCh, tAn, tOr', tNo, tB', tTr, tYs, iE, iZ, iR1, iR2, sNil, wO_bind, wO_ok, wO_onE, wO_ofif, wO_some, wS_seq, wS_then, wS_nx, wS_rt, cond_true, cond_false, List.append_nil, List.nil_append, List.cons_append, List.getElem?_cons_zero, List.getElem?_cons_succ, List.set_cons_zero, List.set_cons_succ, Oc.on, List.length_cons, List.length_nil, Nat.zero_add, Nat.reduceAdd, z2]
    refine wO_mono (draw_c (v := V) h1 (by omega) (by omega) (by omega)) ?_
    rintro d W ⟨k, ob2, rfl, hk, rfl, h2⟩
    obtain ⟨m, hm, e⟩ := atL (w := ob2 :: V) (xs := [.int 2, .int 10]) (v := (k : Int)) (by omega) (by simpa using hk)
    obtain ⟨q, rfl, hq⟩ : ∃ q : Nat, m = .int (q : Int) ∧ 1 ≤ q ∧ q ≤ 10 := by
      simp only [List.mem_cons, List.not_mem_nil, or_false] at hm
      rcases hm with rfl | rfl
      · exact ⟨2, rfl, by omega, by omega⟩
      · exact ⟨10, rfl, by omega, by omega⟩
    simp only [wipeE, sRet, sExp, sIf, sAsg, sFor, gN, gT, gC, gZ, eAn, eOr, eNo, eIf, eIsi, eV, eC, eB, eU, eCb, eCall, eSl, oN, oS, eTup, eLst, aN, aC, eLc, eCh, tAn, tOr', tNo, tB', tTr, tYs, iE, iZ, iR1, iR2, sNil, wO_bind, wO_ok, wO_onE, wO_ofif, wO_some, wS_seq, wS_then, wS_nx, wS_rt, cond_true, cond_false, List.append_nil, List.nil_append, List.cons_append, List.getElem?_cons_zero, List.getElem?_cons_succ, List.set_cons_zero, List.set_cons_succ, e]
    refine wO_mono (draw_c (v := V) h2 (by omega) (by omega) (by omega)) ?_
    rintro d W ⟨k2, ob3, rfl, hk2, rfl, h3⟩
    obtain ⟨y, hy, e2⟩ := atL (w := ob3 :: V) (xs := mnL b) (v := (k2 : Int)) (by omega) (by show (k2 : Int) < 10; omega)
    obtain ⟨y1, y2⟩ := mn_ok b y hy
    simp only [wipeE, sRet, sExp, sIf, sAsg, sFor, gN, gT, gC, gZ, eAn, eOr, eNo, eIf, eIsi, eV, eC, eB, eU, eCb, eCall, eSl, oN, oS, eTup, eLst, aN, aC, eLc, eCh, tAn, tOr', tNo, tB', tTr, tYs, iE, iZ, iR1, iR2, sNil, wO_bind, wO_ok, wO_onE, wO_ofif, wO_some, wS_seq, wS_then, wS_nx, wS_rt, cond_true, cond_false, List.append_nil, List.nil_append, List.cons_append, List.getElem?_cons_zero, List.getElem?_cons_succ, List.set_cons_zero, List.set_cons_succ, e2]
    refine ⟨ob3, rfl, by rw [List.length_append, List.length_singleton, hal, Nat.zero_add], fun d hd => ?_, fun k => ?_, h3.mono (by omega)⟩
    · rcases List.mem_append.mp hd with hd | hd
      · exact hnz d hd
      · rw [List.mem_singleton] at hd; subst hd; exact y1
    · have : ∀ L : List PyData, bndA k L = true → bndA k (L ++ [y]) = true := by
        intro L
        induction L with
        | nil => intro _; rw [List.nil_append, bndA, y2 k]; rfl
        | cons z L ih =>
          intro hz
          rw [bndA, Bool.and_eq_true] at hz
          rw [List.cons_append, bndA, hz.1, ih hz.2]; rfl
      exact this acc (hbd k)
  · rintro acc W ⟨ob1, rfl, hal, hnz, hbd, h1⟩
    rw [Nat.zero_add, hl] at hal
    exact ⟨ob1, rfl, ⟨by omega, hnz, hbd⟩, h1.mono (by rw [hl]; omega)⟩
theorem odd_w (hT : Tong b vs ws) {ob : Ob} {v : Ws} {n : Nat} (h : RdOk ob n) (hv : Pl v) (hn : n + 100 < 1000000) :
    wO (fun d W => ∃ ob', W = ob' :: v ∧ ∃ L : List (List PyData), d = .list (L.map tpD) ∧ L.length = 9 ∧ (∀ ds ∈ L, OdR ds) ∧ RdOk ob' (n + 36)) (F__law_odd_rows [rf 0, tgD b vs ws] (ob :: v)) := by
  show wO _ (leave (ob :: v).length (b__law_odd_rows [some (rf 0), some (tgD b vs ws), none, none, none, none] (ob :: v)))
  refine wO_leave (P := fun d ob' => ∃ L : List (List PyData), d = .list (L.map tpD) ∧ L.length = 9 ∧ (∀ ds ∈ L, OdR ds) ∧ RdOk ob' (n + 36)) (n := n) hv ?_
  unfold b__law_odd_rows
  have hv2 := hT.v2
  have z1 : szOk 1 = true := szOk_of (by omega)
  have z2 : szOk 2 = true := szOk_of (by omega)
  have z3 : szOk 3 = true := szOk_of (by omega)
  have z10 : szOk 10 = true := szOk_of (by omega)
  have pw : ∀ W, powD W (.int 10) (.int 30) = some (.int (10 ^ 30)) := fun _ => rfl
  have n1 : ∀ W, negD W (.int 1) = some (.int (-1)) := fun _ => rfl
  have ln : ∀ W, lenD W [.tuple (vs.map .str)] = some (.int (vs.length : Int)) := fun W => by
    show some (PyData.int ((vs.map PyData.str).length : Int)) = _
    rw [List.length_map]
  have m1 := fun W => mul_t W (.int 0) (n := vs.length) (by omega)
  have m2 := fun W => mul_t W .none (n := vs.length + 2) (by omega)
  have m3 := fun W => mul_t W (.int 0) (n := vs.length - 1) (by omega)
  have a2 : ∀ W, addD W (.int (vs.length : Int)) (.int 2) = some (.int ((vs.length + 2 : Nat) : Int)) := fun _ => rfl
  have s1 : ∀ W, subD W (.int (vs.length : Int)) (.int 1) = some (.int ((vs.length : Int) - 1)) := fun _ => rfl
  have mx : ∀ W, max2D W [.int 0, .int ((vs.length : Int) - 1)] = some (.int ((vs.length - 1 : Nat) : Int)) := fun W => by
    show some (PyData.int (if (vs.length : Int) - 1 > 0 then (vs.length : Int) - 1 else 0)) = _
    congr 2
    split <;> omega
  have a1 : ∀ W, addD W (.tuple (List.replicate vs.length (.int 0))) (.tuple [.int 0]) = some (.tuple (List.replicate (vs.length + 1) (.int 0))) := fun W => by
    show (if szOk ((List.replicate vs.length (PyData.int 0)).length + 1) = true then some (PyData.tuple (List.replicate vs.length (.int 0) ++ [.int 0])) else none) = _
    rw [szOk_of (by rw [List.length_replicate]; omega), if_pos rfl, List.replicate_succ']
  obtain ⟨R1, hR1⟩ : ∃ R1, R1 = List.replicate (vs.length + 1) (PyData.int 0) := ⟨_, rfl⟩
  obtain ⟨R2, hR2⟩ : ∃ R2, R2 = List.replicate (vs.length + 2) PyData.none := ⟨_, rfl⟩
  obtain ⟨R3, hR3⟩ : ∃ R3, R3 = List.replicate (vs.length - 1) (PyData.int 0) := ⟨_, rfl⟩
  have o1 : OdR R1 := hR1 ▸ OdR.rep _ (by omega) rfl fun _ => rfl
  have o2 : OdR R2 := hR2 ▸ OdR.rep _ (by omega) rfl fun _ => rfl
  have o3 : OdR R3 := hR3 ▸ OdR.rep _ (by omega) rfl fun _ => rfl
  rw [← hR1] at a1
  rw [← hR2] at m2
  rw [← hR3] at m3
  have la : lstOf (ob :: (v ++ [Ob.lst [tpD R1, tpD R2]])) (rf (v.length + 1)) = some [tpD R1, tpD R2] := lst_at lst_c
  have lb : lstOf (ob :: (v ++ [Ob.lst [tpD R1, tpD R2]])) (.list [tpD R3]) = some [tpD R3] := rfl
  have eOd : (eB ixD (eV 2) (eCall F__law_draw [] (aC (eV 0) (aC (eB ixD (eLst (aC (eC (.int 2)) (aC (eC (.int 10)) aN))) (eCall F__law_draw [] (aC (eV 0) (aC (eC (.int 2)) aN)))) aN)))) = odE := rfl
  rw [eOd]
  have st1 : sAsg (eLst (aC (eC (.int 0)) (aC (eB ixD (eV 1) (eC (.int 0))) (aC (eU negD (eC (.int 1))) (aC (eC (.bool true)) (aC (eC (.bool false)) (aC (eC .none) (aC (eC (.str "0")) (aC (eTup (aC (eC (.int 0)) aN)) (aC (eLst (aC (eC (.int 0)) aN)) (aC (eB powD (eC (.int 10)) (eC (.int 30))) aN))))))))))) (gN 2) [some (rf 0), some (tgD b vs ws), none, none, none, none] (ob :: v)
      = .nx [some (rf 0), some (tgD b vs ws), some (.list (mnL b)), none, none, none] (ob :: v) := by
    simp only [sAsg, eLst, eTup, eB, eU, eC, eV, aC, aN, List.getElem?_cons_zero, List.getElem?_cons_succ, Oc.bind, Oc.of, tg0, n1, pw, List.length_cons, List.length_nil, Nat.zero_add, Nat.reduceAdd, z1, z10, Oc.on, cond_true, Oc.thenS, gN, List.set_cons_zero, List.set_cons_succ]
    rfl
  have st2 : sAsg (eLstS (aC (eB addD (eB mulD (eTup (aC (eC (.int 0)) aN)) (eCb lenD (aC (eB ixD (eV 1) (eC (.int 1))) aN))) (eTup (aC (eC (.int 0)) aN))) (aC (eB mulD (eTup (aC (eC .none) aN)) (eB addD (eCb lenD (aC (eB ixD (eV 1) (eC (.int 1))) aN)) (eC (.int 2)))) aN))) (gN 3) [some (rf 0), some (tgD b vs ws), some (.list (mnL b)), none, none, none] (ob :: v)
      = .nx [some (rf 0), some (tgD b vs ws), some (.list (mnL b)), some (rf (v.length + 1)), none, none] (ob :: (v ++ [.lst [tpD R1, tpD R2]])) := by
    simp only [sAsg, eLstS, eTup, eB, eCb, eC, eV, aC, aN, List.getElem?_cons_zero, List.getElem?_cons_succ, Oc.bind, Oc.of, tg1, ln, m1, a1, a2, m2, List.length_cons, List.length_nil, Nat.zero_add, Nat.reduceAdd, z1, z2, Oc.on, cond_true, Oc.thenS, gN, List.set_cons_zero, List.set_cons_succ]
    rfl
  have st3 : sAsg (eAdS (eV 3) (eLst (aC (eB mulD (eTup (aC (eC (.int 0)) aN)) (eCb max2D (aC (eC (.int 0)) (aC (eB subD (eCb lenD (aC (eB ixD (eV 1) (eC (.int 1))) aN)) (eC (.int 1))) aN)))) aN))) (gN 3) [some (rf 0), some (tgD b vs ws), some (.list (mnL b)), some (rf (v.length + 1)), none, none] (ob :: (v ++ [.lst [tpD R1, tpD R2]]))
      = .nx [some (rf 0), some (tgD b vs ws), some (.list (mnL b)), some (rf (v.length + 2)), none, none] (ob :: (v ++ [.lst [tpD R1, tpD R2]] ++ [.lst ([R1, R2, R3].map tpD)])) := by
    have el : eLst (aC (eB mulD (eTup (aC (eC (.int 0)) aN)) (eCb max2D (aC (eC (.int 0)) (aC (eB subD (eCb lenD (aC (eB ixD (eV 1) (eC (.int 1))) aN)) (eC (.int 1))) aN)))) aN) [some (rf 0), some (tgD b vs ws), some (.list (mnL b)), some (rf (v.length + 1)), none, none] (ob :: (v ++ [.lst [tpD R1, tpD R2]])) = .ok (.list [tpD R3]) (ob :: (v ++ [.lst [tpD R1, tpD R2]])) := by
      simp only [eLst, eTup, eB, eCb, eC, eV, aC, aN, List.getElem?_cons_zero, List.getElem?_cons_succ, Oc.bind, Oc.of, tg1, ln, s1, mx, m3, List.length_cons, List.length_nil, Nat.zero_add, z1, Oc.on, cond_true]
      rfl
    have lw : (ob :: (v ++ [Ob.lst [tpD R1, tpD R2]])).length = v.length + 2 := by simp
    rw [sAsg, eAdS, eV]
    simp only [List.getElem?_cons_zero, List.getElem?_cons_succ, Oc.bind]
    rw [el]
    simp only [Oc.bind, la, lb, List.length_cons, List.length_nil, Nat.zero_add, Nat.reduceAdd, z3, Oc.on, cond_true, lw, Oc.thenS, gN, List.set_cons_zero, List.set_cons_succ, List.cons_append, List.nil_append, List.map_cons, List.map_nil]
  rw [wS_seq, st1, wS_nx, wS_seq, st2, wS_nx, wS_seq, st3, wS_nx]
  obtain ⟨v1, hv1⟩ : ∃ v1, v1 = v ++ [Ob.lst [tpD R1, tpD R2]] := ⟨_, rfl⟩
  have lv1 : v.length + 2 = v1.length + 1 := by rw [hv1, List.length_append, List.length_singleton]
  rw [← hv1, lv1]
  have it : ∀ ρ W, iR1 (aC (eC (.int 6)) aN) ρ W = .ok (rgD 0 6) W := fun ρ W => by
    have c : c62 6 = true := by decide
    simp only [iR1, aC, aN, eC, Oc.bind, Oc.on, c, cond_true]
  have r6 : (rgD 0 6).length = 6 := by simp [rgD]
  rw [wS_seq]
  unfold sFor
  rw [it]
  simp only [Oc.thenS]
  refine wS_forL (fun i ρ W => ∃ (L : List (List PyData)) (ob' : Ob) (y4 y5 : Option PyData), W = ob' :: (v1 ++ [.lst (L.map tpD)]) ∧ ρ = [some (rf 0), some (tgD b vs ws), some (.list (mnL b)), some (rf (v1.length + 1)), y4, y5] ∧ L.length = 3 + i ∧ (∀ ds ∈ L, OdR ds) ∧ RdOk ob' (n + 6 * i)) _ 0 _ _ ⟨[R1, R2, R3], ob, none, none, rfl, rfl, rfl, (fun ds hd => by
    simp only [List.mem_cons, List.not_mem_nil, or_false] at hd
    rcases hd with rfl | rfl | rfl
    · exact o1
    · exact o2
    · exact o3), h⟩ ?_ ?_
  · rintro i d ρ W hj ⟨L, ob1, y4, y5, rfl, rfl, hL, hod, h1⟩
    rw [Nat.zero_add] at *
    have hi := (List.getElem?_eq_some_iff.mp hj).1
    rw [r6] at hi
    have g : (ob1 :: (v1 ++ [Ob.lst (L.map tpD)]))[v1.length + 1]? = some (.lst (L.map tpD)) := lst_c
    have lo := lst_at g
    have itn : itD (.tuple (vs.map PyData.str)) = some (vs.map .str) := rfl
    simp only [wipeE, sRet, sExp, sIf, sAsg, sFor, gN, gT, gC, gZ, eAn, eOr, eNo, eIf, eIsi, eV, eC, eB, eU, eCb, eCall, eSl, oN, oS, eTup, eLst, aN, aC, eLc, eCh, tAn, tOr', tNo, tB', tTr, tYs, iE, iZ, iR1, iR2, sNil, wO_bind, wO_ok, wO_onE, wO_ofif, wO_some, wS_seq, wS_then, wS_nx, wS_rt, cond_true, cond_false, List.append_nil, List.nil_append, List.cons_append, List.getElem?_cons_zero, List.getElem?_cons_succ, List.set_cons_zero, List.set_cons_succ, eLm, lo, Option.isSome_some, Oc.on, tg1, itn]
    refine wO_mono (od_row (b := b) (V := v1 ++ [.lst (L.map tpD)]) hv2 h1 (by omega)) ?_
    rintro acc W ⟨ob2, rfl, ho, h2⟩
    have tp : ∀ W L, tupleD W [.list L] = some (.tuple L) := fun _ _ => rfl
    have g2 : (ob2 :: (v1 ++ [Ob.lst (L.map tpD)]))[v1.length + 1]? = some (.lst (L.map tpD)) := lst_c
    have u := upd_at (k := fun xs => apL xs [tpD acc]) (d := .none) (ys := L.map tpD ++ [tpD acc]) g2 (by simp only [apL]; rw [if_pos (by rw [sizeLine_eq, List.length_map]; omega)])
    have st : (ob2 :: (v1 ++ [Ob.lst (L.map tpD)])).set (v1.length + 1) (.lst (L.map tpD ++ [tpD acc])) = ob2 :: (v1 ++ [.lst ((L ++ [acc]).map tpD)]) := by rw [set_c, List.map_append]; rfl
    rw [st] at u
    simp only [tpD] at u
    simp only [wipeE, sRet, sExp, sIf, sAsg, sFor, gN, gT, gC, gZ, eAn, eOr, eNo, eIf, eIsi, eV, eC, eB, eU, eCb, eCall, eSl, oN, oS, eTup, eLst, aN, aC, eLc, eCh, tAn, tOr', tNo, tB', tTr, tYs, iE, iZ, iR1, iR2, sNil, wO_bind, wO_ok, wO_onE, wO_ofif, wO_some, wS_seq, wS_then, wS_nx, wS_rt, cond_true, cond_false, List.append_nil, List.nil_append, List.cons_append, List.getElem?_cons_zero, List.getElem?_cons_succ, List.set_cons_zero, List.set_cons_succ, tp]
    simp only [tpD, u, wO_ok]
    refine ⟨L ++ [acc], ob2, some d, y5, rfl, rfl, by rw [List.length_append, List.length_singleton]; omega, fun ds hd => ?_, h2.mono (by omega)⟩
    rcases List.mem_append.mp hd with hd | hd
    · exact hod ds hd
    · rw [List.mem_singleton] at hd; subst hd; exact ho
  · rintro ρ W ⟨L, ob1, y4, y5, rfl, rfl, hL, hod, h1⟩
    rw [Nat.zero_add, r6] at *
    have g : (ob1 :: (v1 ++ [Ob.lst (L.map tpD)]))[v1.length + 1]? = some (.lst (L.map tpD)) := lst_c
    have lo : locOf (rf (v1.length + 1)) = some (v1.length + 1) := rfl
    have fz : fzD (ob1 :: (v1 ++ [Ob.lst (L.map tpD)])) (rf (v1.length + 1)) = some (.list (L.map tpD), ob1 :: (v1 ++ [.dead])) := by
      simp only [fzD, lo, g, set_c]
    simp only [sRet, eFz, eV, List.getElem?_cons_zero, List.getElem?_cons_succ, Oc.bind, fz, Oc.thenS, wS_rt]
    exact ⟨ob1, [.lst [tpD R1, tpD R2], .dead], _, by rw [hv1]; simp, h1, fun k => by rw [bnd]; exact bndL_od hod k, L, rfl, by omega, hod, h1⟩
end
end Tk

set_option Elab.async false
set_option linter.all false
set_option maxRecDepth 100000
set_option maxHeartbeats 4000000
namespace Tk
open PySem L2 Td Tg Tt
variable {N : Ev → Ws → Prop} {R : PyData → Ws → Prop}
theorem NU_wt : ∀ n ∈ NU, n.length ≤ 9 := by decide +kernel
theorem HU_wt : ∀ n ∈ HU, n.length ≤ 8 := by decide +kernel
theorem wtA_strs : ∀ ns : List Str, (∀ n ∈ ns, n ∈ NU) → wtA (ns.map .str) ≤ 10 * ns.length
  | [], _ => by simp [wtA]
  | n :: ns, h => by
    have h1 := NU_wt n (h n List.mem_cons_self)
    have h2 := wtA_strs ns fun x hx => h x (List.mem_cons_of_mem _ hx)
    simp only [List.map_cons, wtA, wt, List.length_cons]; omega
mutual
theorem wt_tr : ∀ t : Tr, VT t → wt (toD t) ≤ 140 * nds t
  | .mk ns h ps, v => by
    have h1 := wtA_strs ns fun n hn => v.1.subset hn
    have h2 : ns.length ≤ 12 := v.1.length_le
    have h3 := HU_wt h v.2.1
    have h4 := wtA_trs ps v.2.2
    simp only [toD, wt, wtA, nds]; omega
theorem wtA_trs : ∀ ps : List Tr, VTA ps → wtA (toDs ps) ≤ 140 * ndsA ps
  | [], _ => by simp [toDs, wtA]
  | p :: ps, v => by
    have h1 := wt_tr p v.1
    have h2 := wtA_trs ps v.2
    simp only [toDs, wtA, ndsA]; omega
end
theorem ne_str (w : Ws) (z : Str) : neD w (.str z) (.str z) = some (.bool false) := by
  unfold neD
  split
  · simp [PyData.eqv]
  · simp [strsE]
theorem stp_mem {xs : List PyData} {lo hi : Option Int} {c : Int} {x : PyData} (h : x ∈ stpL xs lo hi c) : x ∈ xs := by
  unfold stpL at h
  obtain ⟨i, _, hi⟩ := List.mem_filterMap.mp h
  exact List.mem_of_getElem? hi
noncomputable abbrev TT := Nat × List Str × List Wd
noncomputable def tgT (t : TT) : PyData := tgD t.1 t.2.1 t.2.2
noncomputable def TGd (t : TT) : Prop := Tong t.1 t.2.1 t.2.2
noncomputable def fixL : List TT :=
  [(2, ["x", "y"], [("and", 2, [0, 0, 0, 1]), ("no", 0, [0]), ("not", 1, [1, 0]), ("or", 2, [0, 1, 1, 1])]),
   (1, [], [("no", 0, [0]), ("up", 1, [0])]),
   (3, ["x", "y"], [("max", 2, [0, 1, 2, 1, 1, 2, 2, 2, 2]), ("up", 1, [1, 2, 2])])]
theorem fixed_tongues_ok (ob : Ob) : F__law_fixed_tongues [] [ob] = .ok (rf 1) [ob, .lst (fixL.map tgT)] := by
  have z0 : szOk 0 = true := szOk_of (by omega)
  have z1 : szOk 1 = true := szOk_of (by omega)
  have z2 : szOk 2 = true := szOk_of (by omega)
  have z3 : szOk 3 = true := szOk_of (by omega)
  have z4 : szOk 4 = true := szOk_of (by omega)
  have z9 : szOk 9 = true := szOk_of (by omega)
  have main : wS (fun _ _ => False) (fun d W => d = rf 1 ∧ W = [ob, .lst (fixL.map tgT)]) (b__law_fixed_tongues [none, none, none] [ob]) := by
    unfold b__law_fixed_tongues
    simp only [wipeE, sRet, sExp, sIf, sAsg, sFor, gN, gT, gC, gZ, eAn, eOr, eNo, eIf, eIsi, eV, eC, eB, eU, eCb, eCall, eSl, oN, oS, eTup, eLst, aN, aC, eLc, eCh, tAn, tOr', tNo, tB', tTr, tYs, iE, iZ, iR1, iR2, sNil, wO_bind, wO_ok, wO_onE, wO_ofif, wO_some, wS_seq, wS_then, wS_nx, wS_rt, cond_true, cond_false, List.append_nil, List.nil_append, List.cons_append, List.getElem?_cons_zero, List.getElem?_cons_succ, List.set_cons_zero, List.set_cons_succ, eLstS, Oc.on, List.length_cons, List.length_nil, Nat.zero_add, Nat.reduceAdd, z0, z1, z2, z3, z4, z9]
    exact ⟨trivial, rfl⟩
  obtain ⟨d, W, e, rfl, rfl⟩ := wS_rtE main
  show leave [ob].length (b__law_fixed_tongues [none, none, none] [ob]) = _
  rw [e]
  have hb : bnd 1 (rf 1) = false := rfl
  simp only [leave, List.length_cons, List.length_nil, Nat.zero_add, hb, Bool.and_false]
  rfl
theorem wO_leaveD {n : Nat} {o : Os} {x : PyData} (h : wS (fun _ _ => False) (fun d _ => d = x) o) : ∃ wf, leave n o = .ok x wf := by
  obtain ⟨d, W, rfl, rfl⟩ := wS_rtE h
  unfold leave
  dsimp only
  split
  · exact ⟨_, rfl⟩
  · exact ⟨_, rfl⟩
theorem rd_ok (ns : List Int) (h : ns.length ≤ 63) : RdOk (rd ns 0 0 0) 0 := ⟨⟨ns, 0, 0, 0, rfl, h, by omega, by omega, by omega, by omega⟩⟩
theorem tgs_bnd (L : List TT) (n : Nat) : bndO n (.lst (L.map tgT)) = true := by
  show bndA n (L.map tgT) = true
  induction L with
  | nil => rfl
  | cons t L ih => simp only [List.map_cons, bndA, ih, tgT, bnd_tgD, Bool.and_self]
theorem pl_tgs (L : List TT) : Pl [.lst (L.map tgT)] := fun x hx n => by
  rw [List.mem_singleton] at hx; subst hx; exact tgs_bnd L n
theorem asg_of {f : FE} {i : Nat} {ρ : Ev} {w w1 : Ws} {d : PyData} (e : f ρ w = .ok d w1) (h : N (ρ.set i (some d)) w1) : wS N R (sAsg f (gN i) ρ w) := by
  rw [wS_Asg, e]; exact .mk h
end Tk

set_option Elab.async false
set_option linter.all false
set_option maxRecDepth 100000
set_option maxHeartbeats 4000000
namespace Tk
open PySem L2 Td Tg Tt
/-! ### the fixed languages; what the law writes down -/
noncomputable def tgBk (t : TT) : Bool := decide (1 ≤ t.1) && decide (t.1 ≤ 3) && (t.2.1.all fun z => decide (z ∈ HU)) && decide (t.2.1.length ≤ 3) &&
  (t.2.2.all fun x => decide (x.1 ∈ HU) && decide (x.2.1 ≤ 2) && decide (x.2.2.length ≤ 9) && (x.2.2.all fun k => decide (k ≤ 3)) && decide (x.2.2.length = t.1 ^ x.2.1) && (x.2.2.all fun k => decide (k < t.1)) && !decide (x.1 ∈ t.2.1)) &&
  decide (1 ≤ t.2.2.length) && decide (t.2.2.length ≤ 6) && (decide (t.2.1 ≠ []) || t.2.2.any fun x => decide (x.2.1 = 0)) && decide (t.2.2.map (·.1)).Nodup && decide t.2.1.Nodup
theorem tgBk_of {t : TT} (h : tgBk t = true) : TGd t := by
  simp only [tgBk, Bool.and_eq_true, decide_eq_true_eq, List.all_eq_true, Bool.or_eq_true, List.any_eq_true, Bool.not_eq_true', decide_eq_false_iff_not] at h
  obtain ⟨⟨⟨⟨⟨⟨⟨⟨⟨a, b⟩, c⟩, d⟩, e⟩, f⟩, g⟩, i⟩, j⟩, k⟩ := h
  exact ⟨a, b, c, d, fun x hx => ⟨(e x hx).1.1.1.1.1.1, (e x hx).1.1.1.1.1.2, (e x hx).1.1.1.1.2, (e x hx).1.1.1.2⟩, f, g, i, fun x hx => ⟨(e x hx).1.1.2, (e x hx).1.2⟩, j, k, fun x hx => (e x hx).2⟩
theorem fix_all : fixL.all tgBk = true := by decide +kernel
theorem fix_tg : ∀ t ∈ fixL, TGd t := fun t h => tgBk_of (List.all_eq_true.mp fix_all t h)
section
variable {b : Nat} {vs : List Str} {ws : List Wd} {w : Ws}
theorem wtA_le {n : Nat} : ∀ {L : List PyData}, (∀ d ∈ L, wt d ≤ n) → wtA L ≤ L.length * n
  | [], _ => by simp [wtA]
  | d :: L, h => by
    have h1 := h d (by simp)
    have h2 := wtA_le (L := L) fun x hx => h x (by simp [hx])
    rw [wtA, List.length_cons, Nat.add_mul, Nat.one_mul]; omega
structure Sm' (D W : Nat) (d : PyData) : Prop where
  ok : okD d = true
  dp : d.depth ≤ D
  wt : wt d ≤ W
theorem Sm'.mono {D W D' W' : Nat} {d : PyData} (h : Sm' D W d) (hD : D ≤ D') (hW : W ≤ W') : Sm' D' W' d := ⟨h.ok, Nat.le_trans h.dp hD, Nat.le_trans h.wt hW⟩
theorem Sm'.tup {D W : Nat} {ds : List PyData} (h : ∀ d ∈ ds, Sm' D W d) : Sm' (D + 1) (1 + ds.length * W) (.tuple ds) := by
  refine ⟨okDA_iff.mpr fun d hd => (h d hd).ok, ?_, ?_⟩
  · have := depthA_le (n := D) fun d hd => (h d hd).dp
    simp only [PyData.depth]; omega
  · have := wtA_le (n := W) fun d hd => (h d hd).wt
    simp only [Td.wt]; omega
theorem Sm'.lst {D W : Nat} {ds : List PyData} (h : ∀ d ∈ ds, Sm' D W d) : Sm' (D + 1) (1 + ds.length * W) (.list ds) := by
  refine ⟨okDA_iff.mpr fun d hd => (h d hd).ok, ?_, ?_⟩
  · have := depthA_le (n := D) fun d hd => (h d hd).dp
    simp only [PyData.depth]; omega
  · have := wtA_le (n := W) fun d hd => (h d hd).wt
    simp only [Td.wt]; omega
theorem Sm'.int (i : Int) (h : i.natAbs ≤ 1000) : Sm' 1 20 (.int i) := by
  have t62 : (1000 : Nat) < ten62 := by decide +kernel
  exact ⟨by show decide (i.natAbs < ten62) = true; rw [decide_eq_true (by omega)], by simp [PyData.depth], by show 1 ≤ 20; omega⟩
theorem Sm'.hu {z : Str} (h : z ∈ HU) : Sm' 1 20 (.str z) := ⟨by simp only [okD]; exact HU_a h, by simp [PyData.depth], by have := HU_wt z h; show 1 + z.length ≤ 20; omega⟩
theorem Sm'.rp {D W : Nat} {d : PyData} (h : Sm' D W d) (w : Ws) (hD : D ≤ 60) (hW : W ≤ 200000) : reprD w [d] = some (.str d.shown) := repr_of w h.ok (by have := h.dp; omega) (by have := h.wt; omega)
theorem Sm'.lit {z : Str} (h1 : ascS z = true) (h2 : z.length ≤ 10) : Sm' 1 20 (.str z) := ⟨by simp only [okD]; exact h1, by simp [PyData.depth], by show 1 + z.length ≤ 20; omega⟩
theorem tg_sm (hT : Tong b vs ws) : Sm' 5 5000 (tgD b vs ws) := by
  have h3 := hT.b3
  have w1 : ∀ x ∈ ws, Sm' 3 604 (wD x) := fun x hx => by
    obtain ⟨a1, a2, a3, a4⟩ := hT.w1 x hx
    have tb : Sm' 2 200 (.tuple (natsD x.2.2)) := by
      have := Sm'.tup (D := 1) (W := 20) (ds := natsD x.2.2) fun d hd => by
        obtain ⟨k, hk, rfl⟩ := List.mem_map.mp hd
        exact Sm'.int _ (by have := a4 k hk; omega)
      refine this.mono (by omega) ?_
      have : (natsD x.2.2).length * 20 ≤ 9 * 20 := Nat.mul_le_mul_right _ (by rw [natsD, List.length_map]; exact a3)
      omega
    have := Sm'.tup (D := 2) (W := 200) (ds := [.str x.1, .int (x.2.1 : Int), .tuple (natsD x.2.2)]) fun d hd => by
      simp only [List.mem_cons, List.not_mem_nil, or_false] at hd
      rcases hd with rfl | rfl | rfl
      · exact (Sm'.hu a1).mono (by omega) (by omega)
      · exact (Sm'.int _ (by omega)).mono (by omega) (by omega)
      · exact tb
    exact this.mono (by omega) (by simp only [List.length_cons, List.length_nil]; omega)
  have w2 : Sm' 4 3700 (.tuple (ws.map wD)) := by
    have := Sm'.tup (D := 3) (W := 604) (ds := ws.map wD) fun d hd => by
      obtain ⟨x, hx, rfl⟩ := List.mem_map.mp hd
      exact w1 x hx
    refine this.mono (by omega) ?_
    have : (ws.map wD).length * 604 ≤ 6 * 604 := Nat.mul_le_mul_right _ (by rw [List.length_map]; exact hT.w2)
    omega
  have v : Sm' 2 70 (.tuple (vs.map .str)) := by
    have := Sm'.tup (D := 1) (W := 20) (ds := vs.map PyData.str) fun d hd => by
      obtain ⟨x, hx, rfl⟩ := List.mem_map.mp hd
      exact Sm'.hu (hT.v1 x hx)
    refine this.mono (by omega) ?_
    have : (vs.map PyData.str).length * 20 ≤ 3 * 20 := Nat.mul_le_mul_right _ (by rw [List.length_map]; exact hT.v2)
    omega
  refine ⟨?_, ?_, ?_⟩
  · exact okDA_iff.mpr fun d hd => by
      simp only [List.mem_cons, List.not_mem_nil, or_false] at hd
      rcases hd with rfl | rfl | rfl
      · exact (Sm'.int (b : Int) (by omega)).ok
      · exact v.ok
      · exact w2.ok
  · have := depthA_le (n := 4) (ds := [.int (b : Int), .tuple (vs.map .str), .tuple (ws.map wD)]) fun d hd => by
      simp only [List.mem_cons, List.not_mem_nil, or_false] at hd
      rcases hd with rfl | rfl | rfl
      · exact Nat.le_trans (Sm'.int (b : Int) (by omega)).dp (by omega)
      · exact Nat.le_trans v.dp (by omega)
      · exact w2.dp
    simp only [tgD, PyData.depth]; omega
  · have h1 := v.wt
    have h2 := w2.wt
    have e : wt (tgD b vs ws) = 1 + (1 + (wt (.tuple (vs.map .str)) + (wt (.tuple (ws.map wD)) + 0))) := rfl
    rw [e]; omega
theorem pair_sm (hT : Tong b vs ws) {t : Tr} (ht : VT t) (hn : nds t ≤ 13) : Sm' 31 10001 (.list [tgD b vs ws, toD t]) := by
  have h1 := hgt_nds t
  have h2 := dp_toD t
  have h3 := wt_tr t ht
  have := Sm'.lst (D := 30) (W := 5000) (ds := [tgD b vs ws, toD t]) fun d hd => by
    simp only [List.mem_cons, List.not_mem_nil, or_false] at hd
    rcases hd with rfl | rfl
    · exact (tg_sm hT).mono (by omega) (by omega)
    · exact ⟨okD_toD ht, by omega, by omega⟩
  exact this
theorem tab_sm (hT : Tong b vs ws) {t : Tr} (hl : Lw vs ws t) : Sm' 2 600 (tabD b vs ws t) := by
  have h3 := hT.b3
  have rl : (rws b vs.length).length ≤ 27 := by
    have := rwsF_len b vs.length [[]]
    rw [List.length_singleton, Nat.one_mul] at this
    unfold rws
    rw [this]; exact pw27 hT hT.v2
  have := Sm'.tup (D := 1) (W := 20) (ds := (rws b vs.length).map fun r => PyData.int (tev b ws (vs.zip r) t : Int)) fun d hd => by
    obtain ⟨r, hr, rfl⟩ := List.mem_map.mp hd
    obtain ⟨r1, r2⟩ := rws_mem hr
    have := tev_lt hT (rowK r1 r2) t hl
    exact Sm'.int _ (by omega)
  refine Sm'.mono (d := tabD b vs ws t) this (by omega) ?_
  have : ((rws b vs.length).map fun r => PyData.int (tev b ws (vs.zip r) t : Int)).length * 20 ≤ 27 * 20 := Nat.mul_le_mul_right _ (by rw [List.length_map]; exact rl)
  omega
theorem fB_lt {b : Nat} : ∀ {ds : List PyData} {i k : Nat}, fB b ds i = some k → k < i + ds.length
  | [], _, _, h => by cases h
  | d :: ds, i, k, h => by
    unfold fB at h
    split at h
    · have := fB_lt h
      rw [List.length_cons]; omega
    · cases h
      rw [List.length_cons]; omega
theorem lits_d : ascS "use" = true ∧ ascS "many" = true ∧ ascS "value" = true ∧ ascS "result" = true ∧ ("use" : Str).length ≤ 10 ∧ ("many" : Str).length ≤ 10 ∧ ("value" : Str).length ≤ 10 ∧ ("result" : Str).length ≤ 10 := by decide +kernel
theorem due_sm (hT : Tong b vs ws) {t : Tr} (hl : Lw vs ws t) {ds : List PyData} (hs : ds.length ≤ 100) : Sm' 2 61 (dueD b vs ws t ds) := by
  obtain ⟨l1, l2, l3, l4, m1, m2, m3, m4⟩ := lits_d
  have h3 := hT.b3
  unfold dueD
  split
  · rename_i hn
    cases e : fB b ds 0 with
    | some k =>
      have := fB_lt e
      refine (Sm'.tup (D := 1) (W := 20) fun d hd => ?_).mono (by omega) (by simp only [List.length_cons, List.length_nil]; omega)
      simp only [List.mem_cons, List.not_mem_nil, or_false] at hd
      rcases hd with rfl | rfl | rfl
      · exact Sm'.lit l1 m1
      · exact Sm'.lit l3 m3
      · exact Sm'.int _ (by omega)
    | none =>
      obtain ⟨row, rfl, hr⟩ := fB_none e
      have hlr : row.length = vs.length := by rw [← hn, natsD, List.length_map]
      have := tev_lt hT (rowK hlr hr) t hl
      simp only [nat_row]
      refine (Sm'.tup (D := 1) (W := 20) fun d hd => ?_).mono (by omega) (by simp only [List.length_cons, List.length_nil]; omega)
      simp only [List.mem_cons, List.not_mem_nil, or_false] at hd
      rcases hd with rfl | rfl
      · exact Sm'.lit l4 m4
      · exact Sm'.int _ (by omega)
  · refine (Sm'.tup (D := 1) (W := 20) fun d hd => ?_).mono (by omega) (by simp only [List.length_cons, List.length_nil]; omega)
    simp only [List.mem_cons, List.not_mem_nil, or_false] at hd
    rcases hd with rfl | rfl | rfl
    · exact Sm'.lit l1 m1
    · exact Sm'.lit l2 m2
    · exact Sm'.int _ (by decide)
/-! one row -/
noncomputable def rowB : FS := sSeq (sAsg (Te.eOut outF__law_outcome (eCall F_value_of [] (aC (eV 4) (aC (eV 6) (aC (eV 8) aN))))) (gN 9))
    (sIf (tB' (eB neD (eCb reprD (aC (eV 9) aN)) (eCb reprD (aC (eCall F__law_due [] (aC (eV 4) (aC (eV 6) (aC (eV 8) aN)))) aN)))) (sRet (eC (.bool false))) sNil)
theorem ne_self (w : Ws) (a : Str) : neD w (.str a) (.str a) = some (.bool false) := ne_str w a
theorem row_ok (hT : Tong b vs ws) (hc : Cl w) {t : Tr} (hh : hgt t < 14) (hv : VH t) (hl : Lw vs ws t) {ds : List PyData} (hd : ∀ d ∈ ds, nz d = true) (hs : ds.length ≤ 100) {x0 x1 x2 x3 x5 x7 x9 : Option PyData} :
    ∃ y9, rowB [x0, x1, x2, x3, some (tgD b vs ws), x5, some (toD t), x7, some (.tuple ds), x9] w = .nx [x0, x1, x2, x3, some (tgD b vs ws), x5, some (toD t), x7, some (.tuple ds), y9] w := by
  refine ⟨some (dueD b vs ws t ds), ?_⟩
  have vo := vo_ok hT hc hh hl hd (f := eCall F_value_of [] (aC (eV 4) (aC (eV 6) (aC (eV 8) aN)))) (ρ := [x0, x1, x2, x3, some (tgD b vs ws), x5, some (toD t), x7, some (.tuple ds), x9]) (by
    simp only [eCall, aC, aN, eV, List.getElem?_cons_zero, List.getElem?_cons_succ, Oc.bind, List.append_nil])
  have du := due_ok (w := w) hT hh hv hl hd hs
  have rp := (due_sm hT hl hs).rp w (by omega) (by omega)
  generalize dueD b vs ws t ds = DD at *
  generalize tgD b vs ws = T at *
  generalize toD t = X at *
  unfold rowB
  rw [seq_nx (ρ1 := [x0, x1, x2, x3, some T, x5, some X, x7, some (.tuple ds), some DD]) (w1 := w) (by
    rw [sAsg, vo]
    rfl)]
  simp only [sIf, tB', eB, eCb, eCall, eC, aC, aN, eV, List.getElem?_cons_zero, List.getElem?_cons_succ, Oc.bind, Oc.of, List.append_nil, du, rp, ne_self, Oc.thenS, cond_false, sNil]
theorem row_loop (hT : Tong b vs ws) (hc : Cl w) {t : Tr} (hh : hgt t < 14) (hv : VH t) (hl : Lw vs ws t) {x0 x1 x2 x3 x5 x7 : Option PyData} : ∀ (L : List (List PyData)) (x8 x9 : Option PyData), (∀ ds ∈ L, (∀ d ∈ ds, nz d = true) ∧ ds.length ≤ 100) →
    ∃ y8 y9, forL (gN 8) rowB (L.map tpD) [x0, x1, x2, x3, some (tgD b vs ws), x5, some (toD t), x7, x8, x9] w = .nx [x0, x1, x2, x3, some (tgD b vs ws), x5, some (toD t), x7, y8, y9] w
  | [], x8, x9, _ => ⟨x8, x9, rfl⟩
  | ds :: L, x8, x9, h => by
    obtain ⟨h1, h2⟩ := h ds (by simp)
    obtain ⟨y9, e1⟩ := row_ok hT hc hh hv hl h1 h2 (x0 := x0) (x1 := x1) (x2 := x2) (x3 := x3) (x5 := x5) (x7 := x7) (x9 := x9)
    obtain ⟨z8, z9, e⟩ := row_loop hT hc hh hv hl (x0 := x0) (x1 := x1) (x2 := x2) (x3 := x3) (x5 := x5) (x7 := x7) L (some (tpD ds)) y9 fun q hq => h q (by simp [hq])
    refine ⟨z8, z9, ?_⟩
    have e1 : rowB [x0, x1, x2, x3, some (tgD b vs ws), x5, some (toD t), x7, some (tpD ds), x9] w = .nx [x0, x1, x2, x3, some (tgD b vs ws), x5, some (toD t), x7, some (tpD ds), y9] w := e1
    rw [List.map_cons, forL]
    simp only [gN, List.set_cons_zero, List.set_cons_succ]
    rw [e1]
    exact e
end
end Tk

set_option Elab.async false
set_option linter.all false
set_option maxRecDepth 100000
set_option maxHeartbeats 4000000
namespace Tk
open PySem L2 Td Tg Tt
/-! ### one turn of the law -/
theorem bounds3 (n j : Nat) : sliceBounds (some (j : Int)) none (some 3) n = (max 0 (min (j : Int) n), (n : Int), 3) := by
  unfold sliceBounds
  have h : ¬ ((j : Int) < 0) := by omega
  have h2 : (3 : Int) > 0 := by omega
  simp [h, h2]
theorem stp_len {xs : List PyData} {j : Nat} : (stpL xs (some (j : Int)) none 3).length ≤ xs.length := by
  unfold stpL
  refine Nat.le_trans (List.length_filterMap_le _ _) ?_
  unfold stpIx
  rw [bounds3]
  refine sliceRange_length_le _ _ _ _ (fun _ => ⟨?_, Int.le_refl _⟩) fun hc => absurd (show (3 : Int) > 0 by omega) hc
  dsimp only
  omega
theorem as_tp {P : List PyData → Prop} : ∀ {L : List PyData}, (∀ x ∈ L, ∃ ds, x = tpD ds ∧ P ds) → ∃ M : List (List PyData), L = M.map tpD ∧ ∀ ds ∈ M, P ds
  | [], _ => ⟨[], rfl, fun ds h => nomatch h⟩
  | x :: L, h => by
    obtain ⟨ds, rfl, hp⟩ := h x (by simp)
    obtain ⟨M, rfl, hM⟩ := as_tp (L := L) fun y hy => h y (by simp [hy])
    exact ⟨ds :: M, rfl, fun q hq => by
      rcases List.mem_cons.mp hq with rfl | hq
      · exact hp
      · exact hM q hq⟩
theorem nz_nats (row : List Nat) : ∀ d ∈ natsD row, nz d = true := fun d hd => by
  obtain ⟨k, _, rfl⟩ := List.mem_map.mp hd
  rfl
noncomputable def t1 : FS := sAsg (eCall (F__law_random_tree 14) [] (aC (eV 1) (aC (eV 4) (aC (eLstS (aC (eB addD (eC (.int 1)) (eCall F__law_draw [] (aC (eV 1) (aC (eC (.int 12)) aN)))) aN)) aN)))) (gN 6)
noncomputable def t2 : FS := sAsg (eCb reprD (aC (eLst (aC (eV 4) (aC (eV 6) aN))) aN)) (gN 7)
noncomputable def t3 : FS := sIf (tB' (eB neD (eCb reprD (aC (eCall F_table_of [] (aC (eV 4) (aC (eV 6) aN))) aN)) (eCb reprD (aC (eCb tupleD (aC (eLc (iE (eV 5)) (gN 8) tYs (eCall (F__law_worth 14) [] (aC (eV 4) (aC (eV 6) (aC (eV 8) aN)))) [8]) aN)) aN)))) (sRet (eC (.bool false))) sNil
noncomputable def t4 : FS := sFor (iE (eB addD (eSt (eV 5) (oS (eCall F__law_draw [] (aC (eV 1) (aC (eC (.int 3)) aN)))) oN 3) (eCall F__law_odd_rows [] (aC (eV 1) (aC (eV 4) aN))))) (gN 8) rowB
noncomputable def t5 : FS := sIf (tB' (eB neD (eCb reprD (aC (eLst (aC (eV 4) (aC (eV 6) aN))) aN)) (eV 7))) (sRet (eC (.bool false))) sNil
noncomputable def turnB : FS := sSeq t1 (sSeq t2 (sSeq t3 (sSeq t4 t5)))
section
variable {b : Nat} {vs : List Str} {ws : List Wd}
theorem rws_len27 (hT : Tong b vs ws) : (rws b vs.length).length ≤ 27 := by
  have := rwsF_len b vs.length [[]]
  rw [List.length_singleton, Nat.one_mul] at this
  unfold rws
  rw [this]; exact pw27 hT hT.v2
theorem turn_ok (hT : Tong b vs ws) {ob : Ob} {v : Ws} {n : Nat} (h : RdOk ob n) (hv : Pl v) (hn : n + 1000 < 1000000) {x0 x2 x3 x6 x7 x8 x9 : Option PyData} :
    ∃ y6 y7 y8 y9 ob' v', turnB [x0, some (rf 0), x2, x3, some (tgD b vs ws), some (.list ((rws b vs.length).map rwD)), x6, x7, x8, x9] (ob :: v) = .nx [x0, some (rf 0), x2, x3, some (tgD b vs ws), some (.list ((rws b vs.length).map rwD)), y6, y7, y8, y9] (ob' :: v') ∧ Pl v' ∧ RdOk ob' (n + 400) := by
  have z1 : szOk 1 = true := szOk_of (by omega)
  have z2 : szOk 2 = true := szOk_of (by omega)
  obtain ⟨d, W, e1, k, ob1, rfl, hk, rfl, h1⟩ := wO_ex.mp (draw_c (v := v) (m := 12) h (by omega) (by omega) (by omega))
  have hk : k < 12 := by omega
  have pv1 : Pl (v ++ [room (k + 1)]) := pl_app hv (pl_one (room_bnd _))
  obtain ⟨d, W, e2, ob2, v2, rfl, t, b', kk, rfl, rfl, ⟨vt, lw⟩, hkb, hnd, h2⟩ := wO_ex.mp (rtree_w hT 14 (ob := ob1) (v := v ++ [room (k + 1)]) (n := n + 1) (r := v.length) (b := k + 1) h1 pv1 (by simp) (by omega) (by omega) (by omega) (by omega))
  have pv2 : Pl ((v ++ [room (k + 1)]).set v.length (room b')) := pl_set pv1 (room_bnd _)
  generalize (v ++ [room (k + 1)]).set v.length (room b') = v2 at *
  have hnd13 : nds t ≤ 13 := by omega
  have hh : hgt t < 14 := by have := hgt_nds t; omega
  have vh := VT.vh t vt
  have c2 : Cl (ob2 :: v2) := cl_rd h2 pv2
  have tab := table_ok (w := ob2 :: v2) hT c2 hh lw
  have sm1 := pair_sm hT vt hnd13
  have rp1 := fun W => sm1.rp W (by omega) (by omega)
  have rp2 := (tab_sm hT lw).rp (ob2 :: v2) (by omega) (by omega)
  have rl := rws_len27 hT
  have s1 : t1 [x0, some (rf 0), x2, x3, some (tgD b vs ws), some (.list ((rws b vs.length).map rwD)), x6, x7, x8, x9] (ob :: v) = .nx [x0, some (rf 0), x2, x3, some (tgD b vs ws), some (.list ((rws b vs.length).map rwD)), some (toD t), x7, x8, x9] (ob2 :: v2) := by
    have el : eLstS (aC (eB addD (eC (.int 1)) (eCall F__law_draw [] (aC (eV 1) (aC (eC (.int 12)) aN)))) aN) [x0, some (rf 0), x2, x3, some (tgD b vs ws), some (.list ((rws b vs.length).map rwD)), x6, x7, x8, x9] (ob :: v) = .ok (rf (v.length + 1)) (ob1 :: (v ++ [room (k + 1)])) := by
      have ad : ∀ W, addD W (.int 1) (.int (k : Int)) = some (.int ((k + 1 : Nat) : Int)) := fun W => by
        show some (PyData.int (1 + (k : Int))) = _
        congr 2; omega
      simp only [eLstS, eB, eC, eCall, aC, aN, eV, List.getElem?_cons_zero, List.getElem?_cons_succ, Oc.bind, Oc.of, List.append_nil, e1, ad, List.length_cons, List.length_nil, Nat.zero_add, z1, Oc.on, cond_true, List.cons_append, room]
    rw [t1, sAsg, eCall, aC, eV]
    simp only [List.getElem?_cons_zero, List.getElem?_cons_succ, Oc.bind]
    rw [aC, eV]
    simp only [List.getElem?_cons_zero, List.getElem?_cons_succ, Oc.bind]
    rw [aC, el]
    simp only [Oc.bind, aN, List.append_nil, e2, Oc.thenS, gN, List.set_cons_zero, List.set_cons_succ]
  generalize hSV : (PyData.list [tgD b vs ws, toD t]).shown = SV at *
  have s2 : t2 [x0, some (rf 0), x2, x3, some (tgD b vs ws), some (.list ((rws b vs.length).map rwD)), some (toD t), x7, x8, x9] (ob2 :: v2) = .nx [x0, some (rf 0), x2, x3, some (tgD b vs ws), some (.list ((rws b vs.length).map rwD)), some (toD t), some (.str SV), x8, x9] (ob2 :: v2) := by
    simp only [t2, sAsg, eCb, eLst, aC, aN, eV, List.getElem?_cons_zero, List.getElem?_cons_succ, Oc.bind, Oc.of, List.length_cons, List.length_nil, Nat.zero_add, Nat.reduceAdd, z2, Oc.on, cond_true, rp1, Oc.thenS, gN, List.set_cons_zero, List.set_cons_succ]
  have s3 : t3 [x0, some (rf 0), x2, x3, some (tgD b vs ws), some (.list ((rws b vs.length).map rwD)), some (toD t), some (.str SV), x8, x9] (ob2 :: v2) = .nx [x0, some (rf 0), x2, x3, some (tgD b vs ws), some (.list ((rws b vs.length).map rwD)), some (toD t), some (.str SV), x8, x9] (ob2 :: v2) := by
    have lc := lcL_flt (gt := gN 8) (tt := tYs) (fe := eCall (F__law_worth 14) [] (aC (eV 4) (aC (eV 6) (aC (eV 8) aN)))) (ρ := [x0, some (rf 0), x2, x3, some (tgD b vs ws), some (.list ((rws b vs.length).map rwD)), some (toD t), some (.str SV), none, x9]) (w := ob2 :: v2)
      rwD (fun _ => true) (fun r => .int (tev b ws (vs.zip r) t : Int)) (rws b vs.length) [] (by rw [List.length_nil]; omega) (fun r hr => by
        obtain ⟨r1, r2⟩ := rws_mem hr
        have wo := worth_ok (w := ob2 :: v2) hT r1 r2 14 t hh vh lw
        refine ⟨[x0, some (rf 0), x2, x3, some (tgD b vs ws), some (.list ((rws b vs.length).map rwD)), some (toD t), some (.str SV), some (rwD r), x9], rfl, rfl, fun _ => ?_⟩
        generalize F__law_worth 14 = g at *
        simp only [eCall, aC, aN, eV, List.getElem?_cons_zero, List.getElem?_cons_succ, Oc.bind, List.append_nil, wo])
    rw [List.filter_eq_self.mpr fun _ _ => rfl, List.nil_append] at lc
    have it : iE (eV 5) [x0, some (rf 0), x2, x3, some (tgD b vs ws), some (.list ((rws b vs.length).map rwD)), some (toD t), some (.str SV), x8, x9] (ob2 :: v2) = .ok ((rws b vs.length).map rwD) (ob2 :: v2) := rfl
    have el : eLc (iE (eV 5)) (gN 8) tYs (eCall (F__law_worth 14) [] (aC (eV 4) (aC (eV 6) (aC (eV 8) aN)))) [8] [x0, some (rf 0), x2, x3, some (tgD b vs ws), some (.list ((rws b vs.length).map rwD)), some (toD t), some (.str SV), x8, x9] (ob2 :: v2) = .ok (.list ((rws b vs.length).map fun r => .int (tev b ws (vs.zip r) t : Int))) (ob2 :: v2) := by
      rw [eLc, it]
      simp only [Oc.bind, wipeE, List.set_cons_zero, List.set_cons_succ]
      rw [lc]
    have tp : tupleD (ob2 :: v2) [.list ((rws b vs.length).map fun r => .int (tev b ws (vs.zip r) t : Int))] = some (tabD b vs ws t) := rfl
    have er : eCb reprD (aC (eCb tupleD (aC (eLc (iE (eV 5)) (gN 8) tYs (eCall (F__law_worth 14) [] (aC (eV 4) (aC (eV 6) (aC (eV 8) aN)))) [8]) aN)) aN) [x0, some (rf 0), x2, x3, some (tgD b vs ws), some (.list ((rws b vs.length).map rwD)), some (toD t), some (.str SV), x8, x9] (ob2 :: v2) = .ok (.str (tabD b vs ws t).shown) (ob2 :: v2) := by
      rw [eCb, aC, eCb, aC, el]
      simp only [Oc.bind, aN, tp, Oc.of, rp2]
    rw [t3, sIf, tB', eB]
    have et : eCb reprD (aC (eCall F_table_of [] (aC (eV 4) (aC (eV 6) aN))) aN) [x0, some (rf 0), x2, x3, some (tgD b vs ws), some (.list ((rws b vs.length).map rwD)), some (toD t), some (.str SV), x8, x9] (ob2 :: v2) = .ok (.str (tabD b vs ws t).shown) (ob2 :: v2) := by
      simp only [eCb, eCall, aC, aN, eV, List.getElem?_cons_zero, List.getElem?_cons_succ, Oc.bind, Oc.of, List.append_nil, tab, rp2]
    rw [et]
    simp only [Oc.bind]
    rw [er]
    simp only [Oc.bind, Oc.of, ne_self, Oc.thenS, cond_false, sNil]
  obtain ⟨d, W, e3, k3, ob3, rfl, hk3, rfl, h3⟩ := wO_ex.mp (draw_c (v := v2) (m := 3) h2 (by omega) (by omega) (by omega))
  obtain ⟨d, W, e4, ob4, rfl, M, rfl, hM9, hMo, h4⟩ := wO_ex.mp (odd_w hT h3 pv2 (by omega))
  have c4 : Cl (ob4 :: v2) := cl_rd h4 pv2
  obtain ⟨L1, hL1, hL1p⟩ := as_tp (L := stpL ((rws b vs.length).map rwD) (some (k3 : Int)) none 3) (P := fun ds => (∀ d ∈ ds, nz d = true) ∧ ds.length ≤ 100) fun x hx => by
    obtain ⟨r, hr, rfl⟩ := List.mem_map.mp (stp_mem hx)
    exact ⟨natsD r, rfl, nz_nats r, by rw [natsD, List.length_map, (rws_mem hr).1]; have := hT.v2; omega⟩
  have hlL : (stpL ((rws b vs.length).map rwD) (some (k3 : Int)) none 3).length ≤ 27 := Nat.le_trans stp_len (by rw [List.length_map]; exact rl)
  have sp : stpD (ob3 :: v2) (.list ((rws b vs.length).map rwD)) (some (k3 : Int)) none 3 = some (.list (L1.map tpD)) := by
    unfold stpD
    simp only [lstOf_list]
    rw [szOk_of (show (stpL ((rws b vs.length).map rwD) (some (k3 : Int)) none 3).length ≤ 10000000 by omega), decide_eq_true (show (3 : Int) ≠ 0 by omega), hL1]
    rfl
  have l1l : (L1.map tpD).length ≤ 27 := hL1 ▸ hlL
  have ad : addD (ob4 :: v2) (.list (L1.map tpD)) (.list (M.map tpD)) = some (.list ((L1 ++ M).map tpD)) := by
    rw [add_ls _ (by rw [List.length_map (as := M)]; omega), List.map_append]
  obtain ⟨y8, y9, e5⟩ := row_loop hT c4 hh vh lw (x0 := x0) (x1 := some (rf 0)) (x2 := x2) (x3 := x3) (x5 := some (.list ((rws b vs.length).map rwD))) (x7 := some (.str SV)) (L1 ++ M) x8 x9 fun ds hd => by
    rcases List.mem_append.mp hd with hd | hd
    · exact hL1p ds hd
    · have o := hMo ds hd
      exact ⟨o.nz, by have := o.len; omega⟩
  refine ⟨some (toD t), some (.str SV), y8, y9, ob4, v2, ?_, pv2, h4.mono (by omega)⟩
  have s4 : t4 [x0, some (rf 0), x2, x3, some (tgD b vs ws), some (.list ((rws b vs.length).map rwD)), some (toD t), some (.str SV), x8, x9] (ob2 :: v2) = .nx [x0, some (rf 0), x2, x3, some (tgD b vs ws), some (.list ((rws b vs.length).map rwD)), some (toD t), some (.str SV), y8, y9] (ob4 :: v2) := by
    have it : iE (eB addD (eSt (eV 5) (oS (eCall F__law_draw [] (aC (eV 1) (aC (eC (.int 3)) aN)))) oN 3) (eCall F__law_odd_rows [] (aC (eV 1) (aC (eV 4) aN)))) [x0, some (rf 0), x2, x3, some (tgD b vs ws), some (.list ((rws b vs.length).map rwD)), some (toD t), some (.str SV), x8, x9] (ob2 :: v2) = .ok ((L1 ++ M).map tpD) (ob4 :: v2) := by
      generalize (rws b vs.length).map rwD = WR at *
      generalize tgD b vs ws = T at *
      simp only [iE, eB, eSt, oS, oN, eCall, eC, aC, aN, eV, List.getElem?_cons_zero, List.getElem?_cons_succ, Oc.bind, Oc.of, List.append_nil, e3, sp, e4, ad, itD]
    rw [t4, sFor, it]
    simp only [Oc.thenS]
    exact e5
  have s5 : t5 [x0, some (rf 0), x2, x3, some (tgD b vs ws), some (.list ((rws b vs.length).map rwD)), some (toD t), some (.str SV), y8, y9] (ob4 :: v2) = .nx [x0, some (rf 0), x2, x3, some (tgD b vs ws), some (.list ((rws b vs.length).map rwD)), some (toD t), some (.str SV), y8, y9] (ob4 :: v2) := by
    simp only [t5, sIf, tB', eB, eCb, eLst, aC, aN, eV, List.getElem?_cons_zero, List.getElem?_cons_succ, Oc.bind, Oc.of, List.length_cons, List.length_nil, Nat.zero_add, Nat.reduceAdd, z2, Oc.on, cond_true, rp1, ne_self, Oc.thenS, cond_false, sNil]
  rw [turnB, seq_nx s1, seq_nx s2, seq_nx s3, seq_nx s4, s5]
theorem turn_loop (hT : Tong b vs ws) {x0 x2 : Option PyData} : ∀ (L : List PyData) {ob : Ob} {v : Ws} {n : Nat} (x3 x6 x7 x8 x9 : Option PyData), RdOk ob n → Pl v → n + 400 * L.length + 1000 < 1000000 →
    ∃ y3 y6 y7 y8 y9 ob' v', forL (gN 3) turnB L [x0, some (rf 0), x2, x3, some (tgD b vs ws), some (.list ((rws b vs.length).map rwD)), x6, x7, x8, x9] (ob :: v) = .nx [x0, some (rf 0), x2, y3, some (tgD b vs ws), some (.list ((rws b vs.length).map rwD)), y6, y7, y8, y9] (ob' :: v') ∧ Pl v' ∧ RdOk ob' (n + 400 * L.length)
  | [], ob, v, n, x3, x6, x7, x8, x9, h, hv, _ => ⟨x3, x6, x7, x8, x9, ob, v, rfl, hv, by simpa using h⟩
  | d :: L, ob, v, n, x3, x6, x7, x8, x9, h, hv, hn => by
    rw [List.length_cons, Nat.mul_add, Nat.mul_one] at hn
    obtain ⟨a6, a7, a8, a9, ob1, v1, e1, p1, h1⟩ := turn_ok hT h hv (by omega) (x0 := x0) (x2 := x2) (x3 := some d) (x6 := x6) (x7 := x7) (x8 := x8) (x9 := x9)
    obtain ⟨y3, y6, y7, y8, y9, ob2, v2, e2, p2, h2⟩ := turn_loop hT (x0 := x0) (x2 := x2) L (some d) a6 a7 a8 a9 h1 p1 (by omega)
    refine ⟨y3, y6, y7, y8, y9, ob2, v2, ?_, p2, h2.mono (by rw [List.length_cons]; omega)⟩
    rw [forL]
    simp only [gN, List.set_cons_zero, List.set_cons_succ]
    rw [e1]
    exact e2
noncomputable def tngB : FS := sSeq (sAsg (eCall F__law_rows [] (aC (eB ixD (eV 4) (eC (.int 0))) (aC (eCb lenD (aC (eB ixD (eV 4) (eC (.int 1))) aN)) aN))) (gN 5)) (sFor (iR1 (aC (eC (.int 3)) aN)) (gN 3) turnB)
theorem tng_ok (hT : Tong b vs ws) {ob : Ob} {v : Ws} {n : Nat} (h : RdOk ob n) (hv : Pl v) (hn : n + 3000 < 1000000) {x0 x2 x3 x5 x6 x7 x8 x9 : Option PyData} :
    ∃ y3 y5 y6 y7 y8 y9 ob' v', tngB [x0, some (rf 0), x2, x3, some (tgD b vs ws), x5, x6, x7, x8, x9] (ob :: v) = .nx [x0, some (rf 0), x2, y3, some (tgD b vs ws), y5, y6, y7, y8, y9] (ob' :: v') ∧ Pl v' ∧ RdOk ob' (n + 1200) := by
  have r3 : (rgD 0 3).length = 3 := rfl
  obtain ⟨y3, y6, y7, y8, y9, ob', v', e, p, h'⟩ := turn_loop hT (x0 := x0) (x2 := x2) (rgD 0 3) x3 x6 x7 x8 x9 h hv (by rw [r3]; omega)
  rw [r3] at h'
  refine ⟨y3, some (.list ((rws b vs.length).map rwD)), y6, y7, y8, y9, ob', v', ?_, p, h'⟩
  have lr := lrows_ok (w := ob :: v) hT
  have ln : lenD (ob :: v) [.tuple (vs.map .str)] = some (.int (vs.length : Int)) := by
    show some (PyData.int ((vs.map PyData.str).length : Int)) = _
    rw [List.length_map]
  have it : ∀ ρ W, iR1 (aC (eC (.int 3)) aN) ρ W = .ok (rgD 0 3) W := fun ρ W => by
    have c : c62 3 = true := by decide
    simp only [iR1, aC, aN, eC, Oc.bind, Oc.on, c, cond_true]
  unfold tngB
  rw [seq_nx (ρ1 := [x0, some (rf 0), x2, x3, some (tgD b vs ws), some (.list ((rws b vs.length).map rwD)), x6, x7, x8, x9]) (w1 := ob :: v) (by
    simp only [sAsg, eCall, eCb, eB, eC, aC, aN, eV, List.getElem?_cons_zero, List.getElem?_cons_succ, Oc.bind, Oc.of, tg0, tg1, ln, List.append_nil, lr, Oc.thenS, gN, List.set_cons_zero, List.set_cons_succ])]
  rw [sFor, it]
  simp only [Oc.thenS]
  exact e
theorem all_loop {x0 x2 : Option PyData} : ∀ (L : List TT) {ob : Ob} {v : Ws} {n : Nat} (x3 x4 x5 x6 x7 x8 x9 : Option PyData), (∀ t ∈ L, TGd t) → RdOk ob n → Pl v → n + 1200 * L.length + 3000 < 1000000 →
    ∃ ρ' W', forL (gN 4) tngB (L.map tgT) [x0, some (rf 0), x2, x3, x4, x5, x6, x7, x8, x9] (ob :: v) = .nx ρ' W'
  | [], ob, v, n, x3, x4, x5, x6, x7, x8, x9, _, _, _, _ => ⟨_, _, rfl⟩
  | t :: L, ob, v, n, x3, x4, x5, x6, x7, x8, x9, ht, h, hv, hn => by
    rw [List.length_cons, Nat.mul_add, Nat.mul_one] at hn
    have hT : Tong t.1 t.2.1 t.2.2 := ht t (by simp)
    obtain ⟨a3, a5, a6, a7, a8, a9, ob1, v1, e1, p1, h1⟩ := tng_ok hT h hv (by omega) (x0 := x0) (x2 := x2) (x3 := x3) (x5 := x5) (x6 := x6) (x7 := x7) (x8 := x8) (x9 := x9)
    obtain ⟨ρ', W', e2⟩ := all_loop (x0 := x0) (x2 := x2) L a3 (some (tgT t)) a5 a6 a7 a8 a9 (fun q hq => ht q (by simp [hq])) h1 p1 (by omega)
    refine ⟨ρ', W', ?_⟩
    have e1 : tngB [x0, some (rf 0), x2, x3, some (tgT t), x5, x6, x7, x8, x9] (ob :: v) = .nx [x0, some (rf 0), x2, a3, some (tgT t), a5, a6, a7, a8, a9] (ob1 :: v1) := e1
    rw [List.map_cons, forL]
    simp only [gN, List.set_cons_zero, List.set_cons_succ]
    rw [e1]
    exact e2
end
noncomputable def apB : FS := sExp (eLm apL (eV 2) (aC (eCall F__law_random_tongue [] (aC (eV 1) aN)) aN))
theorem ap_loop {x0 : Option PyData} : ∀ (D : List PyData) (L : List TT) {ob : Ob} {n : Nat} (x3 : Option PyData), (∀ t ∈ L, TGd t) → RdOk ob n → n + 200 * D.length + 300 < 1000000 → L.length + D.length ≤ 1000 →
    ∃ (y3 : Option PyData) (L' : List TT) (ob' : Ob), (∀ t ∈ L', TGd t) ∧ L'.length = L.length + D.length ∧ RdOk ob' (n + 200 * D.length) ∧ forL (gN 3) apB D [x0, some (rf 0), some (rf 1), x3, none, none, none, none, none, none] [ob, .lst (L.map tgT)] = .nx [x0, some (rf 0), some (rf 1), y3, none, none, none, none, none, none] [ob', .lst (L'.map tgT)]
  | [], L, ob, n, x3, hL, h, _, _ => ⟨x3, L, ob, hL, by simp, by simpa using h, rfl⟩
  | d :: D, L, ob, n, x3, hL, h, hn, hl => by
    rw [List.length_cons, Nat.mul_add, Nat.mul_one] at hn
    rw [List.length_cons] at hl
    obtain ⟨d', W, e1, ob1, rfl, b, vs, ws, rfl, hT, h1⟩ := wO_ex.mp (tongue_w (v := [.lst (L.map tgT)]) h (pl_tgs L) (by omega))
    obtain ⟨y3, L', ob', hL', hl', h', e2⟩ := ap_loop (x0 := x0) D (L ++ [(b, vs, ws)]) (some d) (fun t ht => by
      rcases List.mem_append.mp ht with ht | ht
      · exact hL t ht
      · rw [List.mem_singleton] at ht; subst ht; exact hT) (h1.mono (show n + 100 ≤ n + 200 by omega)) (by omega) (by rw [List.length_append, List.length_singleton]; omega)
    refine ⟨y3, L', ob', hL', by rw [hl', List.length_append, List.length_singleton, List.length_cons]; omega, h'.mono (by rw [List.length_cons]; omega), ?_⟩
    have g1 : ∀ (ob : Ob), [ob, Ob.lst (L.map tgT)][1]? = some (.lst (L.map tgT)) := fun _ => rfl
    have lo := lst_at (g1 ob)
    have u := upd_at (k := fun xs => apL xs [tgD b vs ws]) (d := .none) (ys := L.map tgT ++ [tgD b vs ws]) (g1 ob1) (by simp only [apL]; rw [if_pos (by rw [sizeLine_eq, List.length_map]; omega)])
    have st : apB [x0, some (rf 0), some (rf 1), some d, none, none, none, none, none, none] [ob, .lst (L.map tgT)] = .nx [x0, some (rf 0), some (rf 1), some d, none, none, none, none, none, none] [ob1, .lst ((L ++ [(b, vs, ws)]).map tgT)] := by
      simp only [apB, sExp, eLm, eCall, aC, aN, eV, List.getElem?_cons_zero, List.getElem?_cons_succ, Oc.bind, lo, Option.isSome_some, Oc.on, cond_true, List.append_nil, e1, u, Oc.thenS]
      rw [List.map_append]
      rfl
    rw [forL]
    simp only [gN, List.set_cons_zero, List.set_cons_succ]
    rw [st]
    exact e2
theorem main : ∀ ns : List Int, ns.length ≤ 63 → ∃ wf, F_law [intsD ns] [] = .ok (.bool true) wf := by
  intro ns h
  refine wO_leaveD (n := 0) (o := b_law [some (intsD ns), none, none, none, none, none, none, none, none, none] []) ?_
  have rd1 := reader_ok ns h
  have fx := fixed_tongues_ok (rd ns 0 0 0)
  have ro := rd_ok ns h
  have r5 : (rgD 0 5).length = 5 := rfl
  obtain ⟨y3, L, ob', hL, hl, h', e3⟩ := ap_loop (x0 := some (intsD ns)) (rgD 0 5) fixL none fix_tg ro (by rw [r5]; omega) (by rw [r5]; decide)
  rw [r5] at hl h'
  have hfl : fixL.length = 3 := rfl
  have pd : Pl [Ob.dead] := fun x hx n => by rw [List.mem_singleton] at hx; subst hx; rfl
  obtain ⟨ρ', W', e5⟩ := all_loop (x0 := some (intsD ns)) (x2 := some (.list (L.map tgT))) L y3 none none none none none none hL h' pd (by omega)
  have it5 : ∀ ρ W, iR1 (aC (eC (.int 5)) aN) ρ W = .ok (rgD 0 5) W := fun ρ W => by
    have c : c62 5 = true := by decide
    simp only [iR1, aC, aN, eC, Oc.bind, Oc.on, c, cond_true]
  have key : b_law [some (intsD ns), none, none, none, none, none, none, none, none, none] [] = .rt (.bool true) W' := by
    have e0 : b_law = sSeq (sAsg (eCall F__law_reader [] (aC (eV 0) aN)) (gN 1)) (sSeq (sAsg (eCall F__law_fixed_tongues [] aN) (gN 2)) (sSeq (sFor (iR1 (aC (eC (.int 5)) aN)) (gN 3) apB) (sSeq (sFz 2) (sSeq (sFor (iE (eV 2)) (gN 4) tngB) (sRet (eC (.bool true))))))) := rfl
    rw [e0]
    rw [seq_nx (ρ1 := [some (intsD ns), some (rf 0), none, none, none, none, none, none, none, none]) (w1 := [rd ns 0 0 0]) (by
      simp only [sAsg, eCall, aC, aN, eV, List.getElem?_cons_zero, Oc.bind, List.append_nil, rd1, Oc.thenS, gN, List.set_cons_zero, List.set_cons_succ])]
    rw [seq_nx (ρ1 := [some (intsD ns), some (rf 0), some (rf 1), none, none, none, none, none, none, none]) (w1 := [rd ns 0 0 0, .lst (fixL.map tgT)]) (by
      simp only [sAsg, eCall, aN, Oc.bind, List.append_nil, fx, Oc.thenS, gN, List.set_cons_zero, List.set_cons_succ])]
    generalize fixL.map tgT = FL at *
    rw [seq_nx (ρ1 := [some (intsD ns), some (rf 0), some (rf 1), y3, none, none, none, none, none, none]) (w1 := [ob', .lst (L.map tgT)]) (by
      rw [sFor, it5]
      simp only [Oc.thenS]
      exact e3)]
    rw [seq_nx (ρ1 := [some (intsD ns), some (rf 0), some (.list (L.map tgT)), y3, none, none, none, none, none, none]) (w1 := [ob', .dead]) (by rfl)]
    have it : iE (eV 2) [some (intsD ns), some (rf 0), some (.list (L.map tgT)), y3, none, none, none, none, none, none] [ob', .dead] = .ok (L.map tgT) [ob', .dead] := rfl
    rw [seq_nx (ρ1 := ρ') (w1 := W') (by
      rw [sFor, it]
      simp only [Oc.thenS]
      exact e5)]
    rfl
  rw [key]
  exact .rt rfl
end Tk

set_option Elab.async false
set_option linter.all false
set_option maxRecDepth 100000
set_option maxHeartbeats 4000000
namespace Tk
open PySem L2 Td Tg Tt
/-! ### what the suite makes of an exception -/
section
variable {a dd : Addr} {ns : List Str} {ds : List PyData} {ρ : Ev} {w : Ws} {f : Str} {v : PyData}
theorem isE_0 {b : Bool} : Te.eIsE 0 a dd b (some (Te.exD a dd ns ds) :: ρ) w = .ok (.bool b) w := by
  simp [Te.eIsE, Te.exD]
theorem flE_0 (h : Te.lookF f (ns.map .str) ds = some v) : Te.eFlE 0 a dd f (some (Te.exD a dd ns ds) :: ρ) w = .ok v w := by
  simp [Te.eFlE, Te.exD, h, Oc.of]
end
section
variable {a dd : Addr} {ns : List Str} {ds : List PyData} {y : Option PyData} {w : Ws} {b1 b2 b3 : Bool} {xs : List PyData}
noncomputable abbrev is3 (a dd : Addr) (b1 b2 b3 : Bool) : FA := aC (Te.eIsE 0 a dd b1) (aC (Te.eIsE 0 a dd b2) (aC (Te.eIsE 0 a dd b3) aN))
noncomputable abbrev is2 (a dd : Addr) (b1 b2 : Bool) : FA := aC (Te.eIsE 0 a dd b1) (aC (Te.eIsE 0 a dd b2) aN)
theorem is3_ok : eLst (is3 a dd b1 b2 b3) [some (Te.exD a dd ns ds), y] w = .ok (.list [.bool b1, .bool b2, .bool b3]) w := by
  simp only [eLst, aC, aN, isE_0, Oc.bind]
  rfl
theorem is2_ok : eLst (is2 a dd b1 b2) [some (Te.exD a dd ns ds), y] w = .ok (.list [.bool b1, .bool b2]) w := by
  simp only [eLst, aC, aN, isE_0, Oc.bind]
  rfl
theorem st0 (h : szOk (xs.length + 3) = true) : eB addD (eV 1) (eLst (is3 a dd b1 b2 b3)) [some (Te.exD a dd ns ds), some (.list xs)] w = .ok (.list (xs ++ [.bool b1, .bool b2, .bool b3])) w := by
  have e : addD w (.list xs) (.list [.bool b1, .bool b2, .bool b3]) = some (.list (xs ++ [.bool b1, .bool b2, .bool b3])) := by
    show (if szOk (xs.length + 3) then _ else _) = _
    rw [if_pos h]
  exact eB_ok (eV_ok rfl) is3_ok e
theorem st1 (h : szOk (xs.length + 2) = true) : eB addD (eV 1) (eLst (is2 a dd b1 b2)) [some (Te.exD a dd ns ds), some (.list xs)] w = .ok (.list (xs ++ [.bool b1, .bool b2])) w := by
  have e : addD w (.list xs) (.list [.bool b1, .bool b2]) = some (.list (xs ++ [.bool b1, .bool b2])) := by
    show (if szOk (xs.length + 2) then _ else _) = _
    rw [if_pos h]
  exact eB_ok (eV_ok rfl) is2_ok e
end
noncomputable def fl_use : List PyData := [false, false, false, false, false, true, false, false, false, false, false, true, false, false, true, true].map .bool
theorem cf_use {a dd : Addr} {ns : List Str} {ds : List PyData} {w : Ws} : FH__law_class_flags_NotUsable a dd [Te.exD a dd ns ds] w = .ok (.list fl_use) w := by
  show leave w.length (bH__law_class_flags_NotUsable a dd [some (Te.exD a dd ns ds), none] w) = _
  have b : bH__law_class_flags_NotUsable a dd [some (Te.exD a dd ns ds), none] w = .rt (.list fl_use) w := by
    unfold bH__law_class_flags_NotUsable
    rw [seq_nx (ρ1 := [some (Te.exD a dd ns ds), some _]) (w1 := w) (by show Oc.thenS (eLst (is3 a dd _ _ _) _ _) _ _ = _; rw [is3_ok]; rfl)]
    rw [seq_nx (ρ1 := [some (Te.exD a dd ns ds), some _]) (w1 := w) (by show Oc.thenS (eB addD (eV 1) (eLst (is3 a dd _ _ _)) _ _) _ _ = _; rw [st0 rfl]; rfl)]
    rw [seq_nx (ρ1 := [some (Te.exD a dd ns ds), some _]) (w1 := w) (by show Oc.thenS (eB addD (eV 1) (eLst (is2 a dd _ _)) _ _) _ _ = _; rw [st1 rfl]; rfl)]
    rw [seq_nx (ρ1 := [some (Te.exD a dd ns ds), some _]) (w1 := w) (by show Oc.thenS (eB addD (eV 1) (eLst (is2 a dd _ _)) _ _) _ _ = _; rw [st1 rfl]; rfl)]
    rw [seq_nx (ρ1 := [some (Te.exD a dd ns ds), some _]) (w1 := w) (by show Oc.thenS (eB addD (eV 1) (eLst (is3 a dd _ _ _)) _ _) _ _ = _; rw [st0 rfl]; rfl)]
    show Oc.thenS (eB addD (eV 1) (eLst (is3 a dd _ _ _)) _ _) _ _ = _
    rw [st0 rfl]
    rfl
  rw [b]
  exact leave_rt rfl
theorem of_use {a dd : Addr} {w : Ws} : FH__law_own_flags_NotUsable a dd [.int 5] w = .ok (.list fl_use) w := by
  show leave w.length (bH__law_own_flags_NotUsable a dd [some (.int 5), none, none] w) = _
  have b : bH__law_own_flags_NotUsable a dd [some (.int 5), none, none] w = .rt (.list fl_use) w := by
    rfl
  rw [b]
  exact leave_rt rfl
theorem fd_use {a dd : Addr} {d z : PyData} {w : Ws} : FH__law_fields_NotUsable a dd [Te.exD a dd ["at", "word"] [d, z], .int 5] w = .ok (.tuple [.str "use", z, d]) w := by
  show leave w.length (bH__law_fields_NotUsable a dd [some (Te.exD a dd ["at", "word"] [d, z]), some (.int 5)] w) = _
  have e1 := flE_0 (a := a) (dd := dd) (ns := ["at", "word"]) (ds := [d, z]) (ρ := [some (.int 5)]) (w := w) (f := "word") (v := z) rfl
  have e2 := flE_0 (a := a) (dd := dd) (ns := ["at", "word"]) (ds := [d, z]) (ρ := [some (.int 5)]) (w := w) (f := "at") (v := d) rfl
  have b : bH__law_fields_NotUsable a dd [some (Te.exD a dd ["at", "word"] [d, z]), some (.int 5)] w = .rt (.tuple [.str "use", z, d]) w := by
    unfold bH__law_fields_NotUsable
    generalize Te.exD a dd ["at", "word"] [d, z] = X at *
    have z3 : szOk 3 = true := szOk_of (by omega)
    have c0 : tB' (eB eqD (eV 1) (eC (.int 0))) [some X, some (.int 5)] w = .ok false w := rfl
    have c1 : tB' (eB eqD (eV 1) (eC (.int 1))) [some X, some (.int 5)] w = .ok false w := rfl
    have c5 : tB' (eB eqD (eV 1) (eC (.int 5))) [some X, some (.int 5)] w = .ok true w := rfl
    simp only [sSeq, sIf, c0, c1, c5, Oc.thenS, cond_true, cond_false, sNil, sRet, eTup, aC, aN, eC, e1, e2, Oc.bind, List.length_cons, List.length_nil, Nat.reduceAdd, z3, Oc.on]
  rw [b]
  exact leave_rt rfl
theorem hg__law_outcome : Hg__law_outcome := by
  intro n fs ds ho a dd w
  obtain ⟨g, hm, hq⟩ := Te.outL_some ho
  simp only [List.mem_cons, List.not_mem_nil, or_false, Prod.mk.injEq] at hm
  obtain ⟨rfl, rfl⟩ := hm
  obtain ⟨x, d, y, z, rfl⟩ : ∃ x d y z, fs = [(x, d), (y, z)] := by
    match fs, hq with
    | [(x, d), (y, z)], _ => exact ⟨x, d, y, z, rfl⟩
  by_cases hx : x = "at" ∧ y = "word"
  · obtain ⟨rfl, rfl⟩ := hx
    have hq : some [PyData.str "use", z, d] = some ds := hq
    cases hq
    obtain ⟨X, hX⟩ : ∃ X, X = Te.exD a dd ["at", "word"] [d, z] := ⟨_, rfl⟩
    have h1 := cf_use (a := a) (dd := dd) (ns := ["at", "word"]) (ds := [d, z]) (w := w)
    have h2 := of_use (a := a) (dd := dd) (w := w)
    have h3 := fd_use (a := a) (dd := dd) (d := d) (z := z) (w := w)
    rw [← hX] at h1 h3
    refine ⟨[none, some (.tuple [.str "use", z, d]), some X, some (.list fl_use), some (.list [.int 5]), none], ?_, rfl⟩
    show bs__law_outcome_NotUsable a dd [none, none, some (Te.exD a dd ["at", "word"] [d, z]), none, none, none] w = _
    rw [← hX]
    unfold bs__law_outcome_NotUsable
    generalize FH__law_class_flags_NotUsable a dd = F1 at *
    generalize FH__law_own_flags_NotUsable a dd = F2 at *
    generalize FH__law_fields_NotUsable a dd = F3 at *
    have s1 : sAsg (eCall F1 [] (aC (eV 2) aN)) (gN 3) [none, none, some X, none, none, none] w = .nx [none, none, some X, some (.list fl_use), none, none] w := by
      simp only [sAsg, eCall, aC, aN, eV, Oc.bind, Oc.thenS, List.append_nil, h1, gN, List.getElem?_cons_zero, List.getElem?_cons_succ, List.set_cons_zero, List.set_cons_succ]
    rw [seq_nx s1]
    have s2 : sAsg (eLc (iR1 (aC (eC (.int 10)) aN)) (gN 5) (tTr (eB ixD (eV 3) (eV 5))) (eV 5) [5]) (gN 4) [none, none, some X, some (.list fl_use), none, none] w = .nx [none, none, some X, some (.list fl_use), some (.list [.int 5]), none] w := rfl
    rw [seq_nx s2]
    have c1 : eB eqD (eCb lenD (aC (eV 4) aN)) (eC (.int 1)) [none, none, some X, some (.list fl_use), some (.list [.int 5]), none] w = .ok (.bool true) w := rfl
    have i1 : eB ixD (eV 4) (eC (.int 0)) [none, none, some X, some (.list fl_use), some (.list [.int 5]), none] w = .ok (.int 5) w := rfl
    have c2 : eB eqD (eV 3) (eCall F2 [] (aC (eB ixD (eV 4) (eC (.int 0))) aN)) [none, none, some X, some (.list fl_use), some (.list [.int 5]), none] w = .ok (.bool true) w := by
      refine eB_ok (b := .list fl_use) (eV_ok rfl) ?_ rfl
      simp only [eCall, aC, aN, i1, Oc.bind, List.append_nil, h2]
    simp only [sIf, tAn, tB', c1, c2, Oc.bind, Oc.thenS, cond_true, sAsg, eCall, aC, aN, eV, i1, gN, List.append_nil, h3, List.getElem?_cons_zero, List.getElem?_cons_succ, List.set_cons_zero, List.set_cons_succ]
  · have hq : (if x = "at" ∧ y = "word" then some [PyData.str "use", z, d] else none) = some ds := hq
    rw [if_neg hx] at hq
    cases hq
end Tk

set_option Elab.async false
set_option linter.all false
set_option maxRecDepth 100000
set_option maxHeartbeats 4000000
namespace Tk
open PySem L2 PySem.Spec PyProof.Rows Td
theorem all_mk {l : PySem.W.OpenLaw} {ts : List Addr} {w : World} {K : PySem.W.Frag} {h : Heap} {mg : Str → Option Value} {fa : Addr} (X : K.In h) (G : h.Ns mainGlobals mg) (hfa : mg "law" = some (.ref fa))
    {C_Meaning : Addr} (aC_Meaning : PySem.W.nsIn K mainGlobals "Meaning" = some (some (.ref C_Meaning)))
    (pg_Meaning : PySem.W.plainGet K C_Meaning Str.empty = true) (hd_Meaning : PySem.W.hasDictIn K C_Meaning = true) (po_Meaning : PySem.W.plainOver K C_Meaning = true) (sa_Meaning : PySem.W.findIn K (.ref C_Meaning) "__setattr__" = some (some (.builtin "object.__setattr__"))) (mk_Meaning : PySem.W.makesIn K C_Meaning = true) (kc_Meaning : PySem.W.keepIn K (.ref C_Meaning) = true)
    (nf_Meaning_word : PySem.W.findIn K (.ref C_Meaning) "word" = some none)
    (nf_Meaning_at : PySem.W.findIn K (.ref C_Meaning) "at" = some none)
    (nf_Meaning_place : PySem.W.findIn K (.ref C_Meaning) "place" = some none)
    (nf_Meaning_finding : PySem.W.findIn K (.ref C_Meaning) "finding" = some none)
    (nf_Meaning_other : PySem.W.findIn K (.ref C_Meaning) "other" = some none)
    (nf_Meaning_most : PySem.W.findIn K (.ref C_Meaning) "most" = some none)
    (nf_Meaning_event : PySem.W.findIn K (.ref C_Meaning) "event" = some none)
    (nf_Meaning_reason : PySem.W.findIn K (.ref C_Meaning) "reason" = some none)
    (nf_Meaning_steps : PySem.W.findIn K (.ref C_Meaning) "steps" = some none)
    (nf_Meaning_line : PySem.W.findIn K (.ref C_Meaning) "line" = some none)
    (nf_Meaning_field : PySem.W.findIn K (.ref C_Meaning) "field" = some none)
    (nf_Meaning_row : PySem.W.findIn K (.ref C_Meaning) "row" = some none)
    (nf_Meaning_tables : PySem.W.findIn K (.ref C_Meaning) "tables" = some none)
    (nf_Meaning_size : PySem.W.findIn K (.ref C_Meaning) "size" = some none)
    (nf_Meaning_inputs : PySem.W.findIn K (.ref C_Meaning) "inputs" = some none)
    {f0 : Addr} {od0 an0 : Option Addr} {sl0 : Array (Option Value)} {oc0 dc0 pm0 cd0 ct0 : Value}
    {kV0 : Value}
    (a0 : PySem.W.nsIn K mainGlobals "is_integer" = some (some (.ref f0)))
    (l0 : K.lookup f0 = some ⟨oc0, od0, .func (PySem.W.fnOf "is_integer" "is_integer" (defArgs s_is_integer) (defBody s_is_integer) (defScope s_is_integer) .none kV0 dc0 pm0 an0 cd0 ct0), sl0⟩)
    (c0 : PySem.W.codeIn K cd0 "is_integer" = true) (k0 : PySem.W.keepIn K (.ref f0) = true)
    {f1 : Addr} {od1 an1 : Option Addr} {sl1 : Array (Option Value)} {oc1 dc1 pm1 cd1 ct1 : Value}
    {kV1 : Value}
    (a1 : PySem.W.nsIn K mainGlobals "is_number" = some (some (.ref f1)))
    (l1 : K.lookup f1 = some ⟨oc1, od1, .func (PySem.W.fnOf "is_number" "is_number" (defArgs s_is_number) (defBody s_is_number) (defScope s_is_number) .none kV1 dc1 pm1 an1 cd1 ct1), sl1⟩)
    (c1 : PySem.W.codeIn K cd1 "is_number" = true) (k1 : PySem.W.keepIn K (.ref f1) = true)
    {f2 : Addr} {od2 an2 : Option Addr} {sl2 : Array (Option Value)} {oc2 dc2 pm2 cd2 ct2 : Value}
    {kV2 : Value}
    (a2 : PySem.W.findIn K (.ref C_Meaning) "__init__" = some (some (.ref f2))) (i2 : PySem.W.isFn K (.ref f2) = true)
    (l2 : K.lookup f2 = some ⟨oc2, od2, .func (PySem.W.fnOf "__init__" "Meaning.__init__" (defArgs s_Meaning___init__) (defBody s_Meaning___init__) (defScope s_Meaning___init__) .none kV2 dc2 pm2 an2 cd2 ct2), sl2⟩)
    (c2 : PySem.W.codeIn K cd2 "Meaning.__init__" = true) (k2 : PySem.W.keepIn K (.ref f2) = true)
    {f3 : Addr} {od3 an3 : Option Addr} {sl3 : Array (Option Value)} {oc3 dc3 pm3 cd3 ct3 : Value}
    {kV3 : Value}
    (a3 : PySem.W.findIn K (.ref C_Meaning) "is_value" = some (some (.ref f3))) (i3 : PySem.W.isFn K (.ref f3) = true)
    (l3 : K.lookup f3 = some ⟨oc3, od3, .func (PySem.W.fnOf "is_value" "Meaning.is_value" (defArgs s_Meaning_is_value) (defBody s_Meaning_is_value) (defScope s_Meaning_is_value) .none kV3 dc3 pm3 an3 cd3 ct3), sl3⟩)
    (c3 : PySem.W.codeIn K cd3 "Meaning.is_value" = true) (k3 : PySem.W.keepIn K (.ref f3) = true)
    {f4 : Addr} {od4 an4 : Option Addr} {sl4 : Array (Option Value)} {oc4 dc4 pm4 cd4 ct4 : Value}
    {kV4 : Value}
    (a4 : PySem.W.findIn K (.ref C_Meaning) "rows" = some (some (.ref f4))) (i4 : PySem.W.isFn K (.ref f4) = true)
    (l4 : K.lookup f4 = some ⟨oc4, od4, .func (PySem.W.fnOf "rows" "Meaning.rows" (defArgs s_Meaning_rows) (defBody s_Meaning_rows) (defScope s_Meaning_rows) .none kV4 dc4 pm4 an4 cd4 ct4), sl4⟩)
    (c4 : PySem.W.codeIn K cd4 "Meaning.rows" = true) (k4 : PySem.W.keepIn K (.ref f4) = true)
    {f5 : Addr} {od5 an5 : Option Addr} {sl5 : Array (Option Value)} {oc5 dc5 pm5 cd5 ct5 : Value}
    {kV5 : Value}
    (a5 : PySem.W.findIn K (.ref C_Meaning) "value" = some (some (.ref f5))) (i5 : PySem.W.isFn K (.ref f5) = true)
    (l5 : K.lookup f5 = some ⟨oc5, od5, .func (PySem.W.fnOf "value" "Meaning.value" (defArgs s_Meaning_value) (defBody s_Meaning_value) (defScope s_Meaning_value) .none kV5 dc5 pm5 an5 cd5 ct5), sl5⟩)
    (c5 : PySem.W.codeIn K cd5 "Meaning.value" = true) (k5 : PySem.W.keepIn K (.ref f5) = true)
    {f6 : Addr} {od6 an6 : Option Addr} {sl6 : Array (Option Value)} {oc6 dc6 pm6 cd6 ct6 : Value}
    {kV6 : Value}
    (a6 : PySem.W.findIn K (.ref C_Meaning) "values" = some (some (.ref f6))) (i6 : PySem.W.isFn K (.ref f6) = true)
    (l6 : K.lookup f6 = some ⟨oc6, od6, .func (PySem.W.fnOf "values" "Meaning.values" (defArgs s_Meaning_values) (defBody s_Meaning_values) (defScope s_Meaning_values) .none kV6 dc6 pm6 an6 cd6 ct6), sl6⟩)
    (c6 : PySem.W.codeIn K cd6 "Meaning.values" = true) (k6 : PySem.W.keepIn K (.ref f6) = true)
    {f7 : Addr} {od7 an7 : Option Addr} {sl7 : Array (Option Value)} {oc7 dc7 pm7 cd7 ct7 : Value}
    {kV7 : Value}
    (a7 : PySem.W.nsIn K mainGlobals "value_of" = some (some (.ref f7)))
    (l7 : K.lookup f7 = some ⟨oc7, od7, .func (PySem.W.fnOf "value_of" "value_of" (defArgs s_value_of) (defBody s_value_of) (defScope s_value_of) .none kV7 dc7 pm7 an7 cd7 ct7), sl7⟩)
    (c7 : PySem.W.codeIn K cd7 "value_of" = true) (k7 : PySem.W.keepIn K (.ref f7) = true)
    {f8 : Addr} {od8 an8 : Option Addr} {sl8 : Array (Option Value)} {oc8 dc8 pm8 cd8 ct8 : Value}
    {kV8 : Value}
    (a8 : PySem.W.nsIn K mainGlobals "table_of" = some (some (.ref f8)))
    (l8 : K.lookup f8 = some ⟨oc8, od8, .func (PySem.W.fnOf "table_of" "table_of" (defArgs s_table_of) (defBody s_table_of) (defScope s_table_of) .none kV8 dc8 pm8 an8 cd8 ct8), sl8⟩)
    (c8 : PySem.W.codeIn K cd8 "table_of" = true) (k8 : PySem.W.keepIn K (.ref f8) = true)
    {f9 : Addr} {od9 an9 : Option Addr} {sl9 : Array (Option Value)} {oc9 dc9 pm9 cd9 ct9 : Value}
    {kV9 : Value}
    (a9 : PySem.W.nsIn K mainGlobals "_law_reader" = some (some (.ref f9)))
    (l9 : K.lookup f9 = some ⟨oc9, od9, .func (PySem.W.fnOf "_law_reader" "_law_reader" (defArgs s__law_reader) (defBody s__law_reader) (defScope s__law_reader) .none kV9 dc9 pm9 an9 cd9 ct9), sl9⟩)
    (c9 : PySem.W.codeIn K cd9 "_law_reader" = true) (k9 : PySem.W.keepIn K (.ref f9) = true)
    {f10 : Addr} {od10 an10 : Option Addr} {sl10 : Array (Option Value)} {oc10 dc10 pm10 cd10 ct10 : Value}
    {kV10 : Value}
    (a10 : PySem.W.nsIn K mainGlobals "_law_draw" = some (some (.ref f10)))
    (l10 : K.lookup f10 = some ⟨oc10, od10, .func (PySem.W.fnOf "_law_draw" "_law_draw" (defArgs s__law_draw) (defBody s__law_draw) (defScope s__law_draw) .none kV10 dc10 pm10 an10 cd10 ct10), sl10⟩)
    (c10 : PySem.W.codeIn K cd10 "_law_draw" = true) (k10 : PySem.W.keepIn K (.ref f10) = true)
    {f11 : Addr} {od11 an11 : Option Addr} {sl11 : Array (Option Value)} {oc11 dc11 pm11 cd11 ct11 : Value}
    {kV11 : Value}
    (a11 : PySem.W.nsIn K mainGlobals "_law_is_number" = some (some (.ref f11)))
    (l11 : K.lookup f11 = some ⟨oc11, od11, .func (PySem.W.fnOf "_law_is_number" "_law_is_number" (defArgs s__law_is_number) (defBody s__law_is_number) (defScope s__law_is_number) .none kV11 dc11 pm11 an11 cd11 ct11), sl11⟩)
    (c11 : PySem.W.codeIn K cd11 "_law_is_number" = true) (k11 : PySem.W.keepIn K (.ref f11) = true)
    {f12 : Addr} {od12 an12 : Option Addr} {sl12 : Array (Option Value)} {oc12 dc12 pm12 cd12 ct12 : Value}
    {kV12 : Value}
    (a12 : PySem.W.nsIn K mainGlobals "_law_class_flags" = some (some (.ref f12)))
    (l12 : K.lookup f12 = some ⟨oc12, od12, .func (PySem.W.fnOf "_law_class_flags" "_law_class_flags" (defArgs s__law_class_flags) (defBody s__law_class_flags) (defScope s__law_class_flags) .none kV12 dc12 pm12 an12 cd12 ct12), sl12⟩)
    (c12 : PySem.W.codeIn K cd12 "_law_class_flags" = true) (k12 : PySem.W.keepIn K (.ref f12) = true)
    {f13 : Addr} {od13 an13 : Option Addr} {sl13 : Array (Option Value)} {oc13 dc13 pm13 cd13 ct13 : Value}
    {kV13 : Value}
    (a13 : PySem.W.nsIn K mainGlobals "_law_own_flags" = some (some (.ref f13)))
    (l13 : K.lookup f13 = some ⟨oc13, od13, .func (PySem.W.fnOf "_law_own_flags" "_law_own_flags" (defArgs s__law_own_flags) (defBody s__law_own_flags) (defScope s__law_own_flags) .none kV13 dc13 pm13 an13 cd13 ct13), sl13⟩)
    (c13 : PySem.W.codeIn K cd13 "_law_own_flags" = true) (k13 : PySem.W.keepIn K (.ref f13) = true)
    {f14 : Addr} {od14 an14 : Option Addr} {sl14 : Array (Option Value)} {oc14 dc14 pm14 cd14 ct14 : Value}
    {kV14 : Value}
    (a14 : PySem.W.nsIn K mainGlobals "_law_fields" = some (some (.ref f14)))
    (l14 : K.lookup f14 = some ⟨oc14, od14, .func (PySem.W.fnOf "_law_fields" "_law_fields" (defArgs s__law_fields) (defBody s__law_fields) (defScope s__law_fields) .none kV14 dc14 pm14 an14 cd14 ct14), sl14⟩)
    (c14 : PySem.W.codeIn K cd14 "_law_fields" = true) (k14 : PySem.W.keepIn K (.ref f14) = true)
    {f15 : Addr} {od15 an15 : Option Addr} {sl15 : Array (Option Value)} {oc15 dc15 pm15 cd15 ct15 : Value}
    {kV15 : Value}
    (a15 : PySem.W.nsIn K mainGlobals "_law_outcome" = some (some (.ref f15)))
    (l15 : K.lookup f15 = some ⟨oc15, od15, .func (PySem.W.fnOf "_law_outcome" "_law_outcome" (defArgs s__law_outcome) (defBody s__law_outcome) (defScope s__law_outcome) .none kV15 dc15 pm15 an15 cd15 ct15), sl15⟩)
    (c15 : PySem.W.codeIn K cd15 "_law_outcome" = true) (k15 : PySem.W.keepIn K (.ref f15) = true)
    {f16 : Addr} {od16 an16 : Option Addr} {sl16 : Array (Option Value)} {oc16 dc16 pm16 cd16 ct16 : Value}
    {kV16 : Value}
    (a16 : PySem.W.nsIn K mainGlobals "_law_some" = some (some (.ref f16)))
    (l16 : K.lookup f16 = some ⟨oc16, od16, .func (PySem.W.fnOf "_law_some" "_law_some" (defArgs s__law_some) (defBody s__law_some) (defScope s__law_some) .none kV16 dc16 pm16 an16 cd16 ct16), sl16⟩)
    (c16 : PySem.W.codeIn K cd16 "_law_some" = true) (k16 : PySem.W.keepIn K (.ref f16) = true)
    {f17 : Addr} {od17 an17 : Option Addr} {sl17 : Array (Option Value)} {oc17 dc17 pm17 cd17 ct17 : Value}
    {kV17 : Value}
    (a17 : PySem.W.nsIn K mainGlobals "_law_power" = some (some (.ref f17)))
    (l17 : K.lookup f17 = some ⟨oc17, od17, .func (PySem.W.fnOf "_law_power" "_law_power" (defArgs s__law_power) (defBody s__law_power) (defScope s__law_power) .none kV17 dc17 pm17 an17 cd17 ct17), sl17⟩)
    (c17 : PySem.W.codeIn K cd17 "_law_power" = true) (k17 : PySem.W.keepIn K (.ref f17) = true)
    {f18 : Addr} {od18 an18 : Option Addr} {sl18 : Array (Option Value)} {oc18 dc18 pm18 cd18 ct18 : Value}
    {kV18 : Value}
    (a18 : PySem.W.nsIn K mainGlobals "_law_random_tongue" = some (some (.ref f18)))
    (l18 : K.lookup f18 = some ⟨oc18, od18, .func (PySem.W.fnOf "_law_random_tongue" "_law_random_tongue" (defArgs s__law_random_tongue) (defBody s__law_random_tongue) (defScope s__law_random_tongue) .none kV18 dc18 pm18 an18 cd18 ct18), sl18⟩)
    (c18 : PySem.W.codeIn K cd18 "_law_random_tongue" = true) (k18 : PySem.W.keepIn K (.ref f18) = true)
    {f19 : Addr} {od19 an19 : Option Addr} {sl19 : Array (Option Value)} {oc19 dc19 pm19 cd19 ct19 : Value}
    {kV19 : Value}
    (a19 : PySem.W.nsIn K mainGlobals "_law_fixed_tongues" = some (some (.ref f19)))
    (l19 : K.lookup f19 = some ⟨oc19, od19, .func (PySem.W.fnOf "_law_fixed_tongues" "_law_fixed_tongues" (defArgs s__law_fixed_tongues) (defBody s__law_fixed_tongues) (defScope s__law_fixed_tongues) .none kV19 dc19 pm19 an19 cd19 ct19), sl19⟩)
    (c19 : PySem.W.codeIn K cd19 "_law_fixed_tongues" = true) (k19 : PySem.W.keepIn K (.ref f19) = true)
    {f20 : Addr} {od20 an20 : Option Addr} {sl20 : Array (Option Value)} {oc20 dc20 pm20 cd20 ct20 : Value}
    {kV20 : Value}
    (a20 : PySem.W.nsIn K mainGlobals "_law_random_notes" = some (some (.ref f20)))
    (l20 : K.lookup f20 = some ⟨oc20, od20, .func (PySem.W.fnOf "_law_random_notes" "_law_random_notes" (defArgs s__law_random_notes) (defBody s__law_random_notes) (defScope s__law_random_notes) .none kV20 dc20 pm20 an20 cd20 ct20), sl20⟩)
    (c20 : PySem.W.codeIn K cd20 "_law_random_notes" = true) (k20 : PySem.W.keepIn K (.ref f20) = true)
    {f21 : Addr} {od21 an21 : Option Addr} {sl21 : Array (Option Value)} {oc21 dc21 pm21 cd21 ct21 : Value}
    {kV21 : Value}
    (a21 : PySem.W.nsIn K mainGlobals "_law_random_tree" = some (some (.ref f21)))
    (l21 : K.lookup f21 = some ⟨oc21, od21, .func (PySem.W.fnOf "_law_random_tree" "_law_random_tree" (defArgs s__law_random_tree) (defBody s__law_random_tree) (defScope s__law_random_tree) .none kV21 dc21 pm21 an21 cd21 ct21), sl21⟩)
    (c21 : PySem.W.codeIn K cd21 "_law_random_tree" = true) (k21 : PySem.W.keepIn K (.ref f21) = true)
    {f22 : Addr} {od22 an22 : Option Addr} {sl22 : Array (Option Value)} {oc22 dc22 pm22 cd22 ct22 : Value}
    {kV22 : Value}
    (a22 : PySem.W.nsIn K mainGlobals "_law_rows" = some (some (.ref f22)))
    (l22 : K.lookup f22 = some ⟨oc22, od22, .func (PySem.W.fnOf "_law_rows" "_law_rows" (defArgs s__law_rows) (defBody s__law_rows) (defScope s__law_rows) .none kV22 dc22 pm22 an22 cd22 ct22), sl22⟩)
    (c22 : PySem.W.codeIn K cd22 "_law_rows" = true) (k22 : PySem.W.keepIn K (.ref f22) = true)
    {f23 : Addr} {od23 an23 : Option Addr} {sl23 : Array (Option Value)} {oc23 dc23 pm23 cd23 ct23 : Value}
    {kV23 : Value}
    (a23 : PySem.W.nsIn K mainGlobals "_law_worth" = some (some (.ref f23)))
    (l23 : K.lookup f23 = some ⟨oc23, od23, .func (PySem.W.fnOf "_law_worth" "_law_worth" (defArgs s__law_worth) (defBody s__law_worth) (defScope s__law_worth) .none kV23 dc23 pm23 an23 cd23 ct23), sl23⟩)
    (c23 : PySem.W.codeIn K cd23 "_law_worth" = true) (k23 : PySem.W.keepIn K (.ref f23) = true)
    {f24 : Addr} {od24 an24 : Option Addr} {sl24 : Array (Option Value)} {oc24 dc24 pm24 cd24 ct24 : Value}
    {kV24 : Value}
    (a24 : PySem.W.nsIn K mainGlobals "_law_due" = some (some (.ref f24)))
    (l24 : K.lookup f24 = some ⟨oc24, od24, .func (PySem.W.fnOf "_law_due" "_law_due" (defArgs s__law_due) (defBody s__law_due) (defScope s__law_due) .none kV24 dc24 pm24 an24 cd24 ct24), sl24⟩)
    (c24 : PySem.W.codeIn K cd24 "_law_due" = true) (k24 : PySem.W.keepIn K (.ref f24) = true)
    {f25 : Addr} {od25 an25 : Option Addr} {sl25 : Array (Option Value)} {oc25 dc25 pm25 cd25 ct25 : Value}
    {kV25 : Value}
    (a25 : PySem.W.nsIn K mainGlobals "_law_odd_rows" = some (some (.ref f25)))
    (l25 : K.lookup f25 = some ⟨oc25, od25, .func (PySem.W.fnOf "_law_odd_rows" "_law_odd_rows" (defArgs s__law_odd_rows) (defBody s__law_odd_rows) (defScope s__law_odd_rows) .none kV25 dc25 pm25 an25 cd25 ct25), sl25⟩)
    (c25 : PySem.W.codeIn K cd25 "_law_odd_rows" = true) (k25 : PySem.W.keepIn K (.ref f25) = true)
    {f26 cA26 P26 : Addr} {od26 an26 odA26 : Option Addr} {sl26 slA26 : Array (Option Value)} {oc26 ocA26 dc26 pm26 ct26 : Value} {vsA26 : Array Value}
    {kV26 : Value}
    (a26 : PySem.W.nsIn K mainGlobals "law" = some (some (.ref f26)))
    (l26 : K.lookup f26 = some ⟨oc26, od26, .func (PySem.W.fnOf "law" "law" (defArgs s_law) (defBody s_law) (defScope s_law) .none kV26 dc26 pm26 an26 (.ref cA26) ct26), sl26⟩)
    (c26 : PySem.W.codeIn K (.ref cA26) "law" = true) (k26 : PySem.W.keepIn K (.ref f26) = true)
    (lA26 : K.lookup cA26 = some ⟨ocA26, odA26, .fields vsA26, slA26⟩) (vA26 : vsA26[11]? = some (.ref P26)) (nA26 : K.lookup P26 = none) (mA26 : P26 ∈ ts) (hA26 : PySem.W.codeHdIn K cA26 P26 = true)
    (z_ValueError : PySem.W.nsIn K mainGlobals "ValueError" = some none)
    (z_bool : PySem.W.nsIn K mainGlobals "bool" = some none)
    (z_dict : PySem.W.nsIn K mainGlobals "dict" = some none)
    (z_enumerate : PySem.W.nsIn K mainGlobals "enumerate" = some none)
    (z_int : PySem.W.nsIn K mainGlobals "int" = some none)
    (z_isinstance : PySem.W.nsIn K mainGlobals "isinstance" = some none)
    (z_len : PySem.W.nsIn K mainGlobals "len" = some none)
    (z_list : PySem.W.nsIn K mainGlobals "list" = some none)
    (z_max : PySem.W.nsIn K mainGlobals "max" = some none)
    (z_range : PySem.W.nsIn K mainGlobals "range" = some none)
    (z_repr : PySem.W.nsIn K mainGlobals "repr" = some none)
    (z_sorted : PySem.W.nsIn K mainGlobals "sorted" = some none)
    (z_tuple : PySem.W.nsIn K mainGlobals "tuple" = some none)
    (z_zip : PySem.W.nsIn K mainGlobals "zip" = some none)
    (tb : tabsL K = [(P26, (("law" : Str) ++ ".<locals>." ++ "<lambda>" : Str))])
    {A_HouseError : Addr} (aE_HouseError : PySem.W.nsIn K mainGlobals "HouseError" = some (some (.ref A_HouseError)))
    {A_Hurt : Addr} (aE_Hurt : PySem.W.nsIn K mainGlobals "Hurt" = some (some (.ref A_Hurt)))
    {A_InvalidEvent : Addr} (aE_InvalidEvent : PySem.W.nsIn K mainGlobals "InvalidEvent" = some (some (.ref A_InvalidEvent)))
    {A_InvalidPaper : Addr} (aE_InvalidPaper : PySem.W.nsIn K mainGlobals "InvalidPaper" = some (some (.ref A_InvalidPaper)))
    {A_InvalidRow : Addr} (aE_InvalidRow : PySem.W.nsIn K mainGlobals "InvalidRow" = some (some (.ref A_InvalidRow)))
    {A_InvalidText : Addr} (aE_InvalidText : PySem.W.nsIn K mainGlobals "InvalidText" = some (some (.ref A_InvalidText)))
    {A_NoFinding : Addr} (aE_NoFinding : PySem.W.nsIn K mainGlobals "NoFinding" = some (some (.ref A_NoFinding)))
    {A_NotUsable : Addr} (aE_NotUsable : PySem.W.nsIn K mainGlobals "NotUsable" = some (some (.ref A_NotUsable)))
    {A_NothingToUndo : Addr} (aE_NothingToUndo : PySem.W.nsIn K mainGlobals "NothingToUndo" = some (some (.ref A_NothingToUndo)))
    {A_PaperError : Addr} (aE_PaperError : PySem.W.nsIn K mainGlobals "PaperError" = some (some (.ref A_PaperError)))
    {A_RuleError : Addr} (aE_RuleError : PySem.W.nsIn K mainGlobals "RuleError" = some (some (.ref A_RuleError)))
    {A_TextError : Addr} (aE_TextError : PySem.W.nsIn K mainGlobals "TextError" = some (some (.ref A_TextError)))
    {A_TidyError : Addr} (aE_TidyError : PySem.W.nsIn K mainGlobals "TidyError" = some (some (.ref A_TidyError)))
    {A_TooMany : Addr} (aE_TooMany : PySem.W.nsIn K mainGlobals "TooMany" = some (some (.ref A_TooMany)))
    {A_UnknownPlace : Addr} (aE_UnknownPlace : PySem.W.nsIn K mainGlobals "UnknownPlace" = some (some (.ref A_UnknownPlace)))
    (hE_TidyError : PySem.W.subIn K (.ref A_TidyError) (.type "BaseException") = some true)
    {C_NotUsable fI_NotUsable cc_NotUsable cI_NotUsable : Addr} (E_NotUsable : Te.ExQ l.prog K "NotUsable" "NotUsable.__init__" (defArgs s_NotUsable) (defBody s_NotUsable) (defScope s_NotUsable) C_NotUsable fI_NotUsable cc_NotUsable cI_NotUsable)
    (nE_NotUsable_word : PySem.W.findIn K (.ref C_NotUsable) "word" = some none)
    (nE_NotUsable_at : PySem.W.findIn K (.ref C_NotUsable) "at" = some none)
    (iE_NotUsable_HouseError : PySem.W.kitOne K (.ref C_NotUsable) (.ref A_HouseError) = some false)
    (iE_NotUsable_Hurt : PySem.W.kitOne K (.ref C_NotUsable) (.ref A_Hurt) = some false)
    (iE_NotUsable_InvalidEvent : PySem.W.kitOne K (.ref C_NotUsable) (.ref A_InvalidEvent) = some false)
    (iE_NotUsable_InvalidPaper : PySem.W.kitOne K (.ref C_NotUsable) (.ref A_InvalidPaper) = some false)
    (iE_NotUsable_InvalidRow : PySem.W.kitOne K (.ref C_NotUsable) (.ref A_InvalidRow) = some false)
    (iE_NotUsable_InvalidText : PySem.W.kitOne K (.ref C_NotUsable) (.ref A_InvalidText) = some false)
    (iE_NotUsable_NoFinding : PySem.W.kitOne K (.ref C_NotUsable) (.ref A_NoFinding) = some false)
    (iE_NotUsable_NotUsable : PySem.W.kitOne K (.ref C_NotUsable) (.ref A_NotUsable) = some true)
    (iE_NotUsable_NothingToUndo : PySem.W.kitOne K (.ref C_NotUsable) (.ref A_NothingToUndo) = some false)
    (iE_NotUsable_PaperError : PySem.W.kitOne K (.ref C_NotUsable) (.ref A_PaperError) = some false)
    (iE_NotUsable_RuleError : PySem.W.kitOne K (.ref C_NotUsable) (.ref A_RuleError) = some true)
    (iE_NotUsable_TextError : PySem.W.kitOne K (.ref C_NotUsable) (.ref A_TextError) = some false)
    (iE_NotUsable_TidyError : PySem.W.kitOne K (.ref C_NotUsable) (.ref A_TidyError) = some true)
    (iE_NotUsable_TooMany : PySem.W.kitOne K (.ref C_NotUsable) (.ref A_TooMany) = some false)
    (iE_NotUsable_UnknownPlace : PySem.W.kitOne K (.ref C_NotUsable) (.ref A_UnknownPlace) = some false)
    (iE_NotUsable_ValueError : PySem.W.kitOne K (.ref C_NotUsable) (.type "ValueError") = some true)
    (qE_NotUsable_TidyError : (Value.ref C_NotUsable == Value.ref A_TidyError) = false)
    : ∃ (fd : FuncData) (cs : List (Addr × Addr)), (∀ p ∈ cs, K.lookup p.2 = none ∧ p.2 ∈ ts ∧ PySem.W.codeHdIn K p.1 p.2 = true) ∧ (∀ t ∈ tabsL K, ∃ c, (c, t.1) ∈ cs) ∧ (∀ (s : Shared) (v : Value), BindsTo s fd ⟨[v], []⟩ [("_law_script", v)]) ∧ ∀ base : Heap, K.In base → base.Ns mainGlobals mg → (∀ p ∈ cs, LamX.TabB base mg p.1 p.2) → FnG l.prog w K mg base 19 fa fd ["_law_script"] F_law := by
  have e := hfa.symm.trans (PySem.W.mg_of X G a26)
  cases e
  have main : ∀ T : Tx l.prog K mg, T.d_law.f = fa → T.d_law.fd = PySem.W.fnOf "law" "law" (defArgs s_law) (defBody s_law) (defScope s_law) .none kV26 dc26 pm26 an26 (.ref cA26) ct26 → T.l_law.c = cA26 → T.l_law.P = P26 → ∃ (fd : FuncData) (cs : List (Addr × Addr)), (∀ p ∈ cs, K.lookup p.2 = none ∧ p.2 ∈ ts ∧ PySem.W.codeHdIn K p.1 p.2 = true) ∧ (∀ t ∈ tabsL K, ∃ c, (c, t.1) ∈ cs) ∧ (∀ (s : Shared) (v : Value), BindsTo s fd ⟨[v], []⟩ [("_law_script", v)]) ∧ ∀ base : Heap, K.In base → base.Ns mainGlobals mg → (∀ p ∈ cs, LamX.TabB base mg p.1 p.2) → FnG l.prog w K mg base 19 fa fd ["_law_script"] F_law := by
    intro T e1 e2 eC26 eP26
    refine ⟨T.d_law.fd, [(cA26, P26)], fun p hp => ?_, fun t ht => ?_, fun s v => ?_, fun base _ _ TB => ?_⟩
    · simp only [List.mem_cons, List.not_mem_nil, or_false] at hp
      rcases hp with rfl
      · exact ⟨nA26, mA26, hA26⟩
    · rw [tb] at ht
      simp only [List.mem_cons, List.not_mem_nil, or_false] at ht
      rcases ht with rfl
      · exact ⟨cA26, by simp⟩
    · rw [e2]; exact .of_eq rfl
    · rw [← e1]; exact (G_law T ⟨by rw [eC26, eP26]; exact TB (cA26, P26) (by simp), hg__law_outcome⟩).fn
  exact main {
    k_Meaning := ⟨C_Meaning, aC_Meaning, PySem.W.mg_of X G aC_Meaning, ⟨pg_Meaning, hd_Meaning, po_Meaning, sa_Meaning⟩⟩
    d_is_integer := defAt_mk X G a0 l0 c0 k0 fun _ _ _ _ _ _ us hl => match us, hl with | [_], _ => rfl
    d_is_number := defAt_mk X G a1 l1 c1 k1 fun _ _ _ _ _ _ us hl => match us, hl with | [_], _ => rfl
    m_Meaning___init__ := ⟨f2, _, fun_mk l2 c2 k2, ⟨a2, i2, k2⟩, (fun_mk l2 c2 k2).binds fun _ _ _ _ _ _ us hl => match us, hl with | [_, _], _ => rfl⟩
    m_Meaning_is_value := ⟨f3, _, fun_mk l3 c3 k3, ⟨a3, i3, k3⟩, (fun_mk l3 c3 k3).binds fun _ _ _ _ _ _ us hl => match us, hl with | [_, _], _ => rfl⟩
    m_Meaning_rows := ⟨f4, _, fun_mk l4 c4 k4, ⟨a4, i4, k4⟩, (fun_mk l4 c4 k4).binds fun _ _ _ _ _ _ us hl => match us, hl with | [_], _ => rfl⟩
    m_Meaning_value := ⟨f5, _, fun_mk l5 c5 k5, ⟨a5, i5, k5⟩, (fun_mk l5 c5 k5).binds fun _ _ _ _ _ _ us hl => match us, hl with | [_, _, _], _ => rfl⟩
    m_Meaning_values := ⟨f6, _, fun_mk l6 c6 k6, ⟨a6, i6, k6⟩, (fun_mk l6 c6 k6).binds fun _ _ _ _ _ _ us hl => match us, hl with | [_, _], _ => rfl⟩
    d_value_of := defAt_mk X G a7 l7 c7 k7 fun _ _ _ _ _ _ us hl => match us, hl with | [_, _, _], _ => rfl
    d_table_of := defAt_mk X G a8 l8 c8 k8 fun _ _ _ _ _ _ us hl => match us, hl with | [_, _], _ => rfl
    d__law_reader := defAt_mk X G a9 l9 c9 k9 fun _ _ _ _ _ _ us hl => match us, hl with | [_], _ => rfl
    d__law_draw := defAt_mk X G a10 l10 c10 k10 fun _ _ _ _ _ _ us hl => match us, hl with | [_, _], _ => rfl
    d__law_is_number := defAt_mk X G a11 l11 c11 k11 fun _ _ _ _ _ _ us hl => match us, hl with | [_], _ => rfl
    d__law_class_flags := defAt_mk X G a12 l12 c12 k12 fun _ _ _ _ _ _ us hl => match us, hl with | [_], _ => rfl
    d__law_own_flags := defAt_mk X G a13 l13 c13 k13 fun _ _ _ _ _ _ us hl => match us, hl with | [_], _ => rfl
    d__law_fields := defAt_mk X G a14 l14 c14 k14 fun _ _ _ _ _ _ us hl => match us, hl with | [_, _], _ => rfl
    d__law_outcome := defAt_mk X G a15 l15 c15 k15 fun _ _ _ _ _ _ us hl => match us, hl with | [_], _ => rfl
    d__law_some := defAt_mk X G a16 l16 c16 k16 fun _ _ _ _ _ _ us hl => match us, hl with | [_, _, _, _], _ => rfl
    d__law_power := defAt_mk X G a17 l17 c17 k17 fun _ _ _ _ _ _ us hl => match us, hl with | [_, _], _ => rfl
    d__law_random_tongue := defAt_mk X G a18 l18 c18 k18 fun _ _ _ _ _ _ us hl => match us, hl with | [_], _ => rfl
    d__law_fixed_tongues := defAt_mk X G a19 l19 c19 k19 fun _ _ _ _ _ _ us hl => match us, hl with | [], _ => rfl
    d__law_random_notes := defAt_mk X G a20 l20 c20 k20 fun _ _ _ _ _ _ us hl => match us, hl with | [_], _ => rfl
    d__law_random_tree := defAt_mk X G a21 l21 c21 k21 fun _ _ _ _ _ _ us hl => match us, hl with | [_, _, _], _ => rfl
    d__law_rows := defAt_mk X G a22 l22 c22 k22 fun _ _ _ _ _ _ us hl => match us, hl with | [_, _], _ => rfl
    d__law_worth := defAt_mk X G a23 l23 c23 k23 fun _ _ _ _ _ _ us hl => match us, hl with | [_, _, _], _ => rfl
    d__law_due := defAt_mk X G a24 l24 c24 k24 fun _ _ _ _ _ _ us hl => match us, hl with | [_, _, _], _ => rfl
    d__law_odd_rows := defAt_mk X G a25 l25 c25 k25 fun _ _ _ _ _ _ us hl => match us, hl with | [_, _], _ => rfl
    d_law := defAt_mk X G a26 l26 c26 k26 fun _ _ _ _ _ _ us hl => match us, hl with | [_], _ => rfl
    nf_Meaning_word := nf_Meaning_word
    nf_Meaning_at := nf_Meaning_at
    nf_Meaning_place := nf_Meaning_place
    nf_Meaning_finding := nf_Meaning_finding
    nf_Meaning_other := nf_Meaning_other
    nf_Meaning_most := nf_Meaning_most
    nf_Meaning_event := nf_Meaning_event
    nf_Meaning_reason := nf_Meaning_reason
    nf_Meaning_steps := nf_Meaning_steps
    nf_Meaning_line := nf_Meaning_line
    nf_Meaning_field := nf_Meaning_field
    nf_Meaning_row := nf_Meaning_row
    nf_Meaning_tables := nf_Meaning_tables
    nf_Meaning_size := nf_Meaning_size
    nf_Meaning_inputs := nf_Meaning_inputs
    mk_Meaning := ⟨mk_Meaning, a2, i2, kc_Meaning⟩
    b_ValueError := PySem.W.mg_none_of X G z_ValueError
    b_bool := PySem.W.mg_none_of X G z_bool
    b_dict := PySem.W.mg_none_of X G z_dict
    b_enumerate := PySem.W.mg_none_of X G z_enumerate
    b_int := PySem.W.mg_none_of X G z_int
    b_isinstance := PySem.W.mg_none_of X G z_isinstance
    b_len := PySem.W.mg_none_of X G z_len
    b_list := PySem.W.mg_none_of X G z_list
    b_max := PySem.W.mg_none_of X G z_max
    b_range := PySem.W.mg_none_of X G z_range
    b_repr := PySem.W.mg_none_of X G z_repr
    b_sorted := PySem.W.mg_none_of X G z_sorted
    b_tuple := PySem.W.mg_none_of X G z_tuple
    b_zip := PySem.W.mg_none_of X G z_zip
    e_HouseError := ⟨A_HouseError, PySem.W.mg_of X G aE_HouseError⟩
    e_Hurt := ⟨A_Hurt, PySem.W.mg_of X G aE_Hurt⟩
    e_InvalidEvent := ⟨A_InvalidEvent, PySem.W.mg_of X G aE_InvalidEvent⟩
    e_InvalidPaper := ⟨A_InvalidPaper, PySem.W.mg_of X G aE_InvalidPaper⟩
    e_InvalidRow := ⟨A_InvalidRow, PySem.W.mg_of X G aE_InvalidRow⟩
    e_InvalidText := ⟨A_InvalidText, PySem.W.mg_of X G aE_InvalidText⟩
    e_NoFinding := ⟨A_NoFinding, PySem.W.mg_of X G aE_NoFinding⟩
    e_NotUsable := ⟨A_NotUsable, PySem.W.mg_of X G aE_NotUsable⟩
    e_NothingToUndo := ⟨A_NothingToUndo, PySem.W.mg_of X G aE_NothingToUndo⟩
    e_PaperError := ⟨A_PaperError, PySem.W.mg_of X G aE_PaperError⟩
    e_RuleError := ⟨A_RuleError, PySem.W.mg_of X G aE_RuleError⟩
    e_TextError := ⟨A_TextError, PySem.W.mg_of X G aE_TextError⟩
    e_TidyError := ⟨A_TidyError, PySem.W.mg_of X G aE_TidyError⟩
    e_TooMany := ⟨A_TooMany, PySem.W.mg_of X G aE_TooMany⟩
    e_UnknownPlace := ⟨A_UnknownPlace, PySem.W.mg_of X G aE_UnknownPlace⟩
    h_TidyError := hE_TidyError
    x_NotUsable := E_NotUsable.mk1 X G (fun f hf => by simp only [List.mem_cons, List.not_mem_nil, or_false] at hf; rcases hf with rfl | rfl <;> first | exact nE_NotUsable_word | exact nE_NotUsable_at) (fun us hl => match us, hl with | [_, _, _], _ => rfl) (ini_NotUsable (mg := mg) E_NotUsable (fun f hf => by simp only [List.mem_cons, List.not_mem_nil, or_false] at hf; rcases hf with rfl | rfl <;> first | exact nE_NotUsable_word | exact nE_NotUsable_at))
    i_NotUsable_HouseError := iE_NotUsable_HouseError
    i_NotUsable_Hurt := iE_NotUsable_Hurt
    i_NotUsable_InvalidEvent := iE_NotUsable_InvalidEvent
    i_NotUsable_InvalidPaper := iE_NotUsable_InvalidPaper
    i_NotUsable_InvalidRow := iE_NotUsable_InvalidRow
    i_NotUsable_InvalidText := iE_NotUsable_InvalidText
    i_NotUsable_NoFinding := iE_NotUsable_NoFinding
    i_NotUsable_NotUsable := iE_NotUsable_NotUsable
    i_NotUsable_NothingToUndo := iE_NotUsable_NothingToUndo
    i_NotUsable_PaperError := iE_NotUsable_PaperError
    i_NotUsable_RuleError := iE_NotUsable_RuleError
    i_NotUsable_TextError := iE_NotUsable_TextError
    i_NotUsable_TidyError := iE_NotUsable_TidyError
    i_NotUsable_TooMany := iE_NotUsable_TooMany
    i_NotUsable_UnknownPlace := iE_NotUsable_UnknownPlace
    i_NotUsable_ValueError := iE_NotUsable_ValueError
    n_NotUsable_TidyError := qE_NotUsable_TidyError
    l_law := ⟨cA26, P26, rfl, by rw [tb]; simp, fun p hp e => by rw [tb] at hp; simp only [List.mem_cons, List.not_mem_nil, or_false] at hp; rcases hp with rfl; (exact rfl)⟩
  } rfl rfl rfl rfl
end Tk
open PySem PySem.W PyProof.Rows
set_option maxRecDepth 100000 in
set_option maxHeartbeats 0 in
theorem PySem.Challenge.cw_tidyrules_k07_values_told_holds : PySem.Challenge.rw_tidyrules_k07_values_told.Holds := by
  w_on; o_law; k_head; (case hw => w_witness2)
  k_fill
  refine Te.walkGT (l := PySem.Challenge.rw_tidyrules_k07_values_told) (n := 63) (k := 19) (x := "_law_script") (gf := Tk.F_law) rfl (by decide) rfl ⟨rfl, by decide, by decide⟩ (fun w h Y => PySem.W.km_in_of Y) (fun w h Y => PySem.W.km_tabs_of Y) ?F Tk.main
  case F =>
    intro w mg fa h KX G hmg
    refine' Tk.all_mk KX G hmg ?aC_Meaning ?pg_Meaning ?hd_Meaning ?po_Meaning ?sa_Meaning ?mk_Meaning ?kc_Meaning ?nf_Meaning_word ?nf_Meaning_at ?nf_Meaning_place ?nf_Meaning_finding ?nf_Meaning_other ?nf_Meaning_most ?nf_Meaning_event ?nf_Meaning_reason ?nf_Meaning_steps ?nf_Meaning_line ?nf_Meaning_field ?nf_Meaning_row ?nf_Meaning_tables ?nf_Meaning_size ?nf_Meaning_inputs ?a0 ?l0 ?c0 ?k0 ?a1 ?l1 ?c1 ?k1 ?a2 ?i2 ?l2 ?c2 ?k2 ?a3 ?i3 ?l3 ?c3 ?k3 ?a4 ?i4 ?l4 ?c4 ?k4 ?a5 ?i5 ?l5 ?c5 ?k5 ?a6 ?i6 ?l6 ?c6 ?k6 ?a7 ?l7 ?c7 ?k7 ?a8 ?l8 ?c8 ?k8 ?a9 ?l9 ?c9 ?k9 ?a10 ?l10 ?c10 ?k10 ?a11 ?l11 ?c11 ?k11 ?a12 ?l12 ?c12 ?k12 ?a13 ?l13 ?c13 ?k13 ?a14 ?l14 ?c14 ?k14 ?a15 ?l15 ?c15 ?k15 ?a16 ?l16 ?c16 ?k16 ?a17 ?l17 ?c17 ?k17 ?a18 ?l18 ?c18 ?k18 ?a19 ?l19 ?c19 ?k19 ?a20 ?l20 ?c20 ?k20 ?a21 ?l21 ?c21 ?k21 ?a22 ?l22 ?c22 ?k22 ?a23 ?l23 ?c23 ?k23 ?a24 ?l24 ?c24 ?k24 ?a25 ?l25 ?c25 ?k25 ?a26 ?l26 ?c26 ?k26 ?lA26 ?vA26 ?nA26 ?mA26 ?hA26 ?z_ValueError ?z_bool ?z_dict ?z_enumerate ?z_int ?z_isinstance ?z_len ?z_list ?z_max ?z_range ?z_repr ?z_sorted ?z_tuple ?z_zip ?tb ?aE_HouseError ?aE_Hurt ?aE_InvalidEvent ?aE_InvalidPaper ?aE_InvalidRow ?aE_InvalidText ?aE_NoFinding ?aE_NotUsable ?aE_NothingToUndo ?aE_PaperError ?aE_RuleError ?aE_TextError ?aE_TidyError ?aE_TooMany ?aE_UnknownPlace ?hE_TidyError ?E_NotUsable ?nE_NotUsable_word ?nE_NotUsable_at ?iE_NotUsable_HouseError ?iE_NotUsable_Hurt ?iE_NotUsable_InvalidEvent ?iE_NotUsable_InvalidPaper ?iE_NotUsable_InvalidRow ?iE_NotUsable_InvalidText ?iE_NotUsable_NoFinding ?iE_NotUsable_NotUsable ?iE_NotUsable_NothingToUndo ?iE_NotUsable_PaperError ?iE_NotUsable_RuleError ?iE_NotUsable_TextError ?iE_NotUsable_TidyError ?iE_NotUsable_TooMany ?iE_NotUsable_UnknownPlace ?iE_NotUsable_ValueError ?qE_NotUsable_TidyError
    (case aC_Meaning => k_is)
    (case pg_Meaning => k_is)
    (case hd_Meaning => k_is)
    (case po_Meaning => k_is)
    (case sa_Meaning => k_is)
    (case mk_Meaning => k_is)
    (case kc_Meaning => k_is)
    (case nf_Meaning_word => k_is)
    (case nf_Meaning_at => k_is)
    (case nf_Meaning_place => k_is)
    (case nf_Meaning_finding => k_is)
    (case nf_Meaning_other => k_is)
    (case nf_Meaning_most => k_is)
    (case nf_Meaning_event => k_is)
    (case nf_Meaning_reason => k_is)
    (case nf_Meaning_steps => k_is)
    (case nf_Meaning_line => k_is)
    (case nf_Meaning_field => k_is)
    (case nf_Meaning_row => k_is)
    (case nf_Meaning_tables => k_is)
    (case nf_Meaning_size => k_is)
    (case nf_Meaning_inputs => k_is)
    (case a0 => k_is)
    (case l0 => k_is)
    (case c0 => k_is)
    (case k0 => k_is)
    (case a1 => k_is)
    (case l1 => k_is)
    (case c1 => k_is)
    (case k1 => k_is)
    (case a2 => k_is)
    (case i2 => k_is)
    (case l2 => k_is)
    (case c2 => k_is)
    (case k2 => k_is)
    (case a3 => k_is)
    (case i3 => k_is)
    (case l3 => k_is)
    (case c3 => k_is)
    (case k3 => k_is)
    (case a4 => k_is)
    (case i4 => k_is)
    (case l4 => k_is)
    (case c4 => k_is)
    (case k4 => k_is)
    (case a5 => k_is)
    (case i5 => k_is)
    (case l5 => k_is)
    (case c5 => k_is)
    (case k5 => k_is)
    (case a6 => k_is)
    (case i6 => k_is)
    (case l6 => k_is)
    (case c6 => k_is)
    (case k6 => k_is)
    (case a7 => k_is)
    (case l7 => k_is)
    (case c7 => k_is)
    (case k7 => k_is)
    (case a8 => k_is)
    (case l8 => k_is)
    (case c8 => k_is)
    (case k8 => k_is)
    (case a9 => k_is)
    (case l9 => k_is)
    (case c9 => k_is)
    (case k9 => k_is)
    (case a10 => k_is)
    (case l10 => k_is)
    (case c10 => k_is)
    (case k10 => k_is)
    (case a11 => k_is)
    (case l11 => k_is)
    (case c11 => k_is)
    (case k11 => k_is)
    (case a12 => k_is)
    (case l12 => k_is)
    (case c12 => k_is)
    (case k12 => k_is)
    (case a13 => k_is)
    (case l13 => k_is)
    (case c13 => k_is)
    (case k13 => k_is)
    (case a14 => k_is)
    (case l14 => k_is)
    (case c14 => k_is)
    (case k14 => k_is)
    (case a15 => k_is)
    (case l15 => k_is)
    (case c15 => k_is)
    (case k15 => k_is)
    (case a16 => k_is)
    (case l16 => k_is)
    (case c16 => k_is)
    (case k16 => k_is)
    (case a17 => k_is)
    (case l17 => k_is)
    (case c17 => k_is)
    (case k17 => k_is)
    (case a18 => k_is)
    (case l18 => k_is)
    (case c18 => k_is)
    (case k18 => k_is)
    (case a19 => k_is)
    (case l19 => k_is)
    (case c19 => k_is)
    (case k19 => k_is)
    (case a20 => k_is)
    (case l20 => k_is)
    (case c20 => k_is)
    (case k20 => k_is)
    (case a21 => k_is)
    (case l21 => k_is)
    (case c21 => k_is)
    (case k21 => k_is)
    (case a22 => k_is)
    (case l22 => k_is)
    (case c22 => k_is)
    (case k22 => k_is)
    (case a23 => k_is)
    (case l23 => k_is)
    (case c23 => k_is)
    (case k23 => k_is)
    (case a24 => k_is)
    (case l24 => k_is)
    (case c24 => k_is)
    (case k24 => k_is)
    (case a25 => k_is)
    (case l25 => k_is)
    (case c25 => k_is)
    (case k25 => k_is)
    (case a26 => k_is)
    (case l26 => k_is)
    (case c26 => k_is)
    (case k26 => k_is)
    (case lA26 => k_is)
    (case vA26 => rfl)
    (case nA26 => first | kernel_rfl | rfl)
    (case mA26 => first | decide | simp)
    (case hA26 => first | kernel_rfl | rfl)
    (case z_ValueError => k_is)
    (case z_bool => k_is)
    (case z_dict => k_is)
    (case z_enumerate => k_is)
    (case z_int => k_is)
    (case z_isinstance => k_is)
    (case z_len => k_is)
    (case z_list => k_is)
    (case z_max => k_is)
    (case z_range => k_is)
    (case z_repr => k_is)
    (case z_sorted => k_is)
    (case z_tuple => k_is)
    (case z_zip => k_is)
    (case tb => first | kernel_rfl | rfl)
    (case aE_HouseError => k_is)
    (case aE_Hurt => k_is)
    (case aE_InvalidEvent => k_is)
    (case aE_InvalidPaper => k_is)
    (case aE_InvalidRow => k_is)
    (case aE_InvalidText => k_is)
    (case aE_NoFinding => k_is)
    (case aE_NotUsable => k_is)
    (case aE_NothingToUndo => k_is)
    (case aE_PaperError => k_is)
    (case aE_RuleError => k_is)
    (case aE_TextError => k_is)
    (case aE_TidyError => k_is)
    (case aE_TooMany => k_is)
    (case aE_UnknownPlace => k_is)
    (case hE_TidyError => k_is)
    (case' E_NotUsable => refine' Te.exQ_of ?aC_NotUsable ?lC_NotUsable ?rV_NotUsable ?sa_NotUsable ?eC_NotUsable ?tC_NotUsable ?kC_NotUsable ?ga_NotUsable ?gg_NotUsable ?hd_NotUsable ?ca_NotUsable ?cn_NotUsable ?ct_NotUsable ?cm_NotUsable ?aI_NotUsable ?tI_NotUsable ?lI_NotUsable ?cI_NotUsable ?lc_NotUsable ?v2_NotUsable ?ef_NotUsable ?ll_NotUsable ?ms_NotUsable ?su_NotUsable ?any_NotUsable ?si_NotUsable ?sv_NotUsable ?tp_NotUsable)
    (case aC_NotUsable => k_is)
    (case lC_NotUsable => k_is)
    (case rV_NotUsable => rfl)
    (case sa_NotUsable => k_is)
    (case eC_NotUsable => k_is)
    (case tC_NotUsable => k_is)
    (case kC_NotUsable => k_is)
    (case ga_NotUsable => k_is)
    (case gg_NotUsable => k_is)
    (case hd_NotUsable => k_is)
    (case ca_NotUsable => k_is)
    (case cn_NotUsable => k_is)
    (case ct_NotUsable => k_is)
    (case cm_NotUsable => k_is)
    (case aI_NotUsable => k_is)
    (case tI_NotUsable => k_is)
    (case lI_NotUsable => k_is)
    (case cI_NotUsable => k_is)
    (case lc_NotUsable => k_is)
    (case v2_NotUsable => rfl)
    (case ef_NotUsable => rfl)
    (case ll_NotUsable => k_is)
    (case ms_NotUsable => k_is)
    (case su_NotUsable => k_is)
    (case any_NotUsable => k_is)
    (case si_NotUsable => ks_is)
    (case sv_NotUsable => k_is)
    (case tp_NotUsable => rfl)
    (case nE_NotUsable_word => k_is)
    (case nE_NotUsable_at => k_is)
    (case iE_NotUsable_HouseError => kit_is)
    (case iE_NotUsable_Hurt => kit_is)
    (case iE_NotUsable_InvalidEvent => kit_is)
    (case iE_NotUsable_InvalidPaper => kit_is)
    (case iE_NotUsable_InvalidRow => kit_is)
    (case iE_NotUsable_InvalidText => kit_is)
    (case iE_NotUsable_NoFinding => kit_is)
    (case iE_NotUsable_NotUsable => kit_is)
    (case iE_NotUsable_NothingToUndo => kit_is)
    (case iE_NotUsable_PaperError => kit_is)
    (case iE_NotUsable_RuleError => kit_is)
    (case iE_NotUsable_TextError => kit_is)
    (case iE_NotUsable_TidyError => kit_is)
    (case iE_NotUsable_TooMany => kit_is)
    (case iE_NotUsable_UnknownPlace => kit_is)
    (case iE_NotUsable_ValueError => kit_is)
    (case qE_NotUsable_TidyError => decide)

