import PyProof.Rows.All
import Wide.All
import OpenK.AllK
import Wide.FinOn
import HandS.ForMost
import HandS.TupAny
import HandS.TupMul
import HandS.IsInst
import HandS.Zip
import HandS.Style
import HandS.SortInts
import HandS.Walk
import HandS.Wide
import HandS.Defaults
import HandS.Deep
import KE.GoesZip
import HandS.Dict
import KE.KDictZip
import PySem.Challenge.RW_staletiers_k05_whole_equal_or_separated
set_option Elab.async false
set_option linter.all false
set_option maxRecDepth 100000
/-! The data layer, part 1: data held by values, environments of data, steps. -/
namespace Dl
open PySem L2

abbrev Av := Addr → Prop
mutual
/-- the value holds the data; no list of it stands at an address of A -/
inductive Rp (A : Av) (H : Hp) : V → PyData → Prop
  | non : Rp A H .non .none
  | bl (b : Bool) : Rp A H (.bl b) (.bool b)
  | int (i : Int) : Rp A H (.int i) (.int i)
  | str (x : Str) : Rp A H (.str x) (.str x)
  | lst {a : Addr} {xs : List V} {ds : List PyData} : ¬ A a → H a = some (.lst xs) → RpAll A H xs ds → Rp A H (.ref a) (.list ds)
  | tup {a : Addr} {xs : List V} {ds : List PyData} : H a = some (.tup xs) → RpAll A H xs ds → Rp A H (.ref a) (.tuple ds)
inductive RpAll (A : Av) (H : Hp) : List V → List PyData → Prop
  | nil : RpAll A H [] []
  | cons {v : V} {vs : List V} {d : PyData} {ds : List PyData} : Rp A H v d → RpAll A H vs ds → RpAll A H (v :: vs) (d :: ds)
end

/-- what lists and tuples need to pass from one heap to another -/
structure Pass (A A' : Av) (H H' : Hp) : Prop where
  l : ∀ a xs, ¬ A a → H a = some (.lst xs) → ¬ A' a ∧ H' a = some (.lst xs)
  t : ∀ a xs, H a = some (.tup xs) → H' a = some (.tup xs)

mutual
theorem Rp.pass {A A' : Av} {H H' : Hp} (p : Pass A A' H H') : ∀ (d : PyData) (v : V), Rp A H v d → Rp A' H' v d
  | .none, _, h => by cases h; exact .non
  | .bool b, _, h => by cases h; exact .bl b
  | .int i, _, h => by cases h; exact .int i
  | .str x, _, h => by cases h; exact .str x
  | .list ds, _, h => by
    cases h with
    | lst na e r => exact .lst (p.l _ _ na e).1 (p.l _ _ na e).2 (RpAll.pass p ds _ r)
  | .tuple ds, _, h => by
    cases h with
    | tup e r => exact .tup (p.t _ _ e) (RpAll.pass p ds _ r)
  | .dict _, _, h => by cases h
theorem RpAll.pass {A A' : Av} {H H' : Hp} (p : Pass A A' H H') : ∀ (ds : List PyData) (vs : List V), RpAll A H vs ds → RpAll A' H' vs ds
  | [], _, h => by cases h; exact .nil
  | d :: ds, _, h => by
    cases h with
    | cons h1 h2 => exact .cons (Rp.pass p d _ h1) (RpAll.pass p ds _ h2)
end

theorem RpAll.len {A : Av} {H : Hp} : ∀ {vs : List V} {ds : List PyData}, RpAll A H vs ds → vs.length = ds.length
  | _, _, .nil => rfl
  | _, _, .cons _ h => by simp [RpAll.len h]
theorem RpAll.get {A : Av} {H : Hp} : ∀ {vs : List V} {ds : List PyData} {i : Nat} {d : PyData}, RpAll A H vs ds → ds[i]? = some d → ∃ v, vs[i]? = some v ∧ Rp A H v d
  | _, _, _, _, .nil, e => by simp at e
  | _, _, 0, _, .cons h _, e => by simp at e; subst e; exact ⟨_, rfl, h⟩
  | _, _, i + 1, _, .cons _ h, e => by simpa using RpAll.get h (by simpa using e)
theorem RpAll.app {A : Av} {H : Hp} : ∀ {vs : List V} {ds : List PyData} {ws : List V} {es : List PyData}, RpAll A H vs ds → RpAll A H ws es → RpAll A H (vs ++ ws) (ds ++ es)
  | _, _, _, _, .nil, h => h
  | _, _, _, _, .cons h1 h2, h => .cons h1 (RpAll.app h2 h)
theorem RpAll.take {A : Av} {H : Hp} : ∀ (n : Nat) {vs : List V} {ds : List PyData}, RpAll A H vs ds → RpAll A H (vs.take n) (ds.take n)
  | 0, _, _, _ => by simpa using RpAll.nil
  | n + 1, _, _, .nil => by simpa using RpAll.nil
  | n + 1, _, _, .cons h1 h2 => by simpa using RpAll.cons h1 (RpAll.take n h2)
theorem RpAll.drop {A : Av} {H : Hp} : ∀ (n : Nat) {vs : List V} {ds : List PyData}, RpAll A H vs ds → RpAll A H (vs.drop n) (ds.drop n)
  | 0, _, _, h => by simpa using h
  | n + 1, _, _, .nil => by simpa using RpAll.nil
  | n + 1, _, _, .cons h1 h2 => by simpa using RpAll.drop n h2
theorem RpAll.set {A : Av} {H : Hp} {v : V} {d : PyData} (hv : Rp A H v d) : ∀ (n : Nat) {vs : List V} {ds : List PyData}, RpAll A H vs ds → RpAll A H (vs.set n v) (ds.set n d)
  | _, _, _, .nil => by simpa using RpAll.nil
  | 0, _, _, .cons h1 h2 => by simpa using RpAll.cons hv h2
  | n + 1, _, _, .cons h1 h2 => by simpa using RpAll.cons h1 (RpAll.set hv n h2)
theorem RpAll.rep {A : Av} {H : Hp} : ∀ (n : Nat) {vs : List V} {ds : List PyData}, RpAll A H vs ds → RpAll A H (List.replicate n vs).flatten (List.replicate n ds).flatten
  | 0, _, _, _ => by simpa using RpAll.nil
  | n + 1, _, _, h => by simpa [List.replicate_succ] using RpAll.app h (RpAll.rep n h)
theorem RpAll.rev {A : Av} {H : Hp} : ∀ {vs : List V} {ds : List PyData}, RpAll A H vs ds → RpAll A H vs.reverse ds.reverse
  | _, _, .nil => by simpa using RpAll.nil
  | _, _, .cons h1 h2 => by simpa using RpAll.app (RpAll.rev h2) (.cons h1 .nil)
theorem RpAll.ints {A : Av} {H : Hp} : ∀ {vs : List V} {ns : List Int}, RpAll A H vs (ns.map PyData.int) → vs = ns.map V.int
  | _, [], h => by cases h; rfl
  | _, n :: ns, h => by
    cases h with
    | cons h1 h2 =>
      cases h1
      rw [RpAll.ints h2]
      rfl
theorem RpAll.ofInts {A : Av} {H : Hp} : ∀ (ns : List Int), RpAll A H (ns.map V.int) (ns.map PyData.int)
  | [] => .nil
  | n :: ns => .cons (.int n) (RpAll.ofInts ns)
theorem RpAll.bls {A : Av} {H : Hp} : ∀ {vs : List V} {ns : List Bool}, RpAll A H vs (ns.map PyData.bool) → vs = ns.map V.bl
  | _, [], h => by cases h; rfl
  | _, n :: ns, h => by
    cases h with
    | cons h1 h2 =>
      cases h1
      rw [RpAll.bls h2]
      rfl

mutual
theorem Rp.dp {K : PySem.W.Frag} {A : Av} {H : Hp} : ∀ (d : PyData) (v : V), Rp A H v d → Dp K H v d
  | .none, _, h => by cases h; exact .non
  | .bool b, _, h => by cases h; exact .bl b
  | .int i, _, h => by cases h; exact .int i
  | .str x, _, h => by cases h; exact .str x
  | .list ds, _, h => by
    cases h with
    | lst na e r => exact .lst (SqL.of e) (RpAll.dp ds _ r)
  | .tuple ds, _, h => by
    cases h with
    | tup e r => exact .tup (SqT.of e) (RpAll.dp ds _ r)
  | .dict _, _, h => by cases h
theorem RpAll.dp {K : PySem.W.Frag} {A : Av} {H : Hp} : ∀ (ds : List PyData) (vs : List V), RpAll A H vs ds → DpAll K H vs ds
  | [], _, h => by cases h; exact .nil
  | d :: ds, _, h => by
    cases h with
    | cons h1 h2 => exact .cons (Rp.dp d _ h1) (RpAll.dp ds _ h2)
end

/-- a key as data -/
def keyD : Key → PyData
  | .inl i => .int i
  | .inr x => .str x
def PairK (A : Av) (H : Hp) (kv : List (Key × V)) (ds : List (PyData × PyData)) : Prop := Paired (fun (q : Key × V) (r : PyData × PyData) => r.1 = keyD q.1 ∧ Rp A H q.2 r.2) kv ds
def PairT (A : Av) (H : Hp) (kv : List (List Key × V)) (ds : List (PyData × PyData)) : Prop := Paired (fun (q : List Key × V) (r : PyData × PyData) => r.1 = .tuple (q.1.map keyD) ∧ Rp A H q.2 r.2) kv ds
/-- a list, a dict that stands at p, its contents held -/
def Hold (A : Av) (H : Hp) (p : Addr) : PyData → Prop
  | .list ds => ∃ xs, H p = some (.lst xs) ∧ RpAll A H xs ds
  | .dict kvs => (∃ kv, H p = some (.dK kv) ∧ PairK A H kv kvs) ∨ ∃ kv r, kvs = (.none, .none) :: r ∧ H p = some (.dT kv) ∧ PairT A H kv r
  | _ => False
theorem Paired.map2 {α β : Type} {F G : α → β → Prop} : ∀ {l₁ : List α} {l₂ : List β}, Paired F l₁ l₂ → (∀ a b, F a b → G a b) → Paired G l₁ l₂
  | _, _, .nil, _ => .nil
  | _, _, .cons r t, f => .cons (f _ _ r) (Paired.map2 t f)
theorem Hold.pass {A A' : Av} {H H' : Hp} {p : Addr} (ps : Pass A A' H H') (e : H' p = H p) : ∀ {d : PyData}, Hold A H p d → Hold A' H' p d := fun {d} h => by
  cases d with
  | list ds =>
    obtain ⟨xs, e1, r⟩ := h
    exact ⟨xs, e.trans e1, RpAll.pass ps _ _ r⟩
  | dict kvs =>
    rcases h with ⟨kv, e1, r⟩ | ⟨kv, rr, er, e1, r⟩
    · exact .inl ⟨kv, e.trans e1, Paired.map2 r fun a b z => ⟨z.1, Rp.pass ps _ _ z.2⟩⟩
    · exact .inr ⟨kv, rr, er, e.trans e1, Paired.map2 r fun a b z => ⟨z.1, Rp.pass ps _ _ z.2⟩⟩
  | _ => exact h.elim
theorem Hold.some {A : Av} {H : Hp} {p : Addr} {d : PyData} (h : Hold A H p d) : ∃ o, H p = some o ∧ ∀ xs, o ≠ .tup xs := by
  cases d with
  | list ds =>
    obtain ⟨xs, e1, r⟩ := h
    exact ⟨_, e1, fun _ z => nomatch z⟩
  | dict kvs =>
    rcases h with ⟨kv, e1, r⟩ | ⟨kv, rr, er, e1, r⟩
    · exact ⟨_, e1, fun _ z => nomatch z⟩
    · exact ⟨_, e1, fun _ z => nomatch z⟩
  | _ => exact h.elim

/-! ### slots -/
inductive Sl where
  | fz (d : PyData) | ow (d : PyData) | io (d : PyData)
def Sl.dat : Sl → PyData
  | .fz d => d
  | .ow d => d
  | .io d => d
def Sl.own : Sl → Bool
  | .fz _ => false
  | _ => true
/-- the same kind of slot, other data -/
def Sl.with : Sl → PyData → Sl
  | .fz _, d => .fz d
  | .ow _, d => .ow d
  | .io _, d => .io d
abbrev DEnv := List (Option Sl)
/-- the addresses that the slots own -/
def Ow (σ : L2.St) (ρ : DEnv) : Av := fun p => ∃ (i : Nat) (s : Sl), ρ[i]? = some (some s) ∧ s.own = true ∧ σ[i]? = some (some (V.ref p))
def Al (B : Av) (σ : L2.St) (ρ : DEnv) : Av := fun p => B p ∨ Ow σ ρ p
def bor (B : Av) (p : Addr) : Av := fun a => B a ∨ a = p

/-- fixed through a def's run: the heap at its entry, the values of the parameters that are changed in place -/
structure Fx where
  h : Hp
  ia : Nat → V
structure Rel (H0 : Fx) (B : Av) (σ : L2.St) (H : Hp) (ρ : DEnv) : Prop where
  len : σ.length = ρ.length
  fz : ∀ (i : Nat) d, ρ[i]? = some (some (Sl.fz d)) → ∃ v, σ[i]? = some (some v) ∧ Rp (Al B σ ρ) H v d
  own : ∀ (i : Nat) (s : Sl), ρ[i]? = some (some s) → s.own = true → ∃ p, σ[i]? = some (some (V.ref p)) ∧ Hold (Al B σ ρ) H p s.dat
  mine : ∀ (i : Nat) (d : PyData) (p : Addr), ρ[i]? = some (some (Sl.ow d)) → σ[i]? = some (some (V.ref p)) → H0.h p = none ∧ ¬ B p
  ne : ∀ (i j : Nat) (s t : Sl) (p : Addr), ρ[i]? = some (some s) → s.own = true → ρ[j]? = some (some t) → t.own = true → σ[i]? = some (some (V.ref p)) → σ[j]? = some (some (V.ref p)) → i = j
  dom : ∀ b, H b = none → H0.h b = none
  ioa : ∀ (i : Nat) (d : PyData), ρ[i]? = some (some (Sl.io d)) → σ[i]? = some (some (H0.ia i))
  bdom : ∀ b, B b → H b ≠ none

structure Stp (σ : L2.St) (ρ : DEnv) (H : Hp) (σ' : L2.St) (ρ' : DEnv) (H' : Hp) : Prop where
  keep : ∀ b o, H b = some o → ¬ Ow σ ρ b → H' b = some o
  dom : ∀ b, H' b = none → H b = none
  tup : ∀ b xs, H b = some (.tup xs) → H' b = some (.tup xs)
  own : ∀ p, Ow σ' ρ' p → Ow σ ρ p ∨ H p = none
theorem Stp.refl {σ : L2.St} {ρ : DEnv} {H : Hp} : Stp σ ρ H σ ρ H := ⟨fun _ _ h _ => h, fun _ h => h, fun _ _ h => h, fun _ h => .inl h⟩
theorem Stp.trans {σ σ1 σ2 : L2.St} {ρ ρ1 ρ2 : DEnv} {H H1 H2 : Hp} (a : Stp σ ρ H σ1 ρ1 H1) (b : Stp σ1 ρ1 H1 σ2 ρ2 H2) : Stp σ ρ H σ2 ρ2 H2 where
  keep := fun c o h n => b.keep c o (a.keep c o h n) fun q => (a.own c q).elim n fun z => by rw [z] at h; cases h
  dom := fun c h => a.dom c (b.dom c h)
  tup := fun c xs h => b.tup c xs (a.tup c xs h)
  own := fun p h => (b.own p h).elim (fun z => a.own p z) fun z => .inr (a.dom p z)
/-- what passes along a step -/
theorem Stp.pass {B B' : Av} {σ σ' : L2.St} {ρ ρ' : DEnv} {H H' : Hp} (s : Stp σ ρ H σ' ρ' H') (hb : ∀ p, B' p → B p ∨ H p = none) : Pass (Al B σ ρ) (Al B' σ' ρ') H H' where
  l := fun a xs n e => by
    refine ⟨fun q => ?_, s.keep a _ e fun z => n (.inr z)⟩
    rcases q with q | q
    · rcases hb a q with z | z
      · exact n (.inl z)
      · rw [z] at e; cases e
    · rcases s.own a q with z | z
      · exact n (.inr z)
      · rw [z] at e; cases e
  t := s.tup

/-- the heap has grown by new objects alone -/
structure Grow (H H' : Hp) : Prop where
  keep : ∀ b o, H b = some o → H' b = some o
theorem Grow.refl {H : Hp} : Grow H H := ⟨fun _ _ h => h⟩
theorem Grow.trans {H H1 H2 : Hp} (a : Grow H H1) (b : Grow H1 H2) : Grow H H2 := ⟨fun c o h => b.keep c o (a.keep c o h)⟩
theorem Grow.dom {H H' : Hp} (g : Grow H H') : ∀ b, H' b = none → H b = none := fun b h => by
  cases e : H b with
  | none => rfl
  | some o => rw [g.keep b o e] at h; cases h
theorem Grow.new {H : Hp} {p : Addr} {o : HO} (h : H p = none) : Grow H (upd H p o) := ⟨fun a u e => by
  rw [upd_ne (ne_of_none e h)]
  exact e⟩
theorem Grow.stp {σ : L2.St} {ρ : DEnv} {H H' : Hp} (g : Grow H H') : Stp σ ρ H σ ρ H' := ⟨fun b o h _ => g.keep b o h, g.dom, fun b xs h => g.keep b _ h, fun _ h => .inl h⟩
theorem Grow.pass {A A' : Av} {H H' : Hp} (g : Grow H H') (ha : ∀ p, A' p → A p ∨ H p = none) : Pass A A' H H' where
  l := fun a xs n e => by
    refine ⟨fun q => ?_, g.keep a _ e⟩
    rcases ha a q with z | z
    · exact n z
    · rw [z] at e; cases e
  t := fun a xs e => g.keep a _ e
theorem Rel.grow {H0 : Fx} {B : Av} {σ : L2.St} {H H' : Hp} {ρ : DEnv} (R : Rel H0 B σ H ρ) (g : Grow H H') : Rel H0 B σ H' ρ where
  len := R.len
  fz := fun i d h => let ⟨v, h1, h2⟩ := R.fz i d h; ⟨v, h1, Rp.pass (g.pass fun _ z => .inl z) _ _ h2⟩
  own := fun i s h ho => let ⟨p, h1, h2⟩ := R.own i s h ho; ⟨p, h1, by
    obtain ⟨o, eo, _⟩ := h2.some
    exact h2.pass (g.pass fun _ z => .inl z) ((g.keep p o eo).trans eo.symm)⟩
  mine := R.mine
  ne := R.ne
  dom := fun b h => R.dom b (g.dom b h)
  ioa := R.ioa
  bdom := fun b h e => R.bdom b h (g.dom b e)
/-- a smaller set to be avoided -/
theorem Rel.anti {H0 : Fx} {B B' : Av} {σ : L2.St} {H : Hp} {ρ : DEnv} (R : Rel H0 B σ H ρ) (hb : ∀ p, B' p → B p) : Rel H0 B' σ H ρ := by
  have ps : Pass (Al B σ ρ) (Al B' σ ρ) H H := ⟨fun a xs n e => ⟨fun q => n (q.elim (fun z => .inl (hb a z)) .inr), e⟩, fun _ _ e => e⟩
  exact ⟨R.len, fun i d h => let ⟨v, h1, h2⟩ := R.fz i d h; ⟨v, h1, Rp.pass ps _ _ h2⟩, fun i s h ho => let ⟨p, h1, h2⟩ := R.own i s h ho; ⟨p, h1, h2.pass ps rfl⟩,
    fun i d p h h' => ⟨(R.mine i d p h h').1, fun z => (R.mine i d p h h').2 (hb p z)⟩, R.ne, R.dom, R.ioa, fun b h => R.bdom b (hb b h)⟩
/-- a new address to be avoided -/
theorem Rel.more {H0 : Fx} {B : Av} {σ : L2.St} {H H' : Hp} {ρ : DEnv} {p : Addr} (R : Rel H0 B σ H ρ) (g : Grow H H') (hp : H p = none) (hp' : H' p ≠ none) : Rel H0 (bor B p) σ H' ρ := by
  have ps : Pass (Al B σ ρ) (Al (bor B p) σ ρ) H H' := g.pass fun a q => by
    rcases q with (q | q) | q
    · exact .inl (.inl q)
    · exact .inr (by rw [q]; exact hp)
    · exact .inl (.inr q)
  refine ⟨R.len, fun i d h => let ⟨v, h1, h2⟩ := R.fz i d h; ⟨v, h1, Rp.pass ps _ _ h2⟩, fun i s h ho => let ⟨q, h1, h2⟩ := R.own i s h ho; ⟨q, h1, ?_⟩, fun i d q h h' => ⟨(R.mine i d q h h').1, fun z => ?_⟩, R.ne,
    fun b h => R.dom b (g.dom b h), R.ioa, fun b h e => ?_⟩
  · obtain ⟨o, eo, _⟩ := h2.some
    exact h2.pass ps ((g.keep q o eo).trans eo.symm)
  · rcases z with z | z
    · exact (R.mine i d q h h').2 z
    · subst z
      obtain ⟨q', e1, e2⟩ := R.own i _ h rfl
      rw [h'] at e1
      cases e1
      obtain ⟨o, eo, _⟩ := e2.some
      rw [hp] at eo
      cases eo
  · rcases h with h | h
    · exact R.bdom b h (g.dom b e)
    · subst h
      exact hp' e

/-! ### results -/
/-- data that may be stored anywhere; a new list or dict; what slot i holds; a new tuple whose first item is a new list -/
inductive Rs where
  | fz (d : PyData) | nw (d : PyData) | br (i : Nat) | np (ds : List PyData) (rest : List PyData)
def datAt (ρ : DEnv) (i : Nat) : PyData := match ρ[i]? with
  | some (some s) => s.dat
  | _ => .none
def Rs.dat (ρ : DEnv) : Rs → PyData
  | .fz d => d
  | .nw d => d
  | .br i => datAt ρ i
  | .np ds rest => .tuple (.list ds :: rest)
/-- as data that may be stored anywhere -/
def Rs.sto : Rs → Option PyData
  | .fz d => some d
  | .nw (.list ds) => some (.list ds)
  | .np ds rest => some (.tuple (.list ds :: rest))
  | _ => none
/-- a result that is carried -/
def Cv (B : Av) (σ : L2.St) (H : Hp) (ρ : DEnv) (v : V) : Rs → Prop
  | .fz d => Rp (Al B σ ρ) H v d
  | .nw d => ∃ p, v = .ref p ∧ ¬ Al B σ ρ p ∧ Hold (Al B σ ρ) H p d
  | .br i => σ[i]? = some (some v) ∧ ∃ s : Sl, ρ[i]? = some (some s)
  | .np ds rest => Rp (Al B σ ρ) H v (.tuple (.list ds :: rest))
def ResOk (Hs : Hp) (H0 : Fx) (B : Av) (σ : L2.St) (H : Hp) (ρ : DEnv) (v : V) : Rs → Prop
  | .fz d => Rp (Al B σ ρ) H v d
  | .nw d => ∃ p, v = .ref p ∧ Hs p = none ∧ ¬ B p ∧ ¬ Ow σ ρ p ∧ Hold (Al (bor B p) σ ρ) H p d ∧ Rel H0 (bor B p) σ H ρ
  | .br i => σ[i]? = some (some v) ∧ ∃ s : Sl, ρ[i]? = some (some s)
  | .np ds rest => ∃ T p xs, v = .ref T ∧ H T = some (.tup (.ref p :: xs)) ∧ Hs p = none ∧ ¬ B p ∧ ¬ Ow σ ρ p ∧ Hold (Al (bor B p) σ ρ) H p (.list ds) ∧ RpAll (Al (bor B p) σ ρ) H xs rest ∧ Rel H0 (bor B p) σ H ρ
theorem pass_bor {B : Av} {σ : L2.St} {ρ : DEnv} {H : Hp} {p : Addr} : Pass (Al (bor B p) σ ρ) (Al B σ ρ) H H := ⟨fun a xs n e => ⟨fun q => n (q.elim (fun z => .inl (.inl z)) .inr), e⟩, fun _ _ e => e⟩
theorem ResOk.back {Hs Hs' : Hp} {H0 : Fx} {B : Av} {σ : L2.St} {H : Hp} {ρ : DEnv} {v : V} (b : ∀ p, Hs p = none → Hs' p = none) : ∀ {r : Rs}, ResOk Hs H0 B σ H ρ v r → ResOk Hs' H0 B σ H ρ v r
  | .fz _, h => h
  | .br _, h => h
  | .nw d, h => let ⟨p, e, h0, r⟩ := h; ⟨p, e, b p h0, r⟩
  | .np ds rest, h => let ⟨T, p, xs, e, e2, h0, r⟩ := h; ⟨T, p, xs, e, e2, b p h0, r⟩
theorem ResOk.cv {Hs : Hp} {H0 : Fx} {B : Av} {σ : L2.St} {H : Hp} {ρ : DEnv} {v : V} : ∀ {r : Rs}, ResOk Hs H0 B σ H ρ v r → Cv B σ H ρ v r
  | .fz _, h => h
  | .br _, h => h
  | .nw d, h => by
    obtain ⟨p, e, _, nb, no, ho, _⟩ := h
    exact ⟨p, e, fun z => z.elim nb no, ho.pass pass_bor rfl⟩
  | .np ds rest, h => by
    obtain ⟨T, p, xs, e, e2, _, nb, no, ho, hr, _⟩ := h
    subst e
    obtain ⟨ys, h1, h2⟩ := ho
    exact .tup e2 (.cons (.lst (fun z => z.elim nb no) h1 (RpAll.pass pass_bor _ _ h2)) (RpAll.pass pass_bor _ _ hr))
/-- slots stay filled -/
def Keep (ρ ρ' : DEnv) : Prop := ∀ (i : Nat), (∃ s : Sl, ρ[i]? = some (some s)) → ∃ s : Sl, ρ'[i]? = some (some s)
theorem Keep.refl {ρ : DEnv} : Keep ρ ρ := fun _ h => h
theorem Keep.trans {ρ ρ1 ρ2 : DEnv} (a : Keep ρ ρ1) (b : Keep ρ1 ρ2) : Keep ρ ρ2 := fun i h => b i (a i h)
theorem Cv.step {B : Av} {σ : L2.St} {H H' : Hp} {ρ ρ' : DEnv} {v : V} (s : Stp σ ρ H σ ρ' H') (k : Keep ρ ρ') : ∀ {r : Rs}, Cv B σ H ρ v r → Cv B σ H' ρ' v r
  | .fz _, h => Rp.pass (s.pass fun _ z => .inl z) _ _ h
  | .br i, h => ⟨h.1, k i h.2⟩
  | .np _ _, h => Rp.pass (s.pass fun _ z => .inl z) _ _ h
  | .nw d, h => by
    obtain ⟨p, e, n, ho⟩ := h
    obtain ⟨o, eo, _⟩ := ho.some
    have n' : ¬ Ow σ ρ p := fun z => n (.inr z)
    refine ⟨p, e, fun z => ?_, ho.pass (s.pass fun _ z => .inl z) ((s.keep p o eo n').trans eo.symm)⟩
    rcases z with z | z
    · exact n (.inl z)
    · rcases s.own p z with q | q
      · exact n' q
      · rw [q] at eo; cases eo
/-- the value may be read as this data -/
def Vw (A : Av) (H : Hp) (v : V) (d : PyData) : Prop := Rp A H v d ∨ ∃ p, v = .ref p ∧ Hold A H p d
theorem Cv.vw {H0 : Fx} {B : Av} {σ : L2.St} {H : Hp} {ρ : DEnv} {v : V} (R : Rel H0 B σ H ρ) : ∀ {r : Rs}, Cv B σ H ρ v r → Vw (Al B σ ρ) H v (r.dat ρ)
  | .fz _, h => .inl h
  | .nw d, h => let ⟨p, e, _, ho⟩ := h; .inr ⟨p, e, ho⟩
  | .np _ _, h => .inl h
  | .br i, h => by
    obtain ⟨h1, s, h2⟩ := h
    have e : Rs.dat ρ (.br i) = s.dat := by
      show datAt ρ i = s.dat
      unfold datAt
      rw [h2]
    rw [e]
    cases hs : s.own with
    | true =>
      obtain ⟨p, e1, e2⟩ := R.own i s h2 hs
      rw [h1] at e1
      cases e1
      exact .inr ⟨p, rfl, e2⟩
    | false =>
      cases s with
      | fz d =>
        obtain ⟨v', e1, e2⟩ := R.fz i d h2
        rw [h1] at e1
        cases e1
        exact .inl e2
      | ow d => cases hs
      | io d => cases hs
/-- a result that may be stored anywhere -/
theorem Cv.sto {B : Av} {σ : L2.St} {H : Hp} {ρ : DEnv} {v : V} {d : PyData} : ∀ {r : Rs}, Cv B σ H ρ v r → r.sto = some d → Rp (Al B σ ρ) H v d
  | .fz _, h, e => by cases e; exact h
  | .nw d', h, e => by
    obtain ⟨p, e1, n, ho⟩ := h
    subst e1
    cases d' with
    | list ds =>
      cases e
      obtain ⟨xs, e2, r⟩ := ho
      exact .lst n e2 r
    | _ => cases e
  | .br _, _, e => by cases e
  | .np _ _, h, e => by cases e; exact h
theorem Vw.lst {A : Av} {H : Hp} {v : V} {ds : List PyData} (h : Vw A H v (.list ds)) : ∃ p xs, v = .ref p ∧ H p = some (.lst xs) ∧ RpAll A H xs ds := by
  rcases h with h | ⟨p, e, xs, h1, h2⟩
  · cases h with
    | lst _ e r => exact ⟨_, _, rfl, e, r⟩
  · exact ⟨p, xs, e, h1, h2⟩
theorem Vw.tup {A : Av} {H : Hp} {v : V} {ds : List PyData} (h : Vw A H v (.tuple ds)) : ∃ p xs, v = .ref p ∧ H p = some (.tup xs) ∧ RpAll A H xs ds := by
  rcases h with h | ⟨p, e, h⟩
  · cases h with
    | tup e r => exact ⟨_, _, rfl, e, r⟩
  · exact h.elim
theorem Vw.int {A : Av} {H : Hp} {v : V} {i : Int} (h : Vw A H v (.int i)) : v = .int i := by
  rcases h with h | ⟨p, e, h⟩
  · cases h; rfl
  · exact h.elim
theorem Vw.bl {A : Av} {H : Hp} {v : V} {i : Bool} (h : Vw A H v (.bool i)) : v = .bl i := by
  rcases h with h | ⟨p, e, h⟩
  · cases h; rfl
  · exact h.elim
theorem Vw.non {A : Av} {H : Hp} {v : V} (h : Vw A H v .none) : v = .non := by
  rcases h with h | ⟨p, e, h⟩
  · cases h; rfl
  · exact h.elim
theorem Vw.str {A : Av} {H : Hp} {v : V} {i : Str} (h : Vw A H v (.str i)) : v = .str i := by
  rcases h with h | ⟨p, e, h⟩
  · cases h; rfl
  · exact h.elim
theorem Vw.dp {K : PySem.W.Frag} {A : Av} {H : Hp} {v : V} {d : PyData} (h : Vw A H v d) (nd : ∀ kvs, d ≠ .dict kvs) : Dp K H v d := by
  rcases h with h | ⟨p, e, h⟩
  · exact Rp.dp _ _ h
  · subst e
    cases d with
    | list ds =>
      obtain ⟨xs, h1, h2⟩ := h
      exact .lst (SqL.of h1) (RpAll.dp _ _ h2)
    | dict kvs => exact (nd kvs rfl).elim
    | _ => exact h.elim

/-! ### readings at the level of data -/
abbrev DE := DEnv → (Rs → DEnv → Prop) → Prop
abbrev DT := DEnv → (Bool → DEnv → Prop) → Prop
abbrev DA := DEnv → (List Rs → DEnv → Prop) → Prop
structure DEnds where
  nx : DEnv → Prop
  rt : Rs → DEnv → Prop
  bk : DEnv → Prop := fun _ => False
  ct : DEnv → Prop := fun _ => False
abbrev DS := DEnds → DEnv → Prop
abbrev DG := PyData → DEnv → (DEnv → Prop) → Prop
abbrev DGs := List PyData → DEnv → (DEnv → Prop) → Prop

def SimE (te : TE) (de : DE) : Prop := ∀ (H0 : Fx) (B : Av) (σ : L2.St) (H : Hp) (ρ : DEnv) (Q : VK) (QD : Rs → DEnv → Prop), Rel H0 B σ H ρ → de ρ QD →
  (∀ r ρ' v H', Rel H0 B σ H' ρ' → Stp σ ρ H σ ρ' H' → Keep ρ ρ' → ResOk H H0 B σ H' ρ' v r → QD r ρ' → Q v H') → te σ H Q
def SimT (tt : TT) (dt : DT) : Prop := ∀ (H0 : Fx) (B : Av) (σ : L2.St) (H : Hp) (ρ : DEnv) (Q : Bool → Hp → Prop) (QD : Bool → DEnv → Prop), Rel H0 B σ H ρ → dt ρ QD →
  (∀ b ρ' H', Rel H0 B σ H' ρ' → Stp σ ρ H σ ρ' H' → Keep ρ ρ' → QD b ρ' → Q b H') → tt σ H Q
def CvAll (B : Av) (σ : L2.St) (H : Hp) (ρ : DEnv) : List V → List Rs → Prop
  | [], [] => True
  | v :: vs, r :: rs => Cv B σ H ρ v r ∧ CvAll B σ H ρ vs rs
  | _, _ => False
def SimA (ta : TA) (da : DA) : Prop := ∀ (H0 : Fx) (B : Av) (σ : L2.St) (H : Hp) (ρ : DEnv) (Q : List V → Hp → Prop) (QD : List Rs → DEnv → Prop), Rel H0 B σ H ρ → da ρ QD →
  (∀ rs ρ' vs H', Rel H0 B σ H' ρ' → Stp σ ρ H σ ρ' H' → Keep ρ ρ' → CvAll B σ H' ρ' vs rs → QD rs ρ' → Q vs H') → ta σ H Q
structure EndsOk (H0 : Fx) (B : Av) (σ : L2.St) (H : Hp) (ρ : DEnv) (D : Ends) (DD : DEnds) : Prop where
  nx : ∀ σ' H' ρ', Rel H0 B σ' H' ρ' → Stp σ ρ H σ' ρ' H' → DD.nx ρ' → D.nx σ' H'
  bk : ∀ σ' H' ρ', Rel H0 B σ' H' ρ' → Stp σ ρ H σ' ρ' H' → DD.bk ρ' → D.bk σ' H'
  ct : ∀ σ' H' ρ', Rel H0 B σ' H' ρ' → Stp σ ρ H σ' ρ' H' → DD.ct ρ' → D.ct σ' H'
  rt : ∀ r ρ' v σ' H', Rel H0 B σ' H' ρ' → Stp σ ρ H σ' ρ' H' → ResOk H0.h H0 B σ' H' ρ' v r → DD.rt r ρ' → D.rt v H'
def SimS (ts : TS) (ds : DS) : Prop := ∀ (H0 : Fx) (B : Av) (σ : L2.St) (H : Hp) (ρ : DEnv) (D : Ends) (DD : DEnds), Rel H0 B σ H ρ → ds DD ρ → EndsOk H0 B σ H ρ D DD → ts D σ H
/-- targets take data that may be stored anywhere -/
def SimG (tg : TG) (dg : DG) : Prop := ∀ (H0 : Fx) (B : Av) (σ : L2.St) (H : Hp) (ρ : DEnv) (v : V) (d : PyData) (Q : L2.St → Hp → Prop) (QD : DEnv → Prop), Rel H0 B σ H ρ → Rp (Al B σ ρ) H v d → dg d ρ QD →
  (∀ σ' H' ρ', Rel H0 B σ' H' ρ' → Stp σ ρ H σ' ρ' H' → Keep ρ ρ' → QD ρ' → Q σ' H') → tg v σ H Q
def SimGs (tg : TGs) (dg : DGs) : Prop := ∀ (H0 : Fx) (B : Av) (σ : L2.St) (H : Hp) (ρ : DEnv) (vs : List V) (ds : List PyData) (Q : L2.St → Hp → Prop) (QD : DEnv → Prop), Rel H0 B σ H ρ → RpAll (Al B σ ρ) H vs ds → dg ds ρ QD →
  (∀ σ' H' ρ', Rel H0 B σ' H' ρ' → Stp σ ρ H σ' ρ' H' → Keep ρ ρ' → QD ρ' → Q σ' H') → tg vs σ H Q

theorem CvAll.step {B : Av} {σ : L2.St} {H H' : Hp} {ρ ρ' : DEnv} (s : Stp σ ρ H σ ρ' H') (k : Keep ρ ρ') : ∀ {vs : List V} {rs : List Rs}, CvAll B σ H ρ vs rs → CvAll B σ H' ρ' vs rs
  | [], [], _ => trivial
  | _ :: _, _ :: _, h => ⟨h.1.step s k, CvAll.step s k h.2⟩
  | [], _ :: _, h => h.elim
  | _ :: _, [], h => h.elim

/-! ### judgements -/
def PD (X : Cx) (e : Expr) (de : DE) : Prop := ∃ te, PE X e te ∧ SimE te de
def PTD (X : Cx) (e : Expr) (dt : DT) : Prop := ∃ tt, PT X e tt ∧ SimT tt dt
def PWD (X : Cx) (e : Expr) (dt : DT) : Prop := ∃ tt, PW X e tt ∧ SimT tt dt
def PAD (X : Cx) (es : List Expr) (da : DA) : Prop := ∃ ta, PA X es ta ∧ SimA ta da
def PSD (X : Cx) (st : Stmt) (ds : DS) : Prop := ∃ ts, PS X st ts ∧ SimS ts ds
def PSsD (X : Cx) (st : List Stmt) (ds : DS) : Prop := ∃ ts, PSs X st ts ∧ SimS ts ds
def PGD (X : Cx) (e : Expr) (dg : DG) : Prop := ∃ tg, PG X e tg ∧ SimG tg dg
def PGsD (X : Cx) (e : List Expr) (dg : DGs) : Prop := ∃ tg, PGs X e tg ∧ SimGs tg dg
end Dl
set_option Elab.async false
set_option linter.all false
set_option maxRecDepth 100000
set_option maxHeartbeats 4000000
/-! The data layer, part 2: expressions. -/
namespace Dl
open PySem L2

theorem sz5 {n : Nat} (h : n ≤ 100000) : n ≤ sizeLine := Nat.le_trans h (by decide)
theorem sz5' {n : Nat} (h : n < 100000) : n < sizeLine := Nat.lt_of_lt_of_le h (by decide)

/-! ### results of an operation -/
def ResV (A : Av) (H H' : Hp) (v : V) : Rs → Prop
  | .fz d => Rp A H' v d
  | .nw d => ∃ p, v = .ref p ∧ H p = none ∧ H' p ≠ none ∧ Hold (bor A p) H' p d
  | .br _ => False
  | .np ds rest => ∃ T p xs, v = .ref T ∧ H' T = some (.tup (.ref p :: xs)) ∧ H p = none ∧ H' p ≠ none ∧ Hold (bor A p) H' p (.list ds) ∧ RpAll (bor A p) H' xs rest
theorem ResV.fzg {A : Av} {H H' : Hp} {v : V} {d : PyData} (h : Rp A H v d) (g : Grow H H') : ResV A H H' v (.fz d) := Rp.pass (g.pass fun _ z => .inl z) _ _ h
theorem Rel.adom {H0 : Fx} {B : Av} {σ : L2.St} {H : Hp} {ρ : DEnv} (R : Rel H0 B σ H ρ) : ∀ p, Al B σ ρ p → H p ≠ none := fun p h => by
  rcases h with h | ⟨i, s, h1, h2, h3⟩
  · exact R.bdom p h
  · obtain ⟨q, e1, e2⟩ := R.own i s h1 h2
    rw [h3] at e1
    cases e1
    obtain ⟨o, eo, _⟩ := e2.some
    rw [eo]
    exact fun z => nomatch z
theorem resOk_of {H0 : Fx} {B : Av} {σ : L2.St} {H H' : Hp} {ρ : DEnv} {v : V} (R : Rel H0 B σ H ρ) (g : Grow H H') : ∀ {r : Rs}, ResV (Al B σ ρ) H H' v r → ResOk H H0 B σ H' ρ v r
  | .fz _, h => h
  | .br _, h => h.elim
  | .nw d, h => by
    obtain ⟨p, e, hn, hn', ho⟩ := h
    have ps : Pass (bor (Al B σ ρ) p) (Al (bor B p) σ ρ) H' H' := ⟨fun a xs n e => ⟨fun q => n (by
      rcases q with (q | q) | q
      · exact .inl (.inl q)
      · exact .inr q
      · exact .inl (.inr q)), e⟩, fun _ _ e => e⟩
    exact ⟨p, e, hn, fun z => R.bdom p z hn, fun z => R.adom p (.inr z) hn, ho.pass ps rfl, R.more g hn hn'⟩
  | .np ds rest, h => by
    obtain ⟨T, p, xs, e, e2, hn, hn', ho, hr⟩ := h
    have ps : Pass (bor (Al B σ ρ) p) (Al (bor B p) σ ρ) H' H' := ⟨fun a xs n e => ⟨fun q => n (by
      rcases q with (q | q) | q
      · exact .inl (.inl q)
      · exact .inr q
      · exact .inl (.inr q)), e⟩, fun _ _ e => e⟩
    exact ⟨T, p, xs, e, e2, hn, fun z => R.bdom p z hn, fun z => R.adom p (.inr z) hn, ho.pass ps rfl, RpAll.pass ps _ _ hr, R.more g hn hn'⟩

/-! ### names, constants -/
def dVar (i : Nat) : DE := fun ρ Q => match ρ[i]? with
  | some (some (.fz d)) => Q (.fz d) ρ
  | some (some _) => Q (.br i) ρ
  | _ => False
/-- the slot is given up as one's own -/
def dVarR (i : Nat) : DE := fun ρ Q => match ρ[i]? with
  | some (some (.io _)) => False
  | some (some s) => (∀ kvs, s.dat ≠ .dict kvs) ∧ Q (.fz s.dat) (ρ.set i (some (.fz s.dat)))
  | _ => False
def dC (d : PyData) : DE := fun ρ Q => Q (.fz d) ρ
theorem simE_var {i : Nat} : SimE (tVar i) (dVar i) := fun H0 B σ H ρ Q QD R h k => by
  unfold dVar at h
  split at h
  · rename_i d e
    obtain ⟨v, h1, h2⟩ := R.fz i d e
    exact ⟨v, h1, k (.fz d) ρ v H R .refl .refl h2 h⟩
  · rename_i s ne e
    cases hs : s.own with
    | false =>
      cases s with
      | fz d => exact (ne d rfl).elim
      | ow d => cases hs
      | io d => cases hs
    | true =>
      obtain ⟨p, h1, h2⟩ := R.own i _ e hs
      exact ⟨_, h1, k (.br i) ρ _ H R .refl .refl ⟨h1, _, e⟩ h⟩
  · exact h.elim
theorem set_get_self {ρ : DEnv} {i : Nat} {s t : Option Sl} (h : ρ[i]? = some t) : (ρ.set i s)[i]? = some s := by
  obtain ⟨hl, _⟩ := List.getElem?_eq_some_iff.mp h
  rw [List.getElem?_set_self hl]
/-- giving up -/
theorem Rel.give {H0 : Fx} {B : Av} {σ : L2.St} {H : Hp} {ρ : DEnv} {i : Nat} {d : PyData} (R : Rel H0 B σ H ρ) (e : ρ[i]? = some (some (.ow d))) (nd : ∀ kvs, d ≠ .dict kvs) :
    Rel H0 B σ H (ρ.set i (some (.fz d))) ∧ Stp σ ρ H σ (ρ.set i (some (.fz d))) H ∧ ∃ p, σ[i]? = some (some (V.ref p)) ∧ Rp (Al B σ (ρ.set i (some (.fz d)))) H (.ref p) d := by
  obtain ⟨p, h1, h2⟩ := R.own i _ e rfl
  have sub : ∀ q, Ow σ (ρ.set i (some (.fz d))) q → Ow σ ρ q ∧ q ≠ p := fun q ⟨j, s, a, b, c⟩ => by
    by_cases hj : i = j
    · subst hj
      rw [set_get_self e] at a
      cases a
      cases b
    · rw [List.getElem?_set_ne hj] at a
      refine ⟨⟨j, s, a, b, c⟩, fun z => ?_⟩
      subst z
      exact hj (R.ne i j _ s q e rfl a b h1 c)
  have ps : Pass (Al B σ ρ) (Al B σ (ρ.set i (some (.fz d)))) H H := ⟨fun a xs n e => ⟨fun q => n (q.elim .inl fun z => .inr (sub a z).1), e⟩, fun _ _ e => e⟩
  have np : ¬ Al B σ (ρ.set i (some (.fz d))) p := fun z => z.elim (R.mine i d p e h1).2 fun z => (sub p z).2 rfl
  have rp : Rp (Al B σ (ρ.set i (some (.fz d)))) H (.ref p) d := by
    cases d with
    | list ds =>
      obtain ⟨xs, e1, r⟩ := h2
      exact .lst np e1 (RpAll.pass ps _ _ r)
    | dict kvs => exact (nd kvs rfl).elim
    | _ => exact h2.elim
  refine ⟨⟨by simp [R.len], fun j d' a => ?_, fun j s a b => ?_, fun j d' q a b => ?_, fun j j' s t q a b a' b' c c' => ?_, R.dom, fun j d' a => ?_, R.bdom⟩, ⟨fun _ _ h _ => h, fun _ h => h, fun _ _ h => h, fun q z => .inl (sub q z).1⟩, p, h1, rp⟩
  · by_cases hj : i = j
    · subst hj
      rw [set_get_self e] at a
      cases a
      exact ⟨_, h1, rp⟩
    · rw [List.getElem?_set_ne hj] at a
      obtain ⟨v, c1, c2⟩ := R.fz j d' a
      exact ⟨v, c1, Rp.pass ps _ _ c2⟩
  · by_cases hj : i = j
    · subst hj
      rw [set_get_self e] at a
      cases a
      cases b
    · rw [List.getElem?_set_ne hj] at a
      obtain ⟨q, c1, c2⟩ := R.own j s a b
      exact ⟨q, c1, c2.pass ps rfl⟩
  · by_cases hj : i = j
    · subst hj
      rw [set_get_self e] at a
      cases a
    · rw [List.getElem?_set_ne hj] at a
      exact R.mine j d' q a b
  · by_cases hj : i = j
    · subst hj
      rw [set_get_self e] at a
      cases a
      cases b
    · by_cases hj' : i = j'
      · subst hj'
        rw [set_get_self e] at a'
        cases a'
        cases b'
      · rw [List.getElem?_set_ne hj] at a
        rw [List.getElem?_set_ne hj'] at a'
        exact R.ne j j' s t q a b a' b' c c'
  · by_cases hj : i = j
    · subst hj
      rw [set_get_self e] at a
      cases a
    · rw [List.getElem?_set_ne hj] at a
      exact R.ioa j d' a
theorem Keep.set {ρ : DEnv} {i : Nat} {s : Sl} : Keep ρ (ρ.set i (some s)) := fun j ⟨t, h⟩ => by
  by_cases hj : i = j
  · subst hj
    exact ⟨s, set_get_self h⟩
  · exact ⟨t, by rw [List.getElem?_set_ne hj]; exact h⟩
theorem set_same {ρ : DEnv} {i : Nat} {s : Option Sl} (h : ρ[i]? = some s) : ρ.set i s = ρ := by
  obtain ⟨hl, e⟩ := List.getElem?_eq_some_iff.mp h
  rw [← e]
  exact List.set_getElem_self hl
theorem simE_varR {i : Nat} : SimE (tVar i) (dVarR i) := fun H0 B σ H ρ Q QD R h k => by
  unfold dVarR at h
  split at h
  · exact h.elim
  · rename_i s ne e
    cases s with
    | io d => exact (ne d rfl).elim
    | fz d =>
      obtain ⟨v, h1, h2⟩ := R.fz i d e
      have e2 : ρ.set i (some (.fz d)) = ρ := set_same e
      refine ⟨v, h1, k (.fz d) ρ v H R .refl .refl h2 ?_⟩
      have h3 := h.2
      rw [show (Sl.fz d).dat = d from rfl, e2] at h3
      exact h3
    | ow d =>
      obtain ⟨R', S', p, h1, h2⟩ := R.give e h.1
      exact ⟨_, h1, k (.fz d) _ _ H R' S' Keep.set h2 h.2⟩
  · exact h.elim
theorem simE_c {v : V} {d : PyData} (h : ∀ A H, Rp A H v d) : SimE (tC v) (dC d) := fun H0 B σ H ρ Q QD R q k => k (.fz d) ρ v H R .refl .refl (h _ _) q

/-! ### operations by values -/
abbrev Op1 := PyData → (Rs → Prop) → Prop
abbrev Op2 := PyData → PyData → (Rs → Prop) → Prop
abbrev OpN := List PyData → (Rs → Prop) → Prop
def SimR1 (r : V → Hp → VK → Prop) (f : Op1) : Prop := ∀ (A : Av) (H : Hp) (x : V) (d : PyData) (Q : VK) (Z : Rs → Prop), (∀ p, A p → H p ≠ none) → Vw A H x d → f d Z →
  (∀ z v H', Grow H H' → ResV A H H' v z → Z z → Q v H') → r x H Q
def SimR2 (r : R2) (f : Op2) : Prop := ∀ (A : Av) (H : Hp) (x y : V) (d e : PyData) (Q : VK) (Z : Rs → Prop), (∀ p, A p → H p ≠ none) → Vw A H x d → Vw A H y e → f d e Z →
  (∀ z v H', Grow H H' → ResV A H H' v z → Z z → Q v H') → r x y H Q
def VwAll (A : Av) (H : Hp) : List V → List PyData → Prop
  | [], [] => True
  | v :: vs, d :: ds => Vw A H v d ∧ VwAll A H vs ds
  | _, _ => False
def SimRN (r : List V → Hp → VK → Prop) (f : OpN) : Prop := ∀ (A : Av) (H : Hp) (xs : List V) (ds : List PyData) (Q : VK) (Z : Rs → Prop), (∀ p, A p → H p ≠ none) → VwAll A H xs ds → f ds Z →
  (∀ z v H', Grow H H' → ResV A H H' v z → Z z → Q v H') → r xs H Q
def dOp1 (f : Op1) (da : DE) : DE := fun ρ Q => da ρ fun r ρ1 => f (r.dat ρ1) fun z => Q z ρ1
def dOp2 (f : Op2) (da db : DE) : DE := fun ρ Q => da ρ fun r ρ1 => db ρ1 fun r2 ρ2 => f (r.dat ρ2) (r2.dat ρ2) fun z => Q z ρ2
theorem simE_op1 {r : V → Hp → VK → Prop} {f : Op1} {ta : TE} {da : DE} (hr : SimR1 r f) (ha : SimE ta da) : SimE (tUn r ta) (dOp1 f da) := fun H0 B σ H ρ Q QD R h k =>
  ha H0 B σ H ρ _ _ R h fun r1 ρ1 v1 H1 R1 S1 K1 o1 q1 => hr (Al B σ ρ1) H1 v1 _ _ _ R1.adom (o1.cv.vw R1) q1 fun z v H' g rv q => k z ρ1 v H' (R1.grow g) (S1.trans g.stp) K1 ((resOk_of R1 g rv).back S1.dom) q
theorem simE_op2 {r : R2} {f : Op2} {ta tb : TE} {da db : DE} (hr : SimR2 r f) (ha : SimE ta da) (hb : SimE tb db) : SimE (tOp r ta tb) (dOp2 f da db) := fun H0 B σ H ρ Q QD R h k =>
  ha H0 B σ H ρ _ _ R h fun r1 ρ1 v1 H1 R1 S1 K1 o1 q1 => hb H0 B σ H1 ρ1 _ _ R1 q1 fun r2 ρ2 v2 H2 R2 S2 K2 o2 q2 =>
    hr (Al B σ ρ2) H2 v1 v2 _ _ _ _ R2.adom ((o1.cv.step S2 K2).vw R2) (o2.cv.vw R2) q2 fun z v H' g rv q => k z ρ2 v H' (R2.grow g) ((S1.trans S2).trans g.stp) (K1.trans K2) ((resOk_of R2 g rv).back (S1.trans S2).dom) q
theorem simR2_or {r r' : R2} {f f' : Op2} (h : SimR2 r f) (h' : SimR2 r' f') : SimR2 (fun x y H Q => r x y H Q ∨ r' x y H Q) (fun d e Z => f d e Z ∨ f' d e Z) := fun A H x y d e Q Z ad vx vy q k =>
  q.elim (fun q => .inl (h A H x y d e Q Z ad vx vy q k)) fun q => .inr (h' A H x y d e Q Z ad vx vy q k)
theorem SimR2.imp {r : R2} {f f' : Op2} (h : SimR2 r f) (i : ∀ d e Z, f' d e Z → f d e Z) : SimR2 r f' := fun A H x y d e Q Z ad vx vy q k => h A H x y d e Q Z ad vx vy (i d e Z q) k
/-- two ints -/
def dI0 (g : Int → Int → PyData) : Op2 := fun d e Z => match d, e with
  | .int i, .int j => Z (.fz (g i j))
  | _, _ => False
def dI (C : Int → Int → Prop) (g : Int → Int → PyData) : Op2 := fun d e Z => match d, e with
  | .int i, .int j => C i j ∧ Z (.fz (g i j))
  | _, _ => False
theorem simR2_I0 {g : Int → Int → V} {g' : Int → Int → PyData} (h : ∀ A H i j, Rp A H (g i j) (g' i j)) : SimR2 (rI0 g) (dI0 g') := fun A H x y d e Q Z ad vx vy q k => by
  unfold dI0 at q
  split at q
  · rename_i i j
    cases vx.int
    cases vy.int
    exact ⟨i, j, rfl, rfl, k (.fz _) _ H .refl (h _ _ i j) q⟩
  · exact q.elim
theorem simR2_I {C C' : Int → Int → Prop} {g : Int → Int → V} {g' : Int → Int → PyData} (h : ∀ A H i j, Rp A H (g i j) (g' i j)) (hc : ∀ i j, C' i j → C i j) : SimR2 (rI C g) (dI C' g') := fun A H x y d e Q Z ad vx vy q k => by
  unfold dI at q
  split at q
  · rename_i i j
    cases vx.int
    cases vy.int
    exact ⟨i, j, rfl, rfl, hc i j q.1, k (.fz _) _ H .refl (h _ _ i j) q.2⟩
  · exact q.elim
/-- tuple + tuple -/
def oCatT : Op2 := fun d e Z => match d, e with
  | .tuple xs, .tuple ys => xs.length + ys.length ≤ 100000 ∧ Z (.fz (.tuple (xs ++ ys)))
  | _, _ => False
theorem simR2_catA {K : PySem.W.Frag} : SimR2 (rCatA K) oCatT := fun A H x y d e Q Z ad vx vy q k => by
  unfold oCatT at q
  split at q
  · rename_i xs ys
    obtain ⟨p1, us, e1, h1, r1⟩ := vx.tup
    obtain ⟨p2, ws, e2, h2, r2⟩ := vy.tup
    subst e1 e2
    have l1 := r1.len
    have l2 := r2.len
    refine ⟨p1, p2, us, ws, rfl, rfl, SqT.of h1, SqT.of h2, sz5 (by omega), fun z => ?_, fun z z2 => ?_, fun z z2 p hp => ?_⟩
    · refine k (.fz _) _ H .refl ?_ q.2
      subst z
      cases r1
      exact .tup h2 r2
    · refine k (.fz _) _ H .refl ?_ q.2
      subst z2
      cases r2
      rw [List.append_nil]
      exact .tup h1 r1
    · refine k (.fz _) _ _ (.new hp) ?_ q.2
      have g : Grow H (upd H p (.tup (us ++ ws))) := .new hp
      exact .tup upd_same ((RpAll.pass (g.pass fun _ z => .inl z) _ _ r1).app (RpAll.pass (g.pass fun _ z => .inl z) _ _ r2))
  · exact q.elim
/-- contents stay contents where a new address is to be avoided -/
theorem pass_new {A : Av} {H : Hp} {p : Addr} {o : HO} (hp : H p = none) : Pass A (bor A p) H (upd H p o) := (Grow.new hp).pass fun a z => z.elim .inl fun z => .inr (by rw [z]; exact hp)
/-- list + list -/
def oCatL : Op2 := fun d e Z => match d, e with
  | .list xs, .list ys => xs.length + ys.length ≤ 100000 ∧ Z (.nw (.list (xs ++ ys)))
  | _, _ => False
theorem simR2_cat : SimR2 rCat oCatL := fun A H x y d e Q Z ad vx vy q k => by
  unfold oCatL at q
  split at q
  · rename_i xs ys
    obtain ⟨p1, us, e1, h1, r1⟩ := vx.lst
    obtain ⟨p2, ws, e2, h2, r2⟩ := vy.lst
    subst e1 e2
    have l1 := r1.len
    have l2 := r2.len
    refine ⟨p1, p2, us, ws, rfl, rfl, h1, h2, sz5 (by omega), fun p hp => ?_⟩
    refine k (.nw (.list (xs ++ ys))) _ _ (.new hp) ⟨p, rfl, hp, by rw [upd_same]; exact fun z => (nomatch z), us ++ ws, upd_same, ?_⟩ q.2
    exact (RpAll.pass (pass_new hp) _ _ r1).app (RpAll.pass (pass_new hp) _ _ r2)
  · exact q.elim
def rCatS : R2 := fun x y H Q => ∃ i j, x = V.str i ∧ y = V.str j ∧ i.length + j.length ≤ sizeLine ∧ Q (.str (i ++ j)) H
def oCatS : Op2 := fun d e Z => match d, e with
  | .str xs, .str ys => xs.length + ys.length ≤ 100000 ∧ Z (.fz (.str (xs ++ ys)))
  | _, _ => False
theorem simR2_catS : SimR2 rCatS oCatS := fun A H x y d e Q Z ad vx vy q k => by
  unfold oCatS at q
  split at q
  · rename_i xs ys
    cases vx.str
    cases vy.str
    exact ⟨xs, ys, rfl, rfl, sz5 q.1, k (.fz _) _ H .refl (.str _) q.2⟩
  · exact q.elim
/-- + -/
def oAdd : Op2 := fun d e Z => match d, e with
  | .int i, .int j => Z (.fz (.int (i + j)))
  | .tuple xs, .tuple ys => xs.length + ys.length ≤ 100000 ∧ Z (.fz (.tuple (xs ++ ys)))
  | .list xs, .list ys => xs.length + ys.length ≤ 100000 ∧ Z (.nw (.list (xs ++ ys)))
  | .str xs, .str ys => xs.length + ys.length ≤ 100000 ∧ Z (.fz (.str (xs ++ ys)))
  | _, _ => False
def rAddU (K : PySem.W.Frag) : R2 := fun x y H Q => rI0 (fun i j => .int (i + j)) x y H Q ∨ (fun x y H Q => rCatA K x y H Q ∨ (fun x y H Q => rCat x y H Q ∨ rCatS x y H Q) x y H Q) x y H Q
theorem op_addU {X : Cx} : OpR X (binaryOp .Add) (rAddU X.K) := op_add.or (op_catA.or (op_cat.or op_add_str))
theorem simR2_add {K : PySem.W.Frag} : SimR2 (rAddU K) oAdd :=
  (simR2_or (simR2_I0 (g' := fun i j => .int (i + j)) fun _ _ _ _ => .int _) (simR2_or simR2_catA (simR2_or simR2_cat simR2_catS))).imp fun d e Z q => by
    unfold oAdd at q
    split at q
    · exact .inl q
    · exact .inr (.inl q)
    · exact .inr (.inr (.inl q))
    · exact .inr (.inr (.inr q))
    · exact q.elim
theorem simR2_sub : SimR2 (rI0 fun i j => .int (i - j)) (dI0 fun i j => .int (i - j)) := simR2_I0 fun _ _ _ _ => .int _

/-! ### tuple * int, list * int -/
theorem tuple_mul1 (l : Addr) (items : Array Value) (n : Nat) (dd : Option Addr) (sl : Array (Option Value)) (x : Int) (u : Tok) (c0 : (decide (x < -(2 ^ 63)) || decide (x ≥ 2 ^ 63)) = false) (c1 : (items.isEmpty || x == 1) = true) :
    Meets (Builtin.«tuple.__mul__» ⟨[.ref l, .int x u], []⟩) (fun _ R s => s.heap.get? l = some { cls := .type "tuple", dict := dd, data := .seq items n, slots := sl } ∧ R (.ok (.ret (Value.ref l))) s) :=
  .of_wp fun prog w A R s h => by
    obtain ⟨hp, g, d, tk, os⟩ := s
    obtain ⟨hl, h⟩ := h
    have f1 := AutoSeq1.idx_int
    wp_walk using wpAny_loadPart' hl
    repeat (first
      | (refine wpAny_ite_false (decide_eq_false (by rw [c0]; exact Bool.false_ne_true)) ?_; wp_walk using wpAny_loadPart' hl)
      | (refine wpAny_ite_true (decide_eq_true c1) ?_; wp_walk using wpAny_loadPart' hl))
    exact ⟨_, rfl, h⟩
theorem tuple_mul0 (l : Addr) (items : Array Value) (n : Nat) (dd : Option Addr) (sl : Array (Option Value)) (x : Int) (u : Tok) (c0 : (decide (x < -(2 ^ 63)) || decide (x ≥ 2 ^ 63)) = false) (c1 : (items.isEmpty || x == 1) = false) (c2 : (decide (x ≤ 0) || items.isEmpty) = true) :
    Meets (Builtin.«tuple.__mul__» ⟨[.ref l, .int x u], []⟩) (fun _ R s => s.heap.get? l = some { cls := .type "tuple", dict := dd, data := .seq items n, slots := sl } ∧
      R (.ok (.ret (Value.ref s.heap.objs.size))) { s with heap := s.heap.push { cls := Value.type "tuple", data := Data.seq #[] }, toks := s.toks }) :=
  .of_wp fun prog w A R s h => by
    obtain ⟨hp, g, d, tk, os⟩ := s
    obtain ⟨hl, h⟩ := h
    have f1 := AutoSeq1.idx_int
    wp_walk using wpAny_loadPart' hl
    repeat (first
      | (refine wpAny_ite_false (decide_eq_false (by rw [c0]; exact Bool.false_ne_true)) ?_; wp_walk using wpAny_loadPart' hl)
      | (refine wpAny_ite_false (decide_eq_false (by rw [c1]; exact Bool.false_ne_true)) ?_; wp_walk using wpAny_loadPart' hl)
      | (refine wpAny_ite_true (decide_eq_true c2) ?_; wp_walk using wpAny_loadPart' hl))
    exact ⟨_, rfl, h⟩
/-- tuple * int, none of them, one of them -/
def rRep1 (K : PySem.W.Frag) : R2 := fun x y H Q => ∃ l xs, x = .ref l ∧ y = .int 1 ∧ SqT K H l xs ∧ Q (.ref l) H
def rRep0 (K : PySem.W.Frag) : R2 := fun x y H Q => ∃ l k xs, x = .ref l ∧ y = .int k ∧ SqT K H l xs ∧ xs ≠ [] ∧ k ≤ 0 ∧ -1000 ≤ k ∧ ∀ p, H p = none → Q (.ref p) (upd H p (.tup []))
section
variable {X : Cx}
theorem op_rep1 : OpR X (binaryOp .Mult) (rRep1 X.K) := by
  intro pins s σ H x y v u Q I rx ry h
  obtain ⟨l, xs, rfl, rfl, hT, q⟩ := h
  cases rx
  obtain ⟨t, rfl⟩ := ry
  obtain ⟨its, r, ⟨⟨cls, dd, data, sl⟩, ho, hc, n, hd⟩, hs⟩ := I.tuple hT
  simp only at hc hd
  subst hc hd
  have c1 : (its.toArray.isEmpty || (1 : Int) == 1) = true := by simp
  refine wpAny_binaryOp_repeat_ref (T := "tuple") (U := "int") (by decide) ⟨_, ho, rfl⟩ (fun s' => typeIs_int s' 1 t) noFill_tuple_mul F.fills_int_mul F.slot_int_rmul repeat_tuple F.slot_int_index.lookup
    (call_meets F.slot_int_rmul (typeIs_int s 1 t) F.entry_int_rmul (F.args_int_rmul_2 _ _) (int_rmul_tuple 1 t l its.toArray n dd sl)
      ⟨ho, rfl, ⟨_, ho, rfl⟩, call_meets F.slot_tuple_mul ⟨_, ho, rfl⟩ F.entry_tuple_mul (F.args_tuple_mul_2 _ _) (tuple_mul1 l its.toArray n dd sl 1 t (by decide) c1) ⟨ho, ?_⟩⟩)
  exact ⟨.ref l, H, I, rfl, q⟩
theorem op_rep0 : OpR X (binaryOp .Mult) (rRep0 X.K) := by
  intro pins s σ H x y v u Q I rx ry h
  obtain ⟨l, k, xs, rfl, rfl, hT, hne, h1, h2, q⟩ := h
  cases rx
  obtain ⟨t, rfl⟩ := ry
  obtain ⟨its, r, ⟨⟨cls, dd, data, sl⟩, ho, hc, n, hd⟩, hs⟩ := I.tuple hT
  simp only at hc hd
  subst hc hd
  have hle : its.length = xs.length := r.length.symm
  have hn : its ≠ [] := fun e => hne (by
    rw [e] at hle
    exact List.eq_nil_of_length_eq_zero hle.symm)
  have hi : its.toArray.isEmpty = false := by
    cases its with
    | nil => exact absurd rfl hn
    | cons a b => rfl
  have c0 : (decide (k < -(2 ^ 63)) || decide (k ≥ 2 ^ 63)) = false := by
    rw [decide_eq_false (by omega), decide_eq_false (by omega)] <;> rfl
  have c1 : (its.toArray.isEmpty || k == 1) = false := by
    rw [hi, Bool.false_or]
    exact beq_eq_false_iff_ne.mpr (by omega)
  have c2 : (decide (k ≤ 0) || its.toArray.isEmpty) = true := by
    rw [hi, Bool.or_false]
    exact decide_eq_true h1
  refine wpAny_binaryOp_repeat_ref (T := "tuple") (U := "int") (by decide) ⟨_, ho, rfl⟩ (fun s' => typeIs_int s' k t) noFill_tuple_mul F.fills_int_mul F.slot_int_rmul repeat_tuple F.slot_int_index.lookup
    (call_meets F.slot_int_rmul (typeIs_int s k t) F.entry_int_rmul (F.args_int_rmul_2 _ _) (int_rmul_tuple k t l its.toArray n dd sl)
      ⟨ho, rfl, ⟨_, ho, rfl⟩, call_meets F.slot_tuple_mul ⟨_, ho, rfl⟩ F.entry_tuple_mul (F.args_tuple_mul_2 _ _) (tuple_mul0 l its.toArray n dd sl k t c0 c1 c2) ⟨ho, ?_⟩⟩)
  refine ⟨.ref s.heap.objs.size, _, I.laid (t' := s.toks) (o := .tup []) (fun b ob q => Heap.get?_push_of_some _ q) (Nat.le_refl _) ?_, rfl, q _ (I.hok.fresh (Nat.le_refl _))⟩
  exact ⟨Nat.zero_le _, [], .nil, PyProof.Rows.IsTup.new _ _⟩
end
/-- * -/
def oMul : Op2 := fun d e Z => match d, e with
  | .int i, .int j => (i.natAbs < 2 ^ 64 ∨ j.natAbs < 2 ^ 64) ∧ Z (.fz (.int (i * j)))
  | .tuple xs, .int k => xs ≠ [] ∧ xs.length ≤ 1000 ∧ -1000 ≤ k ∧ k ≤ 1000 ∧ Z (.fz (.tuple (List.replicate k.toNat xs).flatten))
  | .list xs, .int k => xs.length ≤ 100 ∧ -1000 ≤ k ∧ k ≤ 1000 ∧ Z (.nw (.list (List.replicate k.toNat xs).flatten))
  | _, _ => False
def rMulU (K : PySem.W.Frag) : R2 := fun x y H Q => rI CMul (fun i j => .int (i * j)) x y H Q ∨ (fun x y H Q => rRep1 K x y H Q ∨ (fun x y H Q => rRep0 K x y H Q ∨ (fun x y H Q => rRepT K x y H Q ∨ rRep x y H Q) x y H Q) x y H Q) x y H Q
theorem op_mulU {X : Cx} : OpR X (binaryOp .Mult) (rMulU X.K) := op_mul.or (op_rep1.or (op_rep0.or (op_repT.or op_rep)))
theorem simR2_mul {K : PySem.W.Frag} : SimR2 (rMulU K) oMul := fun A H x y d e Q Z ad vx vy q k => by
  unfold oMul at q
  split at q
  · rename_i i j
    cases vx.int
    cases vy.int
    refine .inl ⟨i, j, rfl, rfl, ?_, k (.fz _) _ H .refl (.int _) q.2⟩
    rcases q.1 with h | h
    · exact .inl ⟨by omega, by omega⟩
    · exact .inr ⟨by omega, by omega⟩
  · rename_i xs n
    obtain ⟨hne, hl, h0, h1, q⟩ := q
    obtain ⟨p1, us, e1, e2, r1⟩ := vx.tup
    cases vy.int
    subst e1
    have l1 := r1.len
    have ne : us ≠ [] := fun z => by
      subst z
      cases r1
      exact hne rfl
    by_cases c1 : n = 1
    · subst c1
      refine .inr (.inl ⟨p1, us, rfl, rfl, SqT.of e2, k (.fz _) _ H .refl ?_ q⟩)
      show Rp A H (.ref p1) (.tuple (List.replicate 1 xs).flatten)
      rw [show (List.replicate 1 xs).flatten = xs by simp]
      exact .tup e2 r1
    · by_cases c0 : n ≤ 0
      · refine .inr (.inr (.inl ⟨p1, n, us, rfl, rfl, SqT.of e2, ne, c0, h0, fun p hp => k (.fz _) _ _ (.new hp) ?_ q⟩))
        show Rp A (upd H p (.tup [])) (.ref p) (.tuple (List.replicate n.toNat xs).flatten)
        rw [show n.toNat = 0 by omega]
        exact .tup upd_same .nil
      · refine .inr (.inr (.inr (.inl ⟨p1, n, us, rfl, rfl, SqT.of e2, ne, by omega, h1, by omega, fun p hp => k (.fz _) _ _ (.new hp) ?_ q⟩)))
        exact .tup upd_same (RpAll.rep _ (RpAll.pass ((Grow.new hp).pass fun _ z => .inl z) _ _ r1))
  · rename_i xs n
    obtain ⟨hl, h0, h1, q⟩ := q
    obtain ⟨p1, us, e1, e2, r1⟩ := vx.lst
    cases vy.int
    subst e1
    have l1 := r1.len
    refine .inr (.inr (.inr (.inr ⟨p1, n, us, rfl, rfl, e2, by omega, by omega, sz5 ?_, fun p hp => k (.nw (.list _)) _ _ (.new hp) ⟨p, rfl, hp, by rw [upd_same]; exact fun z => (nomatch z), _, upd_same, RpAll.rep _ (RpAll.pass (pass_new hp) _ _ r1)⟩ q⟩)))
    have := Nat.mul_le_mul (show us.length ≤ 100 by omega) (show n.toNat ≤ 1000 by omega)
    omega
  · exact q.elim
/-- //, %, ** of ints -/
theorem op_fdivU {X : Cx} : OpR X (binaryOp .FloorDiv) (rI CDivW fun i j => .int (i / j)) := op_fdivW
theorem simR2_fdiv : SimR2 (rI CDivW fun i j => .int (i / j)) (dI (fun _ j => 0 < j ∧ j < 2 ^ 60) fun i j => .int (i / j)) := simR2_I (fun _ _ _ _ => .int _) fun i j h => wide_div (b := 60) h.1 (by omega) (by decide) (by decide)
theorem simR2_mod : SimR2 (rI (fun _ j => 0 < j) fun i j => .int (i % j)) (dI (fun _ j => 0 < j) fun i j => .int (i % j)) := simR2_I (fun _ _ _ _ => .int _) fun _ _ h => h
theorem simR2_pow : SimR2 (rI CPow fun i j => .int (i ^ j.toNat)) (dI (fun i j => 0 ≤ j ∧ j ≤ 1000 ∧ i.natAbs < 2 ^ 60) fun i j => .int (i ^ j.toNat)) := simR2_I (fun _ _ _ _ => .int _) fun i j h => ⟨h.1, by omega, by omega⟩

/-! ### comparisons -/
def cmpD (p : Int → Int → Bool) : Op2 := dI0 fun i j => .bool (p i j)
theorem simR2_lt : SimR2 (rI0 fun i j => .bl (decide (i < j))) (cmpD fun i j => decide (i < j)) := simR2_I0 fun _ _ _ _ => .bl _
theorem simR2_le : SimR2 (rI0 fun i j => .bl (decide (i ≤ j))) (cmpD fun i j => decide (i ≤ j)) := simR2_I0 fun _ _ _ _ => .bl _
theorem simR2_gt : SimR2 (rI0 fun i j => .bl (decide (j < i))) (cmpD fun i j => decide (j < i)) := simR2_I0 fun _ _ _ _ => .bl _
theorem simR2_ge : SimR2 (rI0 fun i j => .bl (decide (j ≤ i))) (cmpD fun i j => decide (j ≤ i)) := simR2_I0 fun _ _ _ _ => .bl _
def nodict : PyData → Prop := fun d => ∀ kvs, d ≠ .dict kvs
theorem nodict_of_shaped {d : PyData} (h : SeqAt.shaped d = true) : nodict d := fun kvs e => by
  subst e
  have h' : ((PyData.dict kvs).canLay0 && decide ((PyData.dict kvs).depth ≤ 64)) = true := h
  simp [PyData.canLay0] at h'
def oEq : Op2 := fun d e Z => SeqAt.shaped d = true ∧ SeqAt.shaped e = true ∧ Z (.fz (.bool (PyData.eqv d e)))
def oNe : Op2 := fun d e Z => SeqAt.shaped d = true ∧ SeqAt.shaped e = true ∧ Z (.fz (.bool (!PyData.eqv d e)))
theorem simR2_eq {K : PySem.W.Frag} : SimR2 (rEqD K) oEq := fun A H x y d e Q Z ad vx vy q k =>
  ⟨d, e, vx.dp (nodict_of_shaped q.1), vy.dp (nodict_of_shaped q.2.1), q.1, q.2.1, k (.fz _) _ H .refl (.bl _) q.2.2⟩
theorem simR2_ne {K : PySem.W.Frag} : SimR2 (rNeD K) oNe := fun A H x y d e Q Z ad vx vy q k =>
  ⟨d, e, vx.dp (nodict_of_shaped q.1), vy.dp (nodict_of_shaped q.2.1), q.1, q.2.1, k (.fz _) _ H .refl (.bl _) q.2.2⟩
/-- is None, is True, is False -/
def isN : PyData → Bool
  | .none => true
  | _ => false
theorem Vw.isN {A : Av} {H : Hp} {v : V} {d : PyData} (h : Vw A H v d) : decide (v = .non) = isN d := by
  rcases h with h | ⟨p, e, h⟩
  · cases h <;> rfl
  · subst e
    cases d <;> first | exact h.elim | rfl
def oIs (neg : Bool) : Op2 := fun d e Z => match e with
  | .none => Z (.fz (.bool (neg ^^ isN d)))
  | .bool b => match d with
    | .bool a => Z (.fz (.bool (neg ^^ decide (a = b))))
    | _ => False
  | _ => False
def rIsU : R2 := fun x y H Q => (fun x y H Q => y = .non ∧ Q (.bl (decide (x = .non))) H) x y H Q ∨ rIsB x y H Q
def rIsNotU : R2 := fun x y H Q => (fun x y H Q => y = .non ∧ Q (.bl (!decide (x = .non))) H) x y H Q ∨ rNotB x y H Q
theorem op_isU {X : Cx} : OpR X (compareOp .Is) rIsU := op_isN.or op_isBl
theorem op_isNotU {X : Cx} : OpR X (compareOp .IsNot) rIsNotU := op_notN.or op_notBl
theorem simR2_is : SimR2 rIsU (oIs false) := fun A H x y d e Q Z ad vx vy q k => by
  unfold oIs at q
  split at q
  · cases vy.non
    exact .inl ⟨rfl, by rw [vx.isN]; exact k (.fz _) _ H .refl (.bl _) (by simpa using q)⟩
  · rename_i b
    split at q
    · rename_i a
      cases vy.bl
      cases vx.bl
      exact .inr ⟨a, b, rfl, rfl, k (.fz _) _ H .refl (.bl _) (by simpa using q)⟩
    · exact q.elim
  · exact q.elim
theorem simR2_isNot : SimR2 rIsNotU (oIs true) := fun A H x y d e Q Z ad vx vy q k => by
  unfold oIs at q
  split at q
  · cases vy.non
    exact .inl ⟨rfl, by rw [vx.isN]; exact k (.fz _) _ H .refl (.bl _) (by simpa using q)⟩
  · rename_i b
    split at q
    · rename_i a
      cases vy.bl
      cases vx.bl
      exact .inr ⟨a, b, rfl, rfl, k (.fz _) _ H .refl (.bl _) (by simpa using q)⟩
    · exact q.elim
  · exact q.elim
/-- in: a list, a tuple of flat things -/
def flatD : PyData → Bool
  | .none | .bool _ | .int _ | .str _ => true
  | _ => false
theorem Vw.flat {A : Av} {H : Hp} {v : V} {d : PyData} (h : Vw A H v d) (f : flatD d = true) : flatV v = true := by
  rcases h with h | ⟨p, e, h⟩
  · cases h <;> first | rfl | cases f
  · cases d <;> first | exact h.elim | cases f
theorem Rp.flat {A : Av} {H : Hp} {v : V} {d : PyData} (h : Rp A H v d) (f : flatD d = true) : flatV v = true := Vw.flat (.inl h) f
theorem RpAll.flat {A : Av} {H : Hp} : ∀ {vs : List V} {ds : List PyData}, RpAll A H vs ds → ds.all flatD = true → vs.all flatV = true
  | _, _, .nil, _ => rfl
  | _, _, .cons h1 h2, f => by
    rw [List.all_cons, Bool.and_eq_true] at f
    rw [List.all_cons, Rp.flat h1 f.1, RpAll.flat h2 f.2]
    rfl
theorem eqV_eqv {A A' : Av} {H H' : Hp} {x y : V} {d e : PyData} (h : Rp A H x d) (h' : Rp A' H' y e) (f : flatD d = true) (f' : flatD e = true) : eqV x y = PyData.eqv d e := by
  cases h with
  | lst _ _ _ => exact absurd f Bool.false_ne_true
  | tup _ _ => exact absurd f Bool.false_ne_true
  | _ =>
    cases h' with
    | lst _ _ _ => exact absurd f' Bool.false_ne_true
    | tup _ _ => exact absurd f' Bool.false_ne_true
    | _ => simp [eqV, PyData.eqv]
def inD (ds : List PyData) (d : PyData) : Bool := ds.any fun z => PyData.eqv z d
theorem inV_inD {A A' : Av} {H H' : Hp} {y : V} {e : PyData} (h' : Rp A' H' y e) (f' : flatD e = true) : ∀ {vs : List V} {ds : List PyData}, RpAll A H vs ds → ds.all flatD = true → inV y vs = inD ds e
  | _, _, .nil, _ => rfl
  | _, _, .cons h1 h2, f => by
    rw [List.all_cons, Bool.and_eq_true] at f
    have ih := inV_inD h' f' h2 f.2
    unfold inV inD at ih ⊢
    rw [List.any_cons, List.any_cons, eqV_eqv h1 h' f.1 f', ih]
def itemsD : PyData → Option (List PyData)
  | .list ds => some ds
  | .tuple ds => some ds
  | _ => none
theorem Vw.items {K : PySem.W.Frag} {A : Av} {H : Hp} {v : V} {d : PyData} {ds : List PyData} (h : Vw A H v d) (e : itemsD d = some ds) : ∃ p xs, v = .ref p ∧ (SqL K H p xs ∨ SqT K H p xs) ∧ RpAll A H xs ds := by
  cases d with
  | list es =>
    cases e
    obtain ⟨p, xs, e1, e2, e3⟩ := h.lst
    exact ⟨p, xs, e1, .inl (SqL.of e2), e3⟩
  | tuple es =>
    cases e
    obtain ⟨p, xs, e1, e2, e3⟩ := h.tup
    exact ⟨p, xs, e1, .inr (SqT.of e2), e3⟩
  | _ => cases e
def oIn (neg : Bool) : Op2 := fun d e Z => ∃ ds, itemsD e = some ds ∧ flatD d = true ∧ ds.all flatD = true ∧ Z (.fz (.bool (neg ^^ inD ds d)))
theorem Vw.rp {A : Av} {H : Hp} {v : V} {d : PyData} (h : Vw A H v d) (f : flatD d = true) : Rp A H v d := by
  rcases h with h | ⟨p, e, h⟩
  · exact h
  · cases d <;> first | exact h.elim | cases f
theorem simR2_in {K : PySem.W.Frag} : SimR2 (rIn K false) (oIn false) := fun A H x y d e Q Z ad vx vy q k => by
  obtain ⟨ds, h1, h2, h3, q⟩ := q
  obtain ⟨p, xs, e1, e2, e3⟩ := vy.items (K := K) h1
  refine ⟨p, xs, e1, e2, vx.flat h2, e3.flat h3, ?_⟩
  rw [inV_inD (vx.rp h2) h2 e3 h3]
  exact k (.fz _) _ H .refl (.bl _) (by simpa using q)
theorem simR2_notIn {K : PySem.W.Frag} : SimR2 (rIn K true) (oIn true) := fun A H x y d e Q Z ad vx vy q k => by
  obtain ⟨ds, h1, h2, h3, q⟩ := q
  obtain ⟨p, xs, e1, e2, e3⟩ := vy.items (K := K) h1
  refine ⟨p, xs, e1, e2, vx.flat h2, e3.flat h3, ?_⟩
  rw [inV_inD (vx.rp h2) h2 e3 h3]
  exact k (.fz _) _ H .refl (.bl _) (by simpa using q)

/-! ### items, slices -/
theorem ixN_of {α β : Type} {xs : List α} {ys : List β} (h : xs.length = ys.length) (i : Int) : ixN xs.length i = ixN ys.length i := by rw [h]
theorem RpAll.atI {A : Av} {H : Hp} {vs : List V} {ds : List PyData} {i : Int} {d : PyData} (h : RpAll A H vs ds) (e : L2.atI ds i = some d) : ∃ v, L2.atI vs i = some v ∧ Rp A H v d := by
  unfold L2.atI at e ⊢
  rw [h.len]
  cases hj : ixN ds.length i with
  | none => rw [hj] at e; cases e
  | some j =>
    rw [hj] at e
    exact h.get (i := j) e
def oIx : Op2 := fun d e Z => match d, e with
  | .tuple ds, .int i => ∃ x, L2.atI ds i = some x ∧ Z (.fz x)
  | .list ds, .int i => ∃ x, L2.atI ds i = some x ∧ Z (.fz x)
  | _, _ => False
theorem simR2_ix {K : PySem.W.Frag} : SimR2 (rIx K) oIx := fun A H x y d e Q Z ad vx vy q k => by
  unfold oIx at q
  split at q
  · rename_i ds i
    obtain ⟨p, xs, e1, e2, e3⟩ := vx.tup
    cases vy.int
    obtain ⟨z, h1, q⟩ := q
    obtain ⟨v, h2, h3⟩ := e3.atI h1
    exact .inr (.inl ⟨p, xs, i, v, e1, rfl, SqT.of e2, h2, k (.fz _) _ H .refl h3 q⟩)
  · rename_i ds i
    obtain ⟨p, xs, e1, e2, e3⟩ := vx.lst
    cases vy.int
    obtain ⟨z, h1, q⟩ := q
    obtain ⟨v, h2, h3⟩ := e3.atI h1
    exact .inl ⟨p, xs, i, v, e1, rfl, SqL.of e2, h2, k (.fz _) _ H .refl h3 q⟩
  · exact q.elim
abbrev DO := DEnv → (Option Int → DEnv → Prop) → Prop
def SimO (t : TO) (d : DO) : Prop := ∀ (H0 : Fx) (B : Av) (σ : L2.St) (H : Hp) (ρ : DEnv) (Q : Option Int → Hp → Prop) (QD : Option Int → DEnv → Prop), Rel H0 B σ H ρ → d ρ QD →
  (∀ b ρ' H', Rel H0 B σ H' ρ' → Stp σ ρ H σ ρ' H' → Keep ρ ρ' → QD b ρ' → Q b H') → t σ H Q
def dNoPart : DO := fun ρ Q => Q none ρ
def dPart (de : DE) : DO := fun ρ Q => de ρ fun r ρ' => ∃ i, r.dat ρ' = .int i ∧ Q (some i) ρ'
theorem simO_none : SimO tNoPart dNoPart := fun H0 B σ H ρ Q QD R h k => k none ρ H R .refl .refl h
theorem simO_some {te : TE} {de : DE} (h : SimE te de) : SimO (tPart te) (dPart de) := fun H0 B σ H ρ Q QD R q k =>
  h H0 B σ H ρ _ _ R q fun r ρ1 v H1 R1 S1 K1 o1 q1 => by
    obtain ⟨i, e, q1⟩ := q1
    have vw := o1.cv.vw R1
    rw [e] at vw
    exact ⟨i, vw.int, k _ _ _ R1 S1 K1 q1⟩
def cut {α : Type} (xs : List α) (lo hi : Option Int) : List α := (xs.drop (HT.sIx xs.length 0 lo)).take (HT.sIx xs.length xs.length hi - HT.sIx xs.length 0 lo)
theorem RpAll.cut {A : Av} {H : Hp} {vs : List V} {ds : List PyData} (lo hi : Option Int) (h : RpAll A H vs ds) : RpAll A H (cutV vs lo hi) (Dl.cut ds lo hi) := by
  unfold cutV Dl.cut
  rw [h.len]
  exact RpAll.take _ (RpAll.drop _ h)
abbrev OpS := PyData → Option Int → Option Int → (Rs → Prop) → Prop
def oSl : OpS := fun d lo hi Z => match d with
  | .tuple ds => Z (.fz (.tuple (cut ds lo hi)))
  | .list ds => Z (.nw (.list (cut ds lo hi)))
  | _ => False
def rSlU (K : PySem.W.Frag) : V → Option Int → Option Int → Hp → VK → Prop := fun x lo hi H Q => rSlA K x lo hi H Q ∨ rSlL K x lo hi H Q
theorem sl_U {X : Cx} : SlR X (rSlU X.K) := sl_tupA.or sl_list
def dSl (de : DE) (dl dh : DO) : DE := fun ρ Q => de ρ fun r ρ1 => dl ρ1 fun lo ρ2 => dh ρ2 fun hi ρ3 => oSl (r.dat ρ3) lo hi fun z => Q z ρ3
theorem simE_sl {K : PySem.W.Frag} {te : TE} {tl th : TO} {de : DE} {dl dh : DO} (he : SimE te de) (hl : SimO tl dl) (hh : SimO th dh) : SimE (tSl (rSlU K) te tl th) (dSl de dl dh) := fun H0 B σ H ρ Q QD R q k =>
  he H0 B σ H ρ _ _ R q fun r1 ρ1 v1 H1 R1 S1 K1 o1 q1 => hl H0 B σ H1 ρ1 _ _ R1 q1 fun lo ρ2 H2 R2 S2 K2 q2 => hh H0 B σ H2 ρ2 _ _ R2 q2 fun hi ρ3 H3 R3 S3 K3 q3 => by
    have vw := ((o1.cv.step S2 K2).step S3 K3).vw R3
    unfold oSl at q3
    split at q3
    · rename_i ds ed
      rw [ed] at vw
      obtain ⟨p, xs, e1, e2, e3⟩ := vw.tup
      refine .inl ⟨p, xs, e1, SqT.of e2, fun z => ?_, fun z p' hp' => ?_⟩
      · refine k (.fz _) _ _ _ R3 ((S1.trans S2).trans S3) ((K1.trans K2).trans K3) ?_ q3
        have ec : Dl.cut ds lo hi = ds := by
          unfold Dl.cut
          rw [← e3.len, z.1, z.2, e3.len]
          simp
        rw [ec]
        exact .tup e2 e3
      · have g : Grow H3 (upd H3 p' (.tup (cutV xs lo hi))) := .new hp'
        refine k (.fz _) _ _ _ (R3.grow g) (((S1.trans S2).trans S3).trans g.stp) ((K1.trans K2).trans K3) ?_ q3
        exact .tup upd_same (RpAll.pass (g.pass fun _ z => .inl z) _ _ (e3.cut lo hi))
    · rename_i ds ed
      rw [ed] at vw
      obtain ⟨p, xs, e1, e2, e3⟩ := vw.lst
      refine .inr ⟨p, xs, e1, SqL.of e2, fun p' hp' => ?_⟩
      have g : Grow H3 (upd H3 p' (.lst (cutV xs lo hi))) := .new hp'
      refine k (.nw (.list (Dl.cut ds lo hi))) _ _ _ (R3.grow g) (((S1.trans S2).trans S3).trans g.stp) ((K1.trans K2).trans K3) ((resOk_of R3 g (r := .nw (.list (Dl.cut ds lo hi))) ⟨p', rfl, hp', by rw [upd_same]; exact fun z => (nomatch z), cutV xs lo hi, upd_same, ?_⟩).back ((S1.trans S2).trans S3).dom) q3
      exact RpAll.pass (pass_new hp') _ _ (e3.cut lo hi)
    · exact q3.elim
end Dl
set_option Elab.async false
set_option linter.all false
set_option maxRecDepth 100000
set_option maxHeartbeats 4000000
/-! The data layer, part 3: logic, arguments, displays, targets, statements, loops. -/
namespace Dl
open PySem L2

/-! ### tests -/
def dTest (de : DE) : DT := fun ρ Q => de ρ fun r ρ' => match r.dat ρ' with
  | .bool b => Q b ρ'
  | _ => False
theorem simT_test {te : TE} {de : DE} (h : SimE te de) : SimT (tTest te) (dTest de) := fun H0 B σ H ρ Q QD R q k =>
  h H0 B σ H ρ _ _ R q fun r ρ1 v H1 R1 S1 K1 o1 q1 => by
    have vw := o1.cv.vw R1
    split at q1
    · rename_i b e
      rw [e] at vw
      exact ⟨b, vw.bl, k b ρ1 H1 R1 S1 K1 q1⟩
    · exact q1.elim
theorem simT_B {te : TE} {de : DE} (h : SimE te de) : SimT (tB te) (dTest de) := simT_test h
def dAnd (a b : DT) : DT := fun ρ Q => a ρ fun c ρ1 => if c = true then b ρ1 Q else Q false ρ1
def dOr (a b : DT) : DT := fun ρ Q => a ρ fun c ρ1 => if c = true then Q true ρ1 else b ρ1 Q
def dNot (a : DT) : DT := fun ρ Q => a ρ fun c ρ1 => Q (!c) ρ1
theorem simT_and {t u : TT} {a b : DT} (ha : SimT t a) (hb : SimT u b) : SimT (tAnd t u) (dAnd a b) := fun H0 B σ H ρ Q QD R q k =>
  ha H0 B σ H ρ _ _ R q fun c ρ1 H1 R1 S1 K1 q1 => by
    cases c with
    | true => exact hb H0 B σ H1 ρ1 _ _ R1 q1 fun d ρ2 H2 R2 S2 K2 q2 => k d ρ2 H2 R2 (S1.trans S2) (K1.trans K2) q2
    | false => exact k false ρ1 H1 R1 S1 K1 q1
theorem simT_or {t u : TT} {a b : DT} (ha : SimT t a) (hb : SimT u b) : SimT (tOr t u) (dOr a b) := fun H0 B σ H ρ Q QD R q k =>
  ha H0 B σ H ρ _ _ R q fun c ρ1 H1 R1 S1 K1 q1 => by
    cases c with
    | false => exact hb H0 B σ H1 ρ1 _ _ R1 q1 fun d ρ2 H2 R2 S2 K2 q2 => k d ρ2 H2 R2 (S1.trans S2) (K1.trans K2) q2
    | true => exact k true ρ1 H1 R1 S1 K1 q1
theorem simT_not {t : TT} {a : DT} (ha : SimT t a) : SimT (tNot t) (dNot a) := fun H0 B σ H ρ Q QD R q k =>
  ha H0 B σ H ρ _ _ R q fun c ρ1 H1 R1 S1 K1 q1 => k (!c) ρ1 H1 R1 S1 K1 q1
/-- as values -/
def dAndV (a b : DE) : DE := fun ρ Q => a ρ fun r ρ1 => match r.dat ρ1 with
  | .bool c => if c = true then b ρ1 Q else Q (.fz (.bool false)) ρ1
  | _ => False
def dOrV (a b : DE) : DE := fun ρ Q => a ρ fun r ρ1 => match r.dat ρ1 with
  | .bool c => if c = true then Q (.fz (.bool true)) ρ1 else b ρ1 Q
  | _ => False
def dNotV (a : DE) : DE := fun ρ Q => a ρ fun r ρ1 => match r.dat ρ1 with
  | .bool c => Q (.fz (.bool (!c))) ρ1
  | _ => False
theorem simE_andV {t u : TE} {a b : DE} (ha : SimE t a) (hb : SimE u b) : SimE (tAndV t u) (dAndV a b) := fun H0 B σ H ρ Q QD R q k =>
  ha H0 B σ H ρ _ _ R q fun r ρ1 v H1 R1 S1 K1 o1 q1 => by
    have vw := o1.cv.vw R1
    split at q1
    · rename_i c e
      rw [e] at vw
      refine ⟨c, vw.bl, ?_⟩
      cases c with
      | true => exact hb H0 B σ H1 ρ1 _ _ R1 q1 fun d ρ2 v2 H2 R2 S2 K2 o2 q2 => k d ρ2 v2 H2 R2 (S1.trans S2) (K1.trans K2) (o2.back S1.dom) q2
      | false => exact k (.fz _) ρ1 _ H1 R1 S1 K1 (.bl false) q1
    · exact q1.elim
theorem simE_orV {t u : TE} {a b : DE} (ha : SimE t a) (hb : SimE u b) : SimE (tOrV t u) (dOrV a b) := fun H0 B σ H ρ Q QD R q k =>
  ha H0 B σ H ρ _ _ R q fun r ρ1 v H1 R1 S1 K1 o1 q1 => by
    have vw := o1.cv.vw R1
    split at q1
    · rename_i c e
      rw [e] at vw
      refine ⟨c, vw.bl, ?_⟩
      cases c with
      | false => exact hb H0 B σ H1 ρ1 _ _ R1 q1 fun d ρ2 v2 H2 R2 S2 K2 o2 q2 => k d ρ2 v2 H2 R2 (S1.trans S2) (K1.trans K2) (o2.back S1.dom) q2
      | true => exact k (.fz _) ρ1 _ H1 R1 S1 K1 (.bl true) q1
    · exact q1.elim
theorem simE_notV {t : TE} {a : DE} (ha : SimE t a) : SimE (tNotV t) (dNotV a) := fun H0 B σ H ρ Q QD R q k =>
  ha H0 B σ H ρ _ _ R q fun r ρ1 v H1 R1 S1 K1 o1 q1 => by
    have vw := o1.cv.vw R1
    split at q1
    · rename_i c e
      rw [e] at vw
      exact ⟨c, vw.bl, k (.fz _) ρ1 _ H1 R1 S1 K1 (.bl _) q1⟩
    · exact q1.elim
def dIfE (t : DT) (a b : DE) : DE := fun ρ Q => t ρ fun c ρ1 => if c = true then a ρ1 Q else b ρ1 Q
theorem simE_if {t : TT} {u v : TE} {dt : DT} {a b : DE} (ht : SimT t dt) (ha : SimE u a) (hb : SimE v b) : SimE (tIf t u v) (dIfE dt a b) := fun H0 B σ H ρ Q QD R q k =>
  ht H0 B σ H ρ _ _ R q fun c ρ1 H1 R1 S1 K1 q1 => by
    cases c with
    | true => exact ha H0 B σ H1 ρ1 _ _ R1 q1 fun d ρ2 v2 H2 R2 S2 K2 o2 q2 => k d ρ2 v2 H2 R2 (S1.trans S2) (K1.trans K2) (o2.back S1.dom) q2
    | false => exact hb H0 B σ H1 ρ1 _ _ R1 q1 fun d ρ2 v2 H2 R2 S2 K2 o2 q2 => k d ρ2 v2 H2 R2 (S1.trans S2) (K1.trans K2) (o2.back S1.dom) q2
/-- a op b op' c over ints -/
def dChain (f f' : Op2) (a b c : DE) : DE := fun ρ Q => a ρ fun r ρ1 => b ρ1 fun r2 ρ2 => f (r.dat ρ2) (r2.dat ρ2) fun z => match z with
  | .fz (.bool k) => if k = true then c ρ2 fun r3 ρ3 => f' (r2.dat ρ3) (r3.dat ρ3) fun z => Q z ρ3 else Q (.fz (.bool false)) ρ2
  | _ => False
theorem simE_chain {r r' : R2} {f f' : Op2} {ta tb tc : TE} {a b c : DE} (hr : SimR2 r f) (hr' : SimR2 r' f') (ha : SimE ta a) (hb : SimE tb b) (hc : SimE tc c) : SimE (tChain r r' ta tb tc) (dChain f f' a b c) := fun H0 B σ H ρ Q QD R q k => by
  refine ha H0 B σ H ρ _ _ R q fun r1 ρ1 v1 H1 R1 S1 K1 o1 q1 => ?_
  refine hb H0 B σ H1 ρ1 _ _ R1 q1 fun r2 ρ2 v2 H2 R2 S2 K2 o2 q2 => ?_
  refine hr (Al B σ ρ2) H2 v1 v2 _ _ _ _ R2.adom ((o1.cv.step S2 K2).vw R2) (o2.cv.vw R2) q2 fun z v H3 g rv q3 => ?_
  have R3 := R2.grow g
  have S3 := (S1.trans S2).trans (g.stp (σ := σ) (ρ := ρ2))
  cases z with
  | br i => exact q3.elim
  | nw d => exact q3.elim
  | np _ _ => exact q3.elim
  | fz d =>
    cases d with
    | bool b =>
      have rv' : Rp (Al B σ ρ2) H3 v (.bool b) := rv
      cases rv'
      refine ⟨b, rfl, ?_⟩
      cases b with
      | false => exact k (.fz _) ρ2 _ H3 R3 S3 (K1.trans K2) (.bl false) q3
      | true =>
        refine hc H0 B σ H3 ρ2 _ _ R3 q3 fun r4 ρ4 v4 H4 R4 S4 K4 o4 q4 => ?_
        exact hr' (Al B σ ρ4) H4 v2 v4 _ _ _ _ R4.adom (((o2.cv.step (g.stp (σ := σ) (ρ := ρ2)) .refl).step S4 K4).vw R4) (o4.cv.vw R4) q4 fun z v H' g rv q => k z ρ4 v H' (R4.grow g) ((S3.trans S4).trans g.stp) ((K1.trans K2).trans K4) ((resOk_of R4 g rv).back (S3.trans S4).dom) q
    | _ => exact q3.elim

/-! ### arguments, displays -/
def dNil : DA := fun ρ Q => Q [] ρ
def dCons (a : DE) (r : DA) : DA := fun ρ Q => a ρ fun x ρ1 => r ρ1 fun xs ρ2 => Q (x :: xs) ρ2
theorem simA_nil : SimA tNil dNil := fun H0 B σ H ρ Q QD R q k => k [] ρ [] H R .refl .refl trivial q
theorem simA_cons {te : TE} {tr : TA} {de : DE} {dr : DA} (h : SimE te de) (hr : SimA tr dr) : SimA (tCons te tr) (dCons de dr) := fun H0 B σ H ρ Q QD R q k =>
  h H0 B σ H ρ _ _ R q fun r1 ρ1 v1 H1 R1 S1 K1 o1 q1 => hr H0 B σ H1 ρ1 _ _ R1 q1 fun rs ρ2 vs H2 R2 S2 K2 o2 q2 => k (r1 :: rs) ρ2 (v1 :: vs) H2 R2 (S1.trans S2) (K1.trans K2) ⟨o1.cv.step S2 K2, o2⟩ q2
def stoAll : List Rs → Option (List PyData)
  | [] => some []
  | r :: rs => match r.sto, stoAll rs with
    | some d, some ds => some (d :: ds)
    | _, _ => none
theorem CvAll.sto {B : Av} {σ : L2.St} {H : Hp} {ρ : DEnv} : ∀ {vs : List V} {rs : List Rs} {ds : List PyData}, CvAll B σ H ρ vs rs → stoAll rs = some ds → RpAll (Al B σ ρ) H vs ds
  | [], [], ds, _, e => by
    cases e
    exact .nil
  | v :: vs, r :: rs, ds, h, e => by
    unfold stoAll at e
    split at e
    · rename_i d ds' e1 e2
      cases e
      exact .cons (h.1.sto e1) (CvAll.sto h.2 e2)
    · cases e
  | [], _ :: _, _, h, _ => h.elim
  | _ :: _, [], _, h, _ => h.elim
theorem CvAll.len {B : Av} {σ : L2.St} {H : Hp} {ρ : DEnv} : ∀ {vs : List V} {rs : List Rs}, CvAll B σ H ρ vs rs → vs.length = rs.length
  | [], [], _ => rfl
  | _ :: _, _ :: _, h => by simp [CvAll.len h.2]
  | [], _ :: _, h => h.elim
  | _ :: _, [], h => h.elim
theorem CvAll.vw {H0 : Fx} {B : Av} {σ : L2.St} {H : Hp} {ρ : DEnv} (R : Rel H0 B σ H ρ) : ∀ {vs : List V} {rs : List Rs}, CvAll B σ H ρ vs rs → VwAll (Al B σ ρ) H vs (rs.map (Rs.dat ρ))
  | [], [], _ => trivial
  | _ :: _, _ :: _, h => ⟨h.1.vw R, CvAll.vw R h.2⟩
  | [], _ :: _, h => h.elim
  | _ :: _, [], h => h.elim
def dTup (da : DA) : DE := fun ρ Q => da ρ fun rs ρ1 => ∃ ds, stoAll rs = some ds ∧ ds.length ≤ 100000 ∧ Q (.fz (.tuple ds)) ρ1
def dLst (da : DA) : DE := fun ρ Q => da ρ fun rs ρ1 => ∃ ds, stoAll rs = some ds ∧ ds.length ≤ 100000 ∧ Q (.nw (.list ds)) ρ1
theorem simE_tup {ta : TA} {da : DA} (h : SimA ta da) : SimE (tTup ta) (dTup da) := fun H0 B σ H ρ Q QD R q k =>
  h H0 B σ H ρ _ _ R q fun rs ρ1 vs H1 R1 S1 K1 o1 q1 => by
    obtain ⟨ds, e, hl, q1⟩ := q1
    have r := o1.sto e
    refine ⟨sz5 (by rw [r.len]; exact hl), fun p hp => ?_⟩
    have g : Grow H1 (upd H1 p (.tup vs)) := .new hp
    refine k (.fz _) ρ1 _ _ (R1.grow g) (S1.trans g.stp) K1 ((resOk_of R1 g (r := .fz _) ?_).back S1.dom) q1
    exact .tup upd_same (RpAll.pass (g.pass fun _ z => .inl z) _ _ r)
theorem simE_lst {ta : TA} {da : DA} (h : SimA ta da) : SimE (tLst ta) (dLst da) := fun H0 B σ H ρ Q QD R q k =>
  h H0 B σ H ρ _ _ R q fun rs ρ1 vs H1 R1 S1 K1 o1 q1 => by
    obtain ⟨ds, e, hl, q1⟩ := q1
    have r := o1.sto e
    refine ⟨sz5 (by rw [r.len]; exact hl), fun p hp => ?_⟩
    have g : Grow H1 (upd H1 p (.lst vs)) := .new hp
    refine k (.nw (.list ds)) ρ1 _ _ (R1.grow g) (S1.trans g.stp) K1 ((resOk_of R1 g (r := .nw (.list ds)) ⟨p, rfl, hp, by rw [upd_same]; exact fun z => (nomatch z), vs, upd_same, RpAll.pass (pass_new hp) _ _ r⟩).back S1.dom) q1
/-- a call of a built-in -/
def dCB (f : OpN) (da : DA) : DE := fun ρ Q => da ρ fun rs ρ1 => f (rs.map (Rs.dat ρ1)) fun z => Q z ρ1
theorem simE_cb {r : List V → Hp → VK → Prop} {f : OpN} {ta : TA} {da : DA} (hr : SimRN r f) (h : SimA ta da) : SimE (tCB r ta) (dCB f da) := fun H0 B σ H ρ Q QD R q k =>
  h H0 B σ H ρ _ _ R q fun rs ρ1 vs H1 R1 S1 K1 o1 q1 => hr (Al B σ ρ1) H1 vs _ _ _ R1.adom (o1.vw R1) q1 fun z v H' g rv q => k z ρ1 v H' (R1.grow g) (S1.trans g.stp) K1 ((resOk_of R1 g rv).back S1.dom) q
theorem VwAll.one {A : Av} {H : Hp} {vs : List V} {d : PyData} (h : VwAll A H vs [d]) : ∃ v, vs = [v] ∧ Vw A H v d := by
  cases vs with
  | nil => exact h.elim
  | cons v r =>
    cases r with
    | nil => exact ⟨v, rfl, h.1⟩
    | cons _ _ => exact h.2.elim
theorem VwAll.two {A : Av} {H : Hp} {vs : List V} {d e : PyData} (h : VwAll A H vs [d, e]) : ∃ v w, vs = [v, w] ∧ Vw A H v d ∧ Vw A H w e := by
  cases vs with
  | nil => exact h.elim
  | cons v r =>
    obtain ⟨w, e, h2⟩ := VwAll.one h.2
    subst e
    exact ⟨v, w, rfl, h.1, h2⟩
/-- len of a list, a tuple -/
def oLen : OpN := fun ds Z => match ds with
  | [d] => ∃ xs, itemsD d = some xs ∧ Z (.fz (.int xs.length))
  | _ => False
def rLenU (K : PySem.W.Frag) : List V → Hp → VK → Prop := fun xs H Q => ∃ p ys, xs = [.ref p] ∧ (SqL K H p ys ∨ SqT K H p ys) ∧ Q (.int ys.length) H
theorem call_lenU {X : Cx} : CallR X (.builtin "len") (rLenU X.K) := call_len_seq
theorem simRN_len {K : PySem.W.Frag} : SimRN (rLenU K) oLen := fun A H xs ds Q Z ad hv q k => by
  unfold oLen at q
  split at q
  · rename_i d
    obtain ⟨v, e, hv1⟩ := VwAll.one hv
    subst e
    obtain ⟨us, e1, q⟩ := q
    obtain ⟨p, ys, e2, e3, e4⟩ := Vw.items (K := K) hv1 e1
    subst e2
    refine ⟨p, ys, rfl, e3, ?_⟩
    rw [e4.len]
    exact k (.fz _) _ H .refl (.int _) q
  · exact q.elim

/-! ### targets -/
theorem Rel.setFz {H0 : Fx} {B : Av} {σ : L2.St} {H : Hp} {ρ : DEnv} {i : Nat} {v : V} {d : PyData} (R : Rel H0 B σ H ρ) (h : Rp (Al B σ ρ) H v d) :
    Rel H0 B (σ.set i (some v)) H (ρ.set i (some (.fz d))) ∧ Stp σ ρ H (σ.set i (some v)) (ρ.set i (some (.fz d))) H := by
  have sub : ∀ q, Ow (σ.set i (some v)) (ρ.set i (some (.fz d))) q → Ow σ ρ q := fun q ⟨j, s, a, b, c⟩ => by
    by_cases hj : i = j
    · subst hj
      by_cases hl : i < ρ.length
      · rw [List.getElem?_set_self hl] at a
        cases a
        cases b
      · rw [List.getElem?_eq_none (by simp; omega)] at a
        cases a
    · rw [List.getElem?_set_ne hj] at a c
      exact ⟨j, s, a, b, c⟩
  have ps : Pass (Al B σ ρ) (Al B (σ.set i (some v)) (ρ.set i (some (.fz d)))) H H := ⟨fun a xs n e => ⟨fun q => n (q.elim .inl fun z => .inr (sub a z)), e⟩, fun _ _ e => e⟩
  have at_i : ∀ {s : Sl}, (ρ.set i (some (.fz d)))[i]? = some (some s) → s = .fz d ∧ i < σ.length := fun {s} a => by
    by_cases hl : i < ρ.length
    · rw [List.getElem?_set_self hl] at a
      cases a
      exact ⟨rfl, by rw [R.len]; exact hl⟩
    · rw [List.getElem?_eq_none (by simp; omega)] at a
      cases a
  refine ⟨⟨by simp [R.len], fun j d' a => ?_, fun j s a b => ?_, fun j d' q a b => ?_, fun j j' s t q a b a' b' c c' => ?_, R.dom, fun j d' a => ?_, R.bdom⟩, ⟨fun _ _ h _ => h, fun _ h => h, fun _ _ h => h, fun q z => .inl (sub q z)⟩⟩
  · by_cases hj : i = j
    · subst hj
      obtain ⟨e, hl⟩ := at_i a
      cases e
      exact ⟨v, by rw [List.getElem?_set_self hl], Rp.pass ps _ _ h⟩
    · rw [List.getElem?_set_ne hj] at a
      obtain ⟨v', c1, c2⟩ := R.fz j d' a
      exact ⟨v', by rw [List.getElem?_set_ne hj]; exact c1, Rp.pass ps _ _ c2⟩
  · by_cases hj : i = j
    · subst hj
      obtain ⟨e, hl⟩ := at_i a
      subst e
      cases b
    · rw [List.getElem?_set_ne hj] at a
      obtain ⟨q, c1, c2⟩ := R.own j s a b
      exact ⟨q, by rw [List.getElem?_set_ne hj]; exact c1, c2.pass ps rfl⟩
  · by_cases hj : i = j
    · subst hj
      obtain ⟨e, hl⟩ := at_i a
      cases e
    · rw [List.getElem?_set_ne hj] at a b
      exact R.mine j d' q a b
  · by_cases hj : i = j
    · subst hj
      obtain ⟨e, hl⟩ := at_i a
      subst e
      cases b
    · by_cases hj' : i = j'
      · subst hj'
        obtain ⟨e, hl⟩ := at_i a'
        subst e
        cases b'
      · rw [List.getElem?_set_ne hj] at a c
        rw [List.getElem?_set_ne hj'] at a' c'
        exact R.ne j j' s t q a b a' b' c c'
  · by_cases hj : i = j
    · subst hj
      obtain ⟨e, hl⟩ := at_i a
      cases e
    · rw [List.getElem?_set_ne hj] at a ⊢
      exact R.ioa j d' a
def dgName (i : Nat) : DG := fun d ρ Q => Q (ρ.set i (some (.fz d)))
theorem simG_name {i : Nat} : SimG (gName i) (dgName i) := fun H0 B σ H ρ v d Q QD R h q k =>
  have ⟨R', S'⟩ := R.setFz (i := i) h
  k _ H _ R' S' Keep.set q
def dgNil : DGs := fun ds ρ Q => ds = [] ∧ Q ρ
def dgCons (g : DG) (gs : DGs) : DGs := fun ds ρ Q => match ds with
  | d :: ds => g d ρ fun ρ1 => gs ds ρ1 Q
  | [] => False
def dgTup (n : Nat) (gs : DGs) : DG := fun d ρ Q => match d with
  | .tuple ds => ds.length = n ∧ gs ds ρ Q
  | _ => False
theorem simGs_nil : SimGs gNil dgNil := fun H0 B σ H ρ vs ds Q QD R h q k => by
  obtain ⟨e, q⟩ := q
  subst e
  cases h
  exact ⟨rfl, k σ H ρ R .refl .refl q⟩
theorem simGs_cons {tg : TG} {tgs : TGs} {g : DG} {gs : DGs} (h1 : SimG tg g) (h2 : SimGs tgs gs) : SimGs (gCons tg tgs) (dgCons g gs) := fun H0 B σ H ρ vs ds Q QD R h q k => by
  unfold dgCons at q
  split at q
  · cases h with
    | cons r rr =>
      refine ⟨_, _, rfl, h1 H0 B σ H ρ _ _ _ _ R r q fun σ1 H1 ρ1 R1 S1 K1 q1 => ?_⟩
      exact h2 H0 B σ1 H1 ρ1 _ _ _ _ R1 (RpAll.pass (S1.pass fun _ z => .inl z) _ _ rr) q1 fun σ2 H2 ρ2 R2 S2 K2 q2 => k σ2 H2 ρ2 R2 (S1.trans S2) (K1.trans K2) q2
  · exact q.elim
theorem simG_tup {K : PySem.W.Frag} {n : Nat} {tgs : TGs} {gs : DGs} (h2 : SimGs tgs gs) : SimG (gTup K n tgs) (dgTup n gs) := fun H0 B σ H ρ v d Q QD R h q k => by
  unfold dgTup at q
  split at q
  · cases h with
    | tup e r => exact ⟨_, _, rfl, SqT.of e, r.len.trans q.1, h2 H0 B σ H ρ _ _ _ _ R r q.2 k⟩
  · exact q.elim

/-! ### statements -/
theorem EndsOk.step {H0 : Fx} {B : Av} {σ σ1 : L2.St} {H H1 : Hp} {ρ ρ1 : DEnv} {D : Ends} {DD : DEnds} (E : EndsOk H0 B σ H ρ D DD) (S : Stp σ ρ H σ1 ρ1 H1) : EndsOk H0 B σ1 H1 ρ1 D DD :=
  ⟨fun σ' H' ρ' R' S' q => E.nx σ' H' ρ' R' (S.trans S') q, fun σ' H' ρ' R' S' q => E.bk σ' H' ρ' R' (S.trans S') q, fun σ' H' ρ' R' S' q => E.ct σ' H' ρ' R' (S.trans S') q, fun r ρ' v σ' H' R' S' o q => E.rt r ρ' v σ' H' R' (S.trans S') o q⟩
def dNext : DS := fun DD ρ => DD.nx ρ
def dSeq (a b : DS) : DS := fun DD ρ => a { DD with nx := b DD } ρ
theorem simS_next : SimS tNext dNext := fun H0 B σ H ρ D DD R q E => E.nx σ H ρ R .refl q
theorem simS_seq {t u : TS} {a b : DS} (ha : SimS t a) (hb : SimS u b) : SimS (tSeq t u) (dSeq a b) := fun H0 B σ H ρ D DD R q E =>
  ha H0 B σ H ρ _ _ R q ⟨fun σ' H' ρ' R' S' q' => hb H0 B σ' H' ρ' D DD R' q' (E.step S'), E.bk, E.ct, E.rt⟩
def dBreak : DS := fun DD ρ => DD.bk ρ
def dCont : DS := fun DD ρ => DD.ct ρ
theorem simS_break : SimS tBreak dBreak := fun H0 B σ H ρ D DD R q E => E.bk σ H ρ R .refl q
theorem simS_cont : SimS tCont dCont := fun H0 B σ H ρ D DD R q E => E.ct σ H ρ R .refl q
def dRet (de : DE) : DS := fun DD ρ => de ρ DD.rt
theorem simS_ret {te : TE} {de : DE} (h : SimE te de) : SimS (tRet te) (dRet de) := fun H0 B σ H ρ D DD R q E =>
  h H0 B σ H ρ _ _ R q fun r ρ1 v H1 R1 S1 K1 o1 q1 => E.rt r ρ1 v σ H1 R1 S1 (o1.back R.dom) q1
def dDrop (de : DE) : DS := fun DD ρ => de ρ fun _ ρ1 => DD.nx ρ1
theorem simS_drop {te : TE} {de : DE} (h : SimE te de) : SimS (tDrop te) (dDrop de) := fun H0 B σ H ρ D DD R q E =>
  h H0 B σ H ρ _ _ R q fun r ρ1 v H1 R1 S1 K1 o1 q1 => E.nx σ H1 ρ1 R1 S1 q1
def dIfS (t : DT) (a b : DS) : DS := fun DD ρ => t ρ fun c ρ1 => if c = true then a DD ρ1 else b DD ρ1
theorem simS_if {t : TT} {u v : TS} {dt : DT} {a b : DS} (ht : SimT t dt) (ha : SimS u a) (hb : SimS v b) : SimS (tIfS t u v) (dIfS dt a b) := fun H0 B σ H ρ D DD R q E =>
  ht H0 B σ H ρ _ _ R q fun c ρ1 H1 R1 S1 K1 q1 => by
    cases c with
    | true => exact ha H0 B σ H1 ρ1 D DD R1 q1 (E.step S1)
    | false => exact hb H0 B σ H1 ρ1 D DD R1 q1 (E.step S1)
/-- target = e, the value may be stored anywhere -/
def dAsg (de : DE) (g : DG) : DS := fun DD ρ => de ρ fun r ρ1 => ∃ d, r.sto = some d ∧ g d ρ1 DD.nx
theorem simS_asg {te : TE} {tg : TG} {de : DE} {g : DG} (h : SimE te de) (hg : SimG tg g) : SimS (tAsg te tg) (dAsg de g) := fun H0 B σ H ρ D DD R q E =>
  h H0 B σ H ρ _ _ R q fun r ρ1 v H1 R1 S1 K1 o1 q1 => by
    obtain ⟨d, e, q1⟩ := q1
    exact hg H0 B σ H1 ρ1 v d _ _ R1 (o1.cv.sto e) q1 fun σ2 H2 ρ2 R2 S2 _ q2 => E.nx σ2 H2 ρ2 R2 (S1.trans S2) q2
/-- x = a new list, a new dict, one's own -/
theorem Rel.setOw {H0 : Fx} {B : Av} {σ : L2.St} {H : Hp} {ρ : DEnv} {i : Nat} {p : Addr} {d : PyData} (R : Rel H0 (bor B p) σ H ρ) (h0 : H0.h p = none) (nb : ¬ B p) (no : ¬ Ow σ ρ p) (ho : Hold (Al (bor B p) σ ρ) H p d) (hi : i < ρ.length) :
    Rel H0 B (σ.set i (some (.ref p))) H (ρ.set i (some (.ow d))) ∧ ∀ q, Ow (σ.set i (some (.ref p))) (ρ.set i (some (.ow d))) q → Ow σ ρ q ∨ q = p := by
  have hiσ : i < σ.length := by rw [R.len]; exact hi
  have sub : ∀ q, Ow (σ.set i (some (.ref p))) (ρ.set i (some (.ow d))) q → Ow σ ρ q ∨ q = p := fun q ⟨j, s, a, b, c⟩ => by
    by_cases hj : i = j
    · subst hj
      rw [List.getElem?_set_self hiσ] at c
      cases c
      exact .inr rfl
    · rw [List.getElem?_set_ne hj] at a c
      exact .inl ⟨j, s, a, b, c⟩
  have ps : Pass (Al (bor B p) σ ρ) (Al B (σ.set i (some (.ref p))) (ρ.set i (some (.ow d)))) H H := ⟨fun a xs n e => ⟨fun q => n (by
    rcases q with q | q
    · exact .inl (.inl q)
    · rcases sub a q with z | z
      · exact .inr z
      · exact .inl (.inr z)), e⟩, fun _ _ e => e⟩
  have own' : ∀ (j : Nat) (s : Sl) (q : Addr), i ≠ j → ρ[j]? = some (some s) → s.own = true → σ[j]? = some (some (V.ref q)) → q ≠ p := fun j s q hj a b c z => by
    subst z
    exact no ⟨j, s, a, b, c⟩
  refine ⟨⟨by simp [R.len], fun j d' a => ?_, fun j s a b => ?_, fun j d' q a b => ?_, fun j j' s t q a b a' b' c c' => ?_, R.dom, fun j d' a => ?_, fun b h => R.bdom b (.inl h)⟩, sub⟩
  · by_cases hj : i = j
    · subst hj
      rw [List.getElem?_set_self hi] at a
      cases a
    · rw [List.getElem?_set_ne hj] at a
      obtain ⟨v', c1, c2⟩ := R.fz j d' a
      exact ⟨v', by rw [List.getElem?_set_ne hj]; exact c1, Rp.pass ps _ _ c2⟩
  · by_cases hj : i = j
    · subst hj
      rw [List.getElem?_set_self hi] at a
      cases a
      exact ⟨p, by rw [List.getElem?_set_self hiσ], ho.pass ps rfl⟩
    · rw [List.getElem?_set_ne hj] at a
      obtain ⟨q, c1, c2⟩ := R.own j s a b
      exact ⟨q, by rw [List.getElem?_set_ne hj]; exact c1, c2.pass ps rfl⟩
  · by_cases hj : i = j
    · subst hj
      rw [List.getElem?_set_self hiσ] at b
      cases b
      exact ⟨h0, nb⟩
    · rw [List.getElem?_set_ne hj] at a b
      have := R.mine j d' q a b
      exact ⟨this.1, fun z => this.2 (.inl z)⟩
  · by_cases hj : i = j
    · by_cases hj' : i = j'
      · exact hj.symm.trans hj'
      · subst hj
        rw [List.getElem?_set_self hiσ] at c
        cases c
        rw [List.getElem?_set_ne hj'] at a' c'
        exact (own' j' t _ hj' a' b' c' rfl).elim
    · by_cases hj' : i = j'
      · subst hj'
        rw [List.getElem?_set_self hiσ] at c'
        cases c'
        rw [List.getElem?_set_ne hj] at a c
        exact (own' j s _ hj a b c rfl).elim
      · rw [List.getElem?_set_ne hj] at a c
        rw [List.getElem?_set_ne hj'] at a' c'
        exact R.ne j j' s t q a b a' b' c c'
  · by_cases hj : i = j
    · subst hj
      rw [List.getElem?_set_self hi] at a
      cases a
    · rw [List.getElem?_set_ne hj] at a ⊢
      exact R.ioa j d' a
def dAsgO (de : DE) (i : Nat) : DS := fun DD ρ => de ρ fun r ρ1 => match r with
  | .nw d => i < ρ1.length ∧ DD.nx (ρ1.set i (some (.ow d)))
  | _ => False
theorem simS_asgO {te : TE} {de : DE} {i : Nat} (h : SimE te de) : SimS (tAsg te (gName i)) (dAsgO de i) := fun H0 B σ H ρ D DD R q E =>
  h H0 B σ H ρ _ _ R q fun r ρ1 v H1 R1 S1 K1 o1 q1 => by
    cases r with
    | fz d => exact q1.elim
    | br j => exact q1.elim
    | np _ _ => exact q1.elim
    | nw d =>
      obtain ⟨p, e, hs, nb, no, ho, Rp'⟩ := o1
      subst e
      obtain ⟨R2, sub⟩ := Rp'.setOw (R.dom p hs) nb no ho q1.1
      refine E.nx _ H1 _ R2 ⟨S1.keep, S1.dom, S1.tup, fun q z => ?_⟩ q1.2
      rcases sub q z with z | z
      · exact S1.own q z
      · exact .inr (by rw [z]; exact hs)
end Dl
set_option Elab.async false
set_option linter.all false
set_option maxRecDepth 100000
set_option maxHeartbeats 4000000
/-! The data layer, part 4: what is changed in place, loops, comprehensions. -/
namespace Dl
open PySem L2

/-! ### an own list, dict written -/
/-- slot i's object is replaced by o, holding d' -/
theorem Rel.write {H0 : Fx} {B : Av} {σ : L2.St} {H : Hp} {ρ : DEnv} {i : Nat} {s : Sl} {p : Addr} {o : HO} {d' : PyData} (R : Rel H0 B σ H ρ) (e : ρ[i]? = some (some s)) (hs : s.own = true) (hp : σ[i]? = some (some (V.ref p)))
    (ho : Hold (Al B σ ρ) (upd H p o) p d') : Rel H0 B σ (upd H p o) (ρ.set i (some (s.with d'))) ∧ Stp σ ρ H σ (ρ.set i (some (s.with d'))) (upd H p o) := by
  have hO : Ow σ ρ p := ⟨i, s, e, hs, hp⟩
  have hw : (s.with d').own = true := by cases s <;> first | rfl | cases hs
  have hd : (s.with d').dat = d' := by cases s <;> rfl
  have hi : i < ρ.length := (List.getElem?_eq_some_iff.mp e).1
  obtain ⟨o0, eo0, nt⟩ : ∃ o, H p = some o ∧ ∀ xs, o ≠ .tup xs := by
    obtain ⟨p', c1, c2⟩ := R.own i s e hs
    rw [hp] at c1
    cases c1
    exact c2.some
  have ow : ∀ q, Ow σ (ρ.set i (some (s.with d'))) q ↔ Ow σ ρ q := fun q => by
    constructor
    · rintro ⟨j, t, a, b, c⟩
      by_cases hj : i = j
      · subst hj
        rw [hp] at c
        cases c
        exact hO
      · rw [List.getElem?_set_ne hj] at a
        exact ⟨j, t, a, b, c⟩
    · rintro ⟨j, t, a, b, c⟩
      by_cases hj : i = j
      · subst hj
        exact ⟨i, _, List.getElem?_set_self hi, hw, c⟩
      · exact ⟨j, t, by rw [List.getElem?_set_ne hj]; exact a, b, c⟩
  have al : ∀ q, Al B σ (ρ.set i (some (s.with d'))) q ↔ Al B σ ρ q := fun q => or_congr Iff.rfl (ow q)
  have ps : Pass (Al B σ ρ) (Al B σ (ρ.set i (some (s.with d')))) H (upd H p o) := ⟨fun a xs n e => by
    have ne : a ≠ p := fun z => n (by rw [z]; exact .inr hO)
    exact ⟨fun q => n ((al a).mp q), by rw [upd_ne ne]; exact e⟩, fun a xs e => by
    have ne : a ≠ p := fun z => by
      rw [z, eo0] at e
      cases e
      exact nt xs rfl
    rw [upd_ne ne]
    exact e⟩
  have ps2 : Pass (Al B σ ρ) (Al B σ (ρ.set i (some (s.with d')))) (upd H p o) (upd H p o) := ⟨fun a xs n e => ⟨fun q => n ((al a).mp q), e⟩, fun _ _ e => e⟩
  refine ⟨⟨by simp [R.len], fun j d a => ?_, fun j t a b => ?_, fun j d q a b => ?_, fun j j' t u q a b a' b' c c' => ?_, fun b h => ?_, fun j d a => ?_, fun b h => ?_⟩, ⟨fun b u h n => ?_, fun b h => ?_, fun b xs h => ps.t b xs h, fun q z => .inl ((ow q).mp z)⟩⟩
  · by_cases hj : i = j
    · subst hj
      rw [List.getElem?_set_self hi] at a
      have a' : s.with d' = .fz d := by simpa using a
      rw [a'] at hw
      cases hw
    · rw [List.getElem?_set_ne hj] at a
      obtain ⟨v, c1, c2⟩ := R.fz j d a
      exact ⟨v, c1, Rp.pass ps _ _ c2⟩
  · by_cases hj : i = j
    · subst hj
      rw [List.getElem?_set_self hi] at a
      have a' : s.with d' = t := by simpa using a
      subst a'
      rw [hd]
      exact ⟨p, hp, ho.pass ps2 rfl⟩
    · rw [List.getElem?_set_ne hj] at a
      obtain ⟨q, c1, c2⟩ := R.own j t a b
      have ne : q ≠ p := fun z => by
        subst z
        exact hj (R.ne i j s t q e hs a b hp c1)
      exact ⟨q, c1, c2.pass ps (upd_ne ne)⟩
  · by_cases hj : i = j
    · subst hj
      rw [List.getElem?_set_self hi] at a
      have a' : s.with d' = .ow d := by simpa using a
      cases s with
      | ow d0 => exact R.mine i d0 q e b
      | fz d0 => cases a'
      | io d0 => cases a'
    · rw [List.getElem?_set_ne hj] at a
      exact R.mine j d q a b
  · have back : ∀ (j : Nat) (t : Sl), (ρ.set i (some (s.with d')))[j]? = some (some t) → t.own = true → ∃ t', ρ[j]? = some (some t') ∧ t'.own = true := fun j t a b => by
      by_cases hj : i = j
      · subst hj
        exact ⟨s, e, hs⟩
      · rw [List.getElem?_set_ne hj] at a
        exact ⟨t, a, b⟩
    obtain ⟨t', x1, x2⟩ := back j t a b
    obtain ⟨u', y1, y2⟩ := back j' u a' b'
    exact R.ne j j' t' u' q x1 x2 y1 y2 c c'
  · by_cases hb : b = p
    · subst hb
      rw [upd_same] at h
      cases h
    · rw [upd_ne hb] at h
      exact R.dom b h
  · by_cases hj : i = j
    · subst hj
      rw [List.getElem?_set_self hi] at a
      have a' : s.with d' = .io d := by simpa using a
      cases s with
      | io d0 => exact R.ioa i d0 e
      | fz d0 => cases a'
      | ow d0 => cases a'
    · rw [List.getElem?_set_ne hj] at a
      exact R.ioa j d a
  · by_cases hb : b = p
    · subst hb
      rw [upd_same]
      exact fun z => nomatch z
    · rw [upd_ne hb]
      exact R.bdom b h
  · have ne : b ≠ p := fun z => n (by rw [z]; exact hO)
    rw [upd_ne ne]
    exact h
  · by_cases hb : b = p
    · subst hb
      rw [upd_same] at h
      cases h
    · rw [upd_ne hb] at h
      exact h
/-- an address to be avoided is written (a comprehension's list) -/
theorem Rel.writeB {H0 : Fx} {B : Av} {σ : L2.St} {H : Hp} {ρ : DEnv} {p : Addr} {xs ys : List V} (R : Rel H0 B σ H ρ) (hb : B p) (no : ¬ Ow σ ρ p) (e0 : H p = some (.lst xs)) : Rel H0 B σ (upd H p (.lst ys)) ρ := by
  have ps : Pass (Al B σ ρ) (Al B σ ρ) H (upd H p (.lst ys)) := ⟨fun a zs n e => by
    have ne : a ≠ p := fun z => n (by rw [z]; exact .inl hb)
    exact ⟨n, by rw [upd_ne ne]; exact e⟩, fun a zs e => by
    have ne : a ≠ p := fun z => by
      rw [z, e0] at e
      cases e
    rw [upd_ne ne]
    exact e⟩
  refine ⟨R.len, fun i d a => let ⟨v, c1, c2⟩ := R.fz i d a; ⟨v, c1, Rp.pass ps _ _ c2⟩, fun i s a b => ?_, R.mine, R.ne, fun b h => ?_, R.ioa, fun b h => ?_⟩
  · obtain ⟨q, c1, c2⟩ := R.own i s a b
    have ne : q ≠ p := fun z => no ⟨i, s, a, b, by rw [← z]; exact c1⟩
    exact ⟨q, c1, c2.pass ps (upd_ne ne)⟩
  · by_cases hb : b = p
    · subst hb
      rw [upd_same] at h
      cases h
    · rw [upd_ne hb] at h
      exact R.dom b h
  · by_cases hb : b = p
    · subst hb
      rw [upd_same]
      exact fun z => nomatch z
    · rw [upd_ne hb]
      exact R.bdom b h

/-- x.append(e), x in slot i -/
def dApp (i : Nat) (de : DE) : DS := fun DD ρ => de ρ fun r ρ1 => ∃ d, r.sto = some d ∧ match ρ1[i]? with
  | some (some s) => match s.dat with
    | .list ds => s.own = true ∧ ds.length < 100000 ∧ DD.nx (ρ1.set i (some (s.with (.list (ds ++ [d])))))
    | _ => False
  | _ => False
/-- a slot that holds an own list, ahead of an expression -/
theorem simS_app {K : PySem.W.Frag} {i : Nat} {te : TE} {de : DE} (h : SimE te de) : SimS (tDrop (tBM K "list" rAppend (tVar i) (tCons te tNil)))
    (fun DD ρ => (∃ s ds, ρ[i]? = some (some s) ∧ s.own = true ∧ s.dat = .list ds) ∧ dApp i de DD ρ) := fun H0 B σ H ρ D DD R q E => by
  obtain ⟨⟨s, ds, e1, e2, e3⟩, q⟩ := q
  obtain ⟨p, h1, h2⟩ := R.own i s e1 e2
  rw [e3] at h2
  obtain ⟨xs, h3, _⟩ := h2
  refine ⟨_, h1, .inl ⟨rfl, _, SqL.of h3⟩, ?_⟩
  refine h H0 B σ H ρ _ _ R q fun r ρ1 v H1 R1 S1 K1 o1 q1 => ?_
  obtain ⟨d, hd, q1⟩ := q1
  split at q1
  · rename_i s1 es1
    split at q1
    · rename_i ds1 ed1
      obtain ⟨hs1, hl, q1⟩ := q1
      obtain ⟨p1, c1, c2⟩ := R1.own i s1 es1 hs1
      rw [h1] at c1
      cases c1
      rw [ed1] at c2
      obtain ⟨ys, c3, c4⟩ := c2
      have rp := o1.cv.sto hd
      refine ⟨p, ys, v, rfl, rfl, c3, sz5' (by rw [c4.len]; exact hl), ?_⟩
      have ps : Pass (Al B σ ρ1) (Al B σ ρ1) H1 (upd H1 p (.lst (ys ++ [v]))) := ⟨fun a zs n e => by
        have ne : a ≠ p := fun z => n (by rw [z]; exact .inr ⟨i, s1, es1, hs1, h1⟩)
        exact ⟨n, by rw [upd_ne ne]; exact e⟩, fun a zs e => by
        have ne : a ≠ p := fun z => by
          rw [z, c3] at e
          cases e
        rw [upd_ne ne]
        exact e⟩
      obtain ⟨R2, S2⟩ := R1.write (o := .lst (ys ++ [v])) (d' := .list (ds1 ++ [d])) es1 hs1 h1 ⟨_, upd_same, (RpAll.pass ps _ _ c4).app (.cons (Rp.pass ps _ _ rp) .nil)⟩
      exact E.nx σ _ _ R2 (S1.trans S2) q1
    · exact q1.elim
  · exact q1.elim
/-- x[k] = e, x in slot i (a list) -/
def dSet (i : Nat) (de dk : DE) : DS := fun DD ρ => de ρ fun r ρ1 => ∃ d, r.sto = some d ∧ dk ρ1 fun rk ρ2 => match rk.dat ρ2, ρ2[i]? with
  | .int k, some (some s) => match s.dat with
    | .list ds => s.own = true ∧ ∃ j, ixN ds.length k = some j ∧ DD.nx (ρ2.set i (some (s.with (.list (ds.set j d)))))
    | _ => False
  | _, _ => False
theorem simS_set {i : Nat} {te tk : TE} {de dk : DE} (h : SimE te de) (hk : SimE tk dk) : SimS (tAsg te (gSub (tVar i) tk rSetL))
    (fun DD ρ => (∃ s, ρ[i]? = some (some s) ∧ s.own = true) ∧ dSet i de dk DD ρ) := fun H0 B σ H ρ D DD R q E => by
  obtain ⟨⟨s, e1, e2⟩, q⟩ := q
  obtain ⟨p, h1, h2⟩ := R.own i s e1 e2
  refine h H0 B σ H ρ _ _ R q fun r ρ1 v H1 R1 S1 K1 o1 q1 => ?_
  obtain ⟨d, hd, q1⟩ := q1
  refine ⟨_, h1, ?_⟩
  refine hk H0 B σ H1 ρ1 _ _ R1 q1 fun rk ρ2 vk H2 R2 S2 K2 o2 q2 => ?_
  have vw := o2.cv.vw R2
  have rp := (o1.cv.step S2 K2).sto hd
  split at q2
  · rename_i k' s1 ek es1
    rw [ek] at vw
    cases vw.int
    split at q2
    · rename_i ds1 ed1
      obtain ⟨hs1, j, hj, q2⟩ := q2
      obtain ⟨p1, c1, c2⟩ := R2.own i s1 es1 hs1
      rw [h1] at c1
      cases c1
      rw [ed1] at c2
      obtain ⟨ys, c3, c4⟩ := c2
      refine ⟨p, ys, k', j, rfl, rfl, c3, by rw [c4.len]; exact hj, ?_⟩
      have ps : Pass (Al B σ ρ2) (Al B σ ρ2) H2 (upd H2 p (.lst (ys.set j v))) := ⟨fun a zs n e => by
        have ne : a ≠ p := fun z => n (by rw [z]; exact .inr ⟨i, s1, es1, hs1, h1⟩)
        exact ⟨n, by rw [upd_ne ne]; exact e⟩, fun a zs e => by
        have ne : a ≠ p := fun z => by
          rw [z, c3] at e
          cases e
        rw [upd_ne ne]
        exact e⟩
      obtain ⟨R3, S3⟩ := R2.write (o := .lst (ys.set j v)) (d' := .list (ds1.set j d)) es1 hs1 h1 ⟨_, upd_same, RpAll.set (Rp.pass ps _ _ rp) j (RpAll.pass ps _ _ c4)⟩
      exact E.nx σ _ _ R3 ((S1.trans S2).trans S3) q2
    · exact q2.elim
  · exact q2.elim
/-- x op= e, ints -/
def dAug (i : Nat) (f : Int → Int → Int) (de : DE) : DS := fun DD ρ => match ρ[i]? with
  | some (some (.fz (.int a))) => de ρ fun r ρ1 => match r.dat ρ1 with
    | .int b => DD.nx (ρ1.set i (some (.fz (.int (f a b)))))
    | _ => False
  | _ => False
theorem simS_aug {i : Nat} {f : Int → Int → Int} {te : TE} {de : DE} (h : SimE te de) : SimS (tAug i te (L2.ipI f)) (dAug i f de) := fun H0 B σ H ρ D DD R q E => by
  unfold dAug at q
  split at q
  · rename_i a e
    obtain ⟨v, h1, h2⟩ := R.fz i _ e
    cases h2
    refine ⟨_, h1, h H0 B σ H ρ _ _ R q fun r ρ1 v H1 R1 S1 K1 o1 q1 => ?_⟩
    have vw := o1.cv.vw R1
    split at q1
    · rename_i b eb
      rw [eb] at vw
      cases vw.int
      obtain ⟨R2, S2⟩ := R1.setFz (i := i) (v := .int (f a b)) (d := .int (f a b)) (.int _)
      exact ⟨a, b, rfl, rfl, E.nx _ _ _ R2 (S1.trans S2) q1⟩
    · exact q1.elim
  · exact q.elim

/-! ### several names at once -/
/-- the reading does not look at slot i -/
def Ind (te : TE) (i : Nat) : Prop := ∀ (σ : L2.St) (x : Option V), te (σ.set i x) = te σ
def IndA (ta : TA) (i : Nat) : Prop := ∀ (σ : L2.St) (x : Option V), ta (σ.set i x) = ta σ
theorem ind_var {i j : Nat} (h : i ≠ j) : Ind (tVar j) i := fun σ x => by
  funext H Q
  unfold tVar
  rw [List.getElem?_set_ne h]
theorem ind_c {v : V} {i : Nat} : Ind (tC v) i := fun _ _ => rfl
theorem ind_op {r : R2} {ta tb : TE} {i : Nat} (ha : Ind ta i) (hb : Ind tb i) : Ind (tOp r ta tb) i := fun σ x => by
  funext H Q
  simp only [tOp, ha σ x, hb σ x]
theorem ind_lst {ta : TA} {i : Nat} (h : IndA ta i) : Ind (tLst ta) i := fun σ x => by
  funext H Q
  simp only [tLst, h σ x]
theorem ind_tup {ta : TA} {i : Nat} (h : IndA ta i) : Ind (tTup ta) i := fun σ x => by
  funext H Q
  simp only [tTup, h σ x]
theorem ind_nil {i : Nat} : IndA tNil i := fun _ _ => rfl
theorem ind_cons {te : TE} {ta : TA} {i : Nat} (h : Ind te i) (h' : IndA ta i) : IndA (tCons te ta) i := fun σ x => by
  funext H Q
  simp only [tCons, h σ x, h' σ x]
theorem ind_cb {r : List V → Hp → VK → Prop} {ta : TA} {i : Nat} (h : IndA ta i) : Ind (tCB r ta) i := fun σ x => by
  funext H Q
  simp only [tCB, h σ x]
theorem ind_call {sp : Sp} {dvs : List V} {E : XK} {ta : TA} {i : Nat} (h : IndA ta i) : Ind (tCall sp dvs E ta) i := fun σ x => by
  funext H Q
  simp only [tCall, h σ x]
theorem simS_par {i j : Nat} {t1 t2 : TE} {d : DS} (h : SimS (tSeq (tAsg t1 (gName i)) (tAsg t2 (gName j))) d) (hi : Ind t2 i) : SimS (tPar i j (tCons t1 (tCons t2 tNil))) d := fun H0 B σ H ρ D DD R q E => by
  have z := h H0 B σ H ρ D DD R q E
  have e : tPar i j (tCons t1 (tCons t2 tNil)) D σ H = t1 σ H fun x H1 => t2 σ H1 fun y H2 => ∃ v w, [x, y] = [v, w] ∧ D.nx ((σ.set i (some v)).set j (some w)) H2 := rfl
  have e2 : tSeq (tAsg t1 (gName i)) (tAsg t2 (gName j)) D σ H = t1 σ H fun x H1 => t2 (σ.set i (some x)) H1 fun y H2 => D.nx ((σ.set i (some x)).set j (some y)) H2 := rfl
  rw [e2] at z
  rw [e]
  have e3 : (fun x H1 => t2 (σ.set i (some x)) H1 fun y H2 => D.nx ((σ.set i (some x)).set j (some y)) H2) = fun x H1 => t2 σ H1 fun y H2 => ∃ v w, [x, y] = [v, w] ∧ D.nx ((σ.set i (some v)).set j (some w)) H2 := by
    funext x H1
    rw [hi]
    congr 1
    funext y H2
    apply propext
    constructor
    · intro z
      exact ⟨x, y, rfl, z⟩
    · rintro ⟨v, w, e, z⟩
      cases e
      exact z
  rw [← e3]
  exact z
theorem simS_par3 {i j l : Nat} {t1 t2 t3 : TE} {d : DS} (h : SimS (tSeq (tAsg t1 (gName i)) (tSeq (tAsg t2 (gName j)) (tAsg t3 (gName l)))) d) (hi : Ind t2 i) (hi' : Ind t3 i) (hj : Ind t3 j) : SimS (tPar3 i j l (tCons t1 (tCons t2 (tCons t3 tNil)))) d := fun H0 B σ H ρ D DD R q E => by
  have z := h H0 B σ H ρ D DD R q E
  have e : tPar3 i j l (tCons t1 (tCons t2 (tCons t3 tNil))) D σ H = t1 σ H fun x H1 => t2 σ H1 fun y H2 => t3 σ H2 fun y3 H3 => ∃ u v w, [x, y, y3] = [u, v, w] ∧ D.nx (((σ.set i (some u)).set j (some v)).set l (some w)) H3 := rfl
  have e2 : tSeq (tAsg t1 (gName i)) (tSeq (tAsg t2 (gName j)) (tAsg t3 (gName l))) D σ H = t1 σ H fun x H1 => t2 (σ.set i (some x)) H1 fun y H2 => t3 ((σ.set i (some x)).set j (some y)) H2 fun y3 H3 => D.nx (((σ.set i (some x)).set j (some y)).set l (some y3)) H3 := rfl
  rw [e2] at z
  rw [e]
  have e3 : (fun x H1 => t2 (σ.set i (some x)) H1 fun y H2 => t3 ((σ.set i (some x)).set j (some y)) H2 fun y3 H3 => D.nx (((σ.set i (some x)).set j (some y)).set l (some y3)) H3) = fun x H1 => t2 σ H1 fun y H2 => t3 σ H2 fun y3 H3 => ∃ u v w, [x, y, y3] = [u, v, w] ∧ D.nx (((σ.set i (some u)).set j (some v)).set l (some w)) H3 := by
    funext x H1
    rw [hi]
    congr 1
    funext y H2
    rw [hj, hi']
    congr 1
    funext y3 H3
    apply propext
    constructor
    · intro z
      exact ⟨x, y, y3, rfl, z⟩
    · rintro ⟨u, v, w, e, z⟩
      cases e
      exact z
  rw [← e3]
  exact z

/-! ### what is walked -/
structure WalkD (σ : L2.St) (ρ : DEnv) (A0 : Av) (H' : Hp) (J : It) (items : List PyData) : Prop where
  goes : ∀ i H, (∀ b o, H' b = some o → ¬ Ow σ ρ b → H b = some o) → (∀ b xs, H' b = some (.tup xs) → H b = some (.tup xs)) → i < items.length → J.go i H
  stops : ∀ H, (∀ b o, H' b = some o → ¬ Ow σ ρ b → H b = some o) → (∀ b xs, H' b = some (.tup xs) → H b = some (.tup xs)) → J.stop items.length H
  yields : ∀ i H A x Hx, Pass A0 A H' H → (∀ b o, H' b = some o → ¬ Ow σ ρ b → H b = some o) → i < items.length → J.yld i H x Hx → Grow H Hx ∧ ∃ d, items[i]? = some d ∧ Rp A Hx x d
abbrev DI := DEnv → (List PyData → DEnv → Prop) → Prop
def SimI (wi : TI) (di : DI) : Prop := ∀ (H0 : Fx) (B : Av) (σ : L2.St) (H : Hp) (ρ : DEnv) (R : It → Hp → Prop) (QD : List PyData → DEnv → Prop), Rel H0 B σ H ρ → di ρ QD →
  (∀ J items ρ' H', Rel H0 B σ H' ρ' → Stp σ ρ H σ ρ' H' → Keep ρ ρ' → WalkD σ ρ' (Al B σ ρ') H' J items → QD items ρ' → R J H') → wi σ H R
def dList (de : DE) : DI := fun ρ Q => de ρ fun r ρ1 => ∃ ds, r.sto = some (.list ds) ∧ Q ds ρ1
def dTupI (de : DE) : DI := fun ρ Q => de ρ fun r ρ1 => ∃ ds, r.sto = some (.tuple ds) ∧ Q ds ρ1
theorem simI_list {K : PySem.W.Frag} {te : TE} {de : DE} (h : SimE te de) : SimI (iList K te) (dList de) := fun H0 B σ H ρ R QD Rl q k =>
  h H0 B σ H ρ _ _ Rl q fun r ρ1 v H1 R1 S1 K1 o1 q1 => by
    obtain ⟨ds, e, q1⟩ := q1
    have rp := o1.cv.sto e
    cases rp with
    | @lst a xs _ na ea ra =>
      refine ⟨a, rfl, ⟨xs, SqL.of ea⟩, k (Itl K a) ds ρ1 H1 R1 S1 K1 ⟨fun i H' kp kt hi => ?_, fun H' kp kt => ?_, fun i H' A x Hx ps kp hi y => ?_⟩ q1⟩
      · have hi' : i < xs.length := by rw [ra.len]; exact hi
        exact ⟨xs, xs[i], SqL.of (kp a _ ea fun z => na (.inr z)), by simp [hi']⟩
      · exact ⟨xs, SqL.of (kp a _ ea fun z => na (.inr z)), by rw [ra.len]; exact Nat.le_refl _⟩
      · obtain ⟨e1, e2⟩ := y
        subst e1
        obtain ⟨v, c1, c2⟩ := ra.get (i := i) (d := ds[i]) (by simp [hi])
        have e3 := e2 xs (SqL.of (kp a _ ea fun z => na (.inr z)))
        rw [c1] at e3
        cases e3
        exact ⟨.refl, ds[i], by simp [hi], Rp.pass ps _ _ c2⟩
theorem simI_tup {K : PySem.W.Frag} {te : TE} {de : DE} (h : SimE te de) : SimI (iTup K te) (dTupI de) := fun H0 B σ H ρ R QD Rl q k =>
  h H0 B σ H ρ _ _ Rl q fun r ρ1 v H1 R1 S1 K1 o1 q1 => by
    obtain ⟨ds, e, q1⟩ := q1
    have rp := o1.cv.sto e
    cases rp with
    | @tup a xs _ ea ra =>
      refine ⟨a, rfl, ⟨xs, SqT.of ea⟩, k (Itt K a) ds ρ1 H1 R1 S1 K1 ⟨fun i H' kp kt hi => ?_, fun H' kp kt => ?_, fun i H' A x Hx ps kp hi y => ?_⟩ q1⟩
      · have hi' : i < xs.length := by rw [ra.len]; exact hi
        exact ⟨xs, xs[i], SqT.of (kt a _ ea), by simp [hi']⟩
      · exact ⟨xs, SqT.of (kt a _ ea), by rw [ra.len]; exact Nat.le_refl _⟩
      · obtain ⟨e1, e2⟩ := y
        subst e1
        obtain ⟨v, c1, c2⟩ := ra.get (i := i) (d := ds[i]) (by simp [hi])
        have e3 := e2 xs (SqT.of (ps.t a _ ea))
        rw [c1] at e3
        cases e3
        exact ⟨.refl, ds[i], by simp [hi], Rp.pass ps _ _ c2⟩
/-- lo, lo + 1, .. : n of them -/
def rngD (lo : Int) (n : Nat) : List PyData := (List.range n).map fun (i : Nat) => PyData.int (lo + (i : Int))
theorem rngD_len (lo : Int) (n : Nat) : (rngD lo n).length = n := by simp [rngD]
theorem rngD_get {lo : Int} {n i : Nat} (h : i < n) : (rngD lo n)[i]? = some (.int (lo + i)) := by simp [rngD, h]
def dRng1 (da : DA) : DI := fun ρ Q => da ρ fun rs ρ1 => match rs.map (Rs.dat ρ1) with
  | [.int j] => -(2 ^ 62) ≤ j ∧ j < 2 ^ 62 ∧ Q (rngD 0 j.toNat) ρ1
  | _ => False
def dRng2 (da : DA) : DI := fun ρ Q => da ρ fun rs ρ1 => match rs.map (Rs.dat ρ1) with
  | [.int i, .int j] => (-(2 ^ 62) ≤ i ∧ i < 2 ^ 62 ∧ -(2 ^ 62) ≤ j ∧ j < 2 ^ 62) ∧ Q (rngD i (j - i).toNat) ρ1
  | _ => False
theorem walk_rng {σ : L2.St} {ρ : DEnv} {A0 : Av} {H' : Hp} {lo : Int} {n : Nat} : WalkD σ ρ A0 H' (Itr lo n) (rngD lo n) :=
  ⟨fun i H _ _ hi => by rw [rngD_len] at hi; exact hi, fun H _ _ => by rw [rngD_len]; exact Nat.le_refl _, fun i H A x Hx _ _ hi y => by
    rw [rngD_len] at hi
    obtain ⟨e1, e2⟩ := y
    subst e1 e2
    exact ⟨.refl, _, rngD_get hi, .int _⟩⟩
theorem simI_rng1 {ta : TA} {da : DA} (h : SimA ta da) : SimI (iRng1 ta) (dRng1 da) := fun H0 B σ H ρ R QD Rl q k =>
  h H0 B σ H ρ _ _ Rl q fun rs ρ1 vs H1 R1 S1 K1 o1 q1 => by
    have vw := o1.vw R1
    split at q1
    · rename_i j e
      rw [e] at vw
      obtain ⟨v, e1, hv⟩ := VwAll.one vw
      cases hv.int
      exact ⟨j, e1, q1.1, q1.2.1, k _ _ ρ1 H1 R1 S1 K1 walk_rng q1.2.2⟩
    · exact q1.elim
theorem simI_rng2 {ta : TA} {da : DA} (h : SimA ta da) : SimI (iRng2 ta) (dRng2 da) := fun H0 B σ H ρ R QD Rl q k =>
  h H0 B σ H ρ _ _ Rl q fun rs ρ1 vs H1 R1 S1 K1 o1 q1 => by
    have vw := o1.vw R1
    split at q1
    · rename_i i j e
      rw [e] at vw
      obtain ⟨v, w, e1, hv, hw⟩ := VwAll.two vw
      cases hv.int
      cases hw.int
      exact ⟨i, j, e1, q1.1, k _ _ ρ1 H1 R1 S1 K1 walk_rng q1.2⟩
    · exact q1.elim

/-! ### for -/
def loopD (g : DG) (b : DS) (DD : DEnds) : List PyData → DEnv → Prop
  | [], ρ => DD.nx ρ
  | x :: xs, ρ => g x ρ fun ρ1 => b { DD with nx := loopD g b DD xs, ct := loopD g b DD xs, bk := DD.nx } ρ1
def dFor (di : DI) (g : DG) (b : DS) : DS := fun DD ρ => di ρ fun items ρ1 => loopD g b DD items ρ1
theorem simS_for {wi : TI} {tg : TG} {tb : TS} {di : DI} {g : DG} {b : DS} (hi : SimI wi di) (hg : SimG tg g) (hb : SimS tb b) : SimS (tFor wi tg tb) (dFor di g b) := fun H0 B σ H ρ D DD R q E => by
  refine hi H0 B σ H ρ _ _ R q fun J items ρ1 H1 R1 S1 K1 W q1 => ?_
  refine ⟨fun i m σ' H' => ∃ ρ', m + i = items.length ∧ Rel H0 B σ' H' ρ' ∧ Stp σ ρ1 H1 σ' ρ' H' ∧ loopD g b DD (items.drop i) ρ', ⟨items.length, ρ1, rfl, R1, .refl, q1⟩, ?_⟩
  rintro i m σ' H' ⟨ρ', hm, R', S', q'⟩
  by_cases hlt : i < items.length
  · refine .inr ⟨W.goes i H' S'.keep S'.tup hlt, ?_⟩
    have ed : items.drop i = items[i] :: items.drop (i + 1) := List.drop_eq_getElem_cons hlt
    rw [ed] at q'
    refine ⟨fun σ2 H2 => ∃ ρ2, Rel H0 B σ2 H2 ρ2 ∧ Stp σ ρ1 H1 σ2 ρ2 H2 ∧ loopD g b DD (items.drop (i + 1)) ρ2, fun σ2 H2 ⟨ρ2, a, b, c⟩ => ⟨m - 1, by omega, ρ2, by omega, a, b, c⟩, fun x Hx y => ?_⟩
    obtain ⟨gr, d, e1, rp⟩ := W.yields i H' (Al B σ' ρ') x Hx (S'.pass fun _ z => .inl z) S'.keep hlt y
    rw [List.getElem?_eq_getElem hlt] at e1
    cases e1
    have S2 := S'.trans (gr.stp (σ := σ') (ρ := ρ'))
    refine hg H0 B σ' Hx ρ' x _ _ _ (R'.grow gr) rp q' fun σ3 H3 ρ3 R3 S3 _ q3 => ?_
    refine hb H0 B σ3 H3 ρ3 _ _ R3 q3 ⟨fun σ4 H4 ρ4 R4 S4 q4 => ⟨ρ4, R4, (S2.trans S3).trans S4, q4⟩, fun σ4 H4 ρ4 R4 S4 q4 => E.nx σ4 H4 ρ4 R4 (((S1.trans S2).trans S3).trans S4) q4, fun σ4 H4 ρ4 R4 S4 q4 => ⟨ρ4, R4, (S2.trans S3).trans S4, q4⟩, fun r ρ4 v σ4 H4 R4 S4 o q4 => ?_⟩
    exact E.rt r ρ4 v σ4 H4 R4 (((S1.trans S2).trans S3).trans S4) o q4
  · have ed : items.drop i = [] := List.drop_eq_nil_of_le (by omega)
    rw [ed] at q'
    have ei : i = items.length := by omega
    subst ei
    exact .inl ⟨W.stops H' S'.keep S'.tup, E.nx σ' H' ρ' R' (S1.trans S') q'⟩
/-! ### while -/
def whileD (t : DT) (b : DS) (DD : DEnds) : Nat → DEnv → Prop
  | 0, _ => False
  | n + 1, ρ => t ρ fun c ρ1 => if c = true then b { DD with nx := whileD t b DD n, ct := whileD t b DD n, bk := DD.nx } ρ1 else DD.nx ρ1
def dWhile (t : DT) (b : DS) : DS := fun DD ρ => ∃ n, whileD t b DD n ρ
theorem simS_while {tt : TT} {tb : TS} {t : DT} {b : DS} (ht : SimT tt t) (hb : SimS tb b) : SimS (tWhile tt tb) (dWhile t b) := fun H0 B σ H ρ D DD R q E => by
  obtain ⟨n, q⟩ := q
  refine ⟨fun m σ' H' => ∃ ρ', Rel H0 B σ' H' ρ' ∧ Stp σ ρ H σ' ρ' H' ∧ whileD t b DD m ρ', ⟨n, ρ, R, .refl, q⟩, ?_⟩
  rintro m σ' H' ⟨ρ', R', S', q'⟩
  cases m with
  | zero => exact q'.elim
  | succ m =>
    refine ht H0 B σ' H' ρ' _ _ R' q' fun c ρ1 H1 R1 S1 K1 q1 => ?_
    cases c with
    | true =>
      refine ⟨fun σ2 H2 => ∃ ρ2, Rel H0 B σ2 H2 ρ2 ∧ Stp σ ρ H σ2 ρ2 H2 ∧ whileD t b DD m ρ2, fun σ2 H2 z => ⟨m, Nat.lt_succ_self m, z⟩, ?_⟩
      refine hb H0 B σ' H1 ρ1 _ _ R1 q1 ⟨fun σ4 H4 ρ4 R4 S4 q4 => ⟨ρ4, R4, (S'.trans S1).trans S4, q4⟩, fun σ4 H4 ρ4 R4 S4 q4 => E.nx σ4 H4 ρ4 R4 ((S'.trans S1).trans S4) q4, fun σ4 H4 ρ4 R4 S4 q4 => ⟨ρ4, R4, (S'.trans S1).trans S4, q4⟩, fun r ρ4 v σ4 H4 R4 S4 o q4 => ?_⟩
      exact E.rt r ρ4 v σ4 H4 R4 ((S'.trans S1).trans S4) o q4
    | false => exact E.nx σ' H1 ρ1 R1 (S'.trans S1) q1
end Dl
set_option Elab.async false
set_option linter.all false
set_option maxRecDepth 100000
set_option maxHeartbeats 4000000
/-! The data layer, part 5: comprehensions, contracts, calls. -/
namespace Dl
open PySem L2

/-! ### comprehensions -/
def wipeD (ρ : DEnv) : List Nat → DEnv
  | [] => ρ
  | v :: vs => (wipeD ρ vs).set v none
/-- the block's own slots as they stood -/
def restD (ρ1 ρ2 : DEnv) : List Nat → DEnv
  | [] => ρ2
  | v :: vs => (restD ρ1 ρ2 vs).set v (ρ1[v]?.getD none)
/-- none of these slots is one's own list -/
def freeAt (ρ : DEnv) : List Nat → Bool
  | [] => true
  | v :: vs => (match ρ[v]? with
    | some (some s) => !s.own
    | _ => true) && freeAt ρ vs
theorem wipeD_len (ρ : DEnv) : ∀ vs, (wipeD ρ vs).length = ρ.length
  | [] => rfl
  | v :: vs => by simp [wipeD, wipeD_len ρ vs]
theorem restD_len (ρ1 ρ2 : DEnv) : ∀ vs, (restD ρ1 ρ2 vs).length = ρ2.length
  | [] => rfl
  | v :: vs => by simp [restD, restD_len ρ1 ρ2 vs]
theorem wipeD_some {ρ : DEnv} {i : Nat} {s : Sl} : ∀ {vs : List Nat}, (wipeD ρ vs)[i]? = some (some s) → ρ[i]? = some (some s) ∧ i ∉ vs
  | [], h => ⟨h, by simp⟩
  | v :: vs, h => by
    unfold wipeD at h
    by_cases hi : v = i
    · subst hi
      by_cases hv : v < (wipeD ρ vs).length
      · rw [List.getElem?_set_self hv] at h; cases h
      · rw [List.getElem?_eq_none (by simpa using hv)] at h; cases h
    · rw [List.getElem?_set_ne hi] at h
      obtain ⟨h1, h2⟩ := wipeD_some h
      exact ⟨h1, by simp only [List.mem_cons, not_or]; exact ⟨fun e => hi e.symm, h2⟩⟩
theorem wipeD_out {ρ : DEnv} {i : Nat} : ∀ {vs : List Nat}, i ∉ vs → (wipeD ρ vs)[i]? = ρ[i]?
  | [], _ => rfl
  | v :: vs, h => by
    have h1 : v ≠ i := fun e => h (by rw [e]; exact List.mem_cons_self)
    have h2 : i ∉ vs := fun m => h (List.mem_cons_of_mem _ m)
    unfold wipeD
    rw [List.getElem?_set_ne h1]
    exact wipeD_out h2
theorem restD_out {ρ1 ρ2 : DEnv} {i : Nat} : ∀ {vs : List Nat}, i ∉ vs → (restD ρ1 ρ2 vs)[i]? = ρ2[i]?
  | [], _ => rfl
  | v :: vs, h => by
    have h1 : v ≠ i := fun e => h (by rw [e]; exact List.mem_cons_self)
    have h2 : i ∉ vs := fun m => h (List.mem_cons_of_mem _ m)
    unfold restD
    rw [List.getElem?_set_ne h1]
    exact restD_out h2
theorem restD_in {ρ1 ρ2 : DEnv} {i : Nat} (hl : i < ρ2.length) : ∀ {vs : List Nat}, i ∈ vs → (restD ρ1 ρ2 vs)[i]? = some (ρ1[i]?.getD none)
  | v :: vs, h => by
    unfold restD
    by_cases hv : v = i
    · subst hv
      rw [List.getElem?_set_self (by rw [restD_len]; exact hl)]
    · rw [List.getElem?_set_ne hv]
      exact restD_in hl ((List.mem_cons.mp h).resolve_left fun e => hv e.symm)
theorem freeAt_get {ρ : DEnv} {i : Nat} {s : Sl} (h : ρ[i]? = some (some s)) : ∀ {vs : List Nat}, freeAt ρ vs = true → i ∈ vs → s.own = false
  | v :: vs, f, m => by
    unfold freeAt at f
    rw [Bool.and_eq_true] at f
    rcases List.mem_cons.mp m with e | m
    · subst e
      have f1 := f.1
      rw [h] at f1
      simpa using f1
    · exact freeAt_get h f.2 m
theorem ow_wipe {σ : L2.St} {ρ : DEnv} {vs : List Nat} {p : Addr} : Ow (wipe σ vs) (wipeD ρ vs) p → Ow σ ρ p := fun ⟨i, s, a, b, c⟩ => by
  obtain ⟨a1, a2⟩ := wipeD_some a
  rw [wipe_out a2] at c
  exact ⟨i, s, a1, b, c⟩
theorem Rel.wipe {H0 : Fx} {B : Av} {σ : L2.St} {H : Hp} {ρ : DEnv} (R : Rel H0 B σ H ρ) (vs : List Nat) : Rel H0 B (L2.wipe σ vs) H (wipeD ρ vs) ∧ Stp σ ρ H (L2.wipe σ vs) (wipeD ρ vs) H := by
  have ps : Pass (Al B σ ρ) (Al B (L2.wipe σ vs) (wipeD ρ vs)) H H := ⟨fun a xs n e => ⟨fun q => n (q.imp id ow_wipe), e⟩, fun _ _ e => e⟩
  refine ⟨⟨by rw [wipe_length, wipeD_len]; exact R.len, fun i d a => ?_, fun i s a b => ?_, fun i d p a b => ?_, fun i j s t p a b a' b' c c' => ?_, R.dom, fun i d a => ?_, R.bdom⟩, ⟨fun _ _ h _ => h, fun _ h => h, fun _ _ h => h, fun q z => .inl (ow_wipe z)⟩⟩
  · obtain ⟨a1, a2⟩ := wipeD_some a
    obtain ⟨v, c1, c2⟩ := R.fz i d a1
    exact ⟨v, by rw [wipe_out a2]; exact c1, Rp.pass ps _ _ c2⟩
  · obtain ⟨a1, a2⟩ := wipeD_some a
    obtain ⟨p, c1, c2⟩ := R.own i s a1 b
    exact ⟨p, by rw [wipe_out a2]; exact c1, c2.pass ps rfl⟩
  · obtain ⟨a1, a2⟩ := wipeD_some a
    rw [wipe_out a2] at b
    exact R.mine i d p a1 b
  · obtain ⟨a1, a2⟩ := wipeD_some a
    obtain ⟨a1', a2'⟩ := wipeD_some a'
    rw [wipe_out a2] at c
    rw [wipe_out a2'] at c'
    exact R.ne i j s t p a1 b a1' b' c c'
  · obtain ⟨a1, a2⟩ := wipeD_some a
    rw [wipe_out a2]
    exact R.ioa i d a1
/-- behind the block -/
theorem Rel.unwipe {H0 : Fx} {B0 B : Av} {σ : L2.St} {H1 H : Hp} {ρ1 ρ2 : DEnv} {vs : List Nat} (R1 : Rel H0 B0 σ H1 ρ1) (f : freeAt ρ1 vs = true) (R : Rel H0 B (L2.wipe σ vs) H ρ2) (S : Stp σ ρ1 H1 (L2.wipe σ vs) ρ2 H) (hw : wipeD ρ2 vs = ρ2)
    (hb : ∀ p, B p → B0 p ∨ H1 p = none) : Rel H0 B σ H (restD ρ1 ρ2 vs) ∧ (∀ p, Ow σ (restD ρ1 ρ2 vs) p ↔ Ow (L2.wipe σ vs) ρ2 p) := by
  have hl : σ.length = ρ2.length := by rw [← R.len, wipe_length]
  have inn : ∀ {i : Nat} {s : Sl}, i ∈ vs → (restD ρ1 ρ2 vs)[i]? = some (some s) → ρ1[i]? = some (some s) ∧ s.own = false := fun {i s} m e => by
    by_cases hi : i < ρ2.length
    · rw [restD_in hi m] at e
      cases h1 : ρ1[i]? with
      | none => rw [h1] at e; cases e
      | some o =>
        rw [h1] at e
        cases o with
        | none => cases e
        | some s' =>
          cases e
          exact ⟨rfl, freeAt_get h1 f m⟩
    · rw [List.getElem?_eq_none (by rw [restD_len]; omega)] at e
      cases e
  have out : ∀ {i : Nat} {s : Sl}, ρ2[i]? = some (some s) → i ∉ vs := fun {i s} e => by
    rw [← hw] at e
    exact (wipeD_some e).2
  have ow : ∀ p, Ow σ (restD ρ1 ρ2 vs) p ↔ Ow (L2.wipe σ vs) ρ2 p := fun p => by
    constructor
    · rintro ⟨i, s, a, b, c⟩
      by_cases m : i ∈ vs
      · rw [(inn m a).2] at b
        cases b
      · rw [restD_out m] at a
        exact ⟨i, s, a, b, by rw [wipe_out m]; exact c⟩
    · rintro ⟨i, s, a, b, c⟩
      have m := out a
      rw [wipe_out m] at c
      exact ⟨i, s, by rw [restD_out m]; exact a, b, c⟩
  have ps : Pass (Al B (L2.wipe σ vs) ρ2) (Al B σ (restD ρ1 ρ2 vs)) H H := ⟨fun a xs n e => ⟨fun q => n (q.imp id (ow a).mp), e⟩, fun _ _ e => e⟩
  have ps1 : Pass (Al B0 σ ρ1) (Al B σ (restD ρ1 ρ2 vs)) H1 H := by
    have z := S.pass (B := B0) (B' := B) hb
    exact ⟨fun a xs n e => ⟨fun q => (z.l a xs n e).1 (q.imp id (ow a).mp), (z.l a xs n e).2⟩, z.t⟩
  refine ⟨⟨by rw [restD_len]; exact hl, fun i d a => ?_, fun i s a b => ?_, fun i d p a b => ?_, fun i j s t p a b a' b' c c' => ?_, R.dom, fun i d a => ?_, R.bdom⟩, ow⟩
  · by_cases m : i ∈ vs
    · obtain ⟨v, c1, c2⟩ := R1.fz i d (inn m a).1
      exact ⟨v, c1, Rp.pass ps1 _ _ c2⟩
    · rw [restD_out m] at a
      obtain ⟨v, c1, c2⟩ := R.fz i d a
      exact ⟨v, by rw [wipe_out m] at c1; exact c1, Rp.pass ps _ _ c2⟩
  · by_cases m : i ∈ vs
    · rw [(inn m a).2] at b
      cases b
    · rw [restD_out m] at a
      obtain ⟨p, c1, c2⟩ := R.own i s a b
      exact ⟨p, by rw [wipe_out m] at c1; exact c1, c2.pass ps rfl⟩
  · by_cases m : i ∈ vs
    · cases (inn m a).2
    · rw [restD_out m] at a
      exact R.mine i d p a (by rw [wipe_out m]; exact b)
  · by_cases m : i ∈ vs
    · rw [(inn m a).2] at b
      cases b
    · by_cases m' : j ∈ vs
      · rw [(inn m' a').2] at b'
        cases b'
      · rw [restD_out m] at a
        rw [restD_out m'] at a'
        exact R.ne i j s t p a b a' b' (by rw [wipe_out m]; exact c) (by rw [wipe_out m']; exact c')
  · by_cases m : i ∈ vs
    · cases (inn m a).2
    · rw [restD_out m] at a
      have z := R.ioa i d a
      rw [wipe_out m] at z
      exact z
theorem wipe_set {σ : L2.St} {x : Option V} {j : Nat} {vs : List Nat} (h : j ∈ vs) : wipe (σ.set j x) vs = wipe σ vs := by
  apply List.ext_getElem?
  intro i
  by_cases m : i ∈ vs
  · have key : ∀ (τ : L2.St), i < τ.length → (wipe τ vs)[i]? = some none := fun τ hl => by
      have hl' : i < (wipe τ vs).length := by rw [wipe_length]; exact hl
      cases e : (wipe τ vs)[i]? with
      | none => rw [List.getElem?_eq_none_iff] at e; omega
      | some o =>
        cases o with
        | none => rfl
        | some y => exact absurd m (wipe_some e).2
    by_cases hl : i < σ.length
    · rw [key _ (by simpa using hl), key _ hl]
    · rw [List.getElem?_eq_none (by rw [wipe_length]; simp; omega), List.getElem?_eq_none (by rw [wipe_length]; omega)]
  · rw [wipe_out m, wipe_out m, List.getElem?_set_ne (fun e => m (by rw [← e]; exact h))]
/-- the target stores at the block's own slots alone -/
structure TgOk (tg : TG) (vs : List Nat) : Prop where
  ins : ∀ v σ H Q, tg v σ H Q → tg v σ H fun σ2 H2 => wipe σ2 vs = wipe σ vs ∧ Q σ2 H2
  mono : ∀ v σ H Q Q', tg v σ H Q → (∀ σ2 H2, Q σ2 H2 → Q' σ2 H2) → tg v σ H Q'
structure TgsOk (tg : TGs) (vs : List Nat) : Prop where
  ins : ∀ v σ H Q, tg v σ H Q → tg v σ H fun σ2 H2 => wipe σ2 vs = wipe σ vs ∧ Q σ2 H2
  mono : ∀ v σ H Q Q', tg v σ H Q → (∀ σ2 H2, Q σ2 H2 → Q' σ2 H2) → tg v σ H Q'
theorem tg_name {j : Nat} {vs : List Nat} (h : j ∈ vs) : TgOk (gName j) vs := ⟨fun v σ H Q q => ⟨wipe_set h, q⟩, fun _ _ _ _ _ q k => k _ _ q⟩
theorem tgs_nil {vs : List Nat} : TgsOk gNil vs := ⟨fun v σ H Q q => ⟨q.1, rfl, q.2⟩, fun _ _ _ _ _ q k => ⟨q.1, k _ _ q.2⟩⟩
theorem tgs_cons {t : TG} {u : TGs} {vs : List Nat} (h1 : TgOk t vs) (h2 : TgsOk u vs) : TgsOk (gCons t u) vs := ⟨fun v σ H Q q => by
  obtain ⟨x, r, e, q⟩ := q
  refine ⟨x, r, e, h1.mono _ _ _ _ _ (h1.ins _ _ _ _ q) fun σ2 H2 z => ?_⟩
  refine h2.mono _ _ _ _ _ (h2.ins _ _ _ _ z.2) fun σ3 H3 z2 => ⟨z2.1.trans z.1, z2.2⟩, fun _ _ _ _ _ q k => by
  obtain ⟨x, r, e, q⟩ := q
  exact ⟨x, r, e, h1.mono _ _ _ _ _ q fun _ _ z => h2.mono _ _ _ _ _ z k⟩⟩
theorem tg_tup {K : PySem.W.Frag} {n : Nat} {u : TGs} {vs : List Nat} (h : TgsOk u vs) : TgOk (gTup K n u) vs := ⟨fun v σ H Q q => by
  obtain ⟨a, xs, e, e2, e3, q⟩ := q
  exact ⟨a, xs, e, e2, e3, h.ins _ _ _ _ q⟩, fun _ _ _ _ _ q k => by
  obtain ⟨a, xs, e, e2, e3, q⟩ := q
  exact ⟨a, xs, e, e2, e3, h.mono _ _ _ _ _ q k⟩⟩
def dYes : DT := fun ρ Q => Q true ρ
theorem simT_yes : SimT tYes dYes := fun H0 B σ H ρ Q QD R q k => k true ρ H R .refl .refl q
def lcLoop (vs : List Nat) (dg : DG) (dt : DT) (de : DE) : List PyData → DEnv → (List PyData → DEnv → Prop) → Prop
  | [], ρ, Q => Q [] ρ
  | x :: xs, ρ, Q => dg x ρ fun ρ1 => dt ρ1 fun b ρ2 => if b = true then de ρ2 fun r ρ3 => ∃ d, r.sto = some d ∧ lcLoop vs dg dt de xs (wipeD ρ3 vs) fun ds ρ4 => Q (d :: ds) ρ4 else lcLoop vs dg dt de xs (wipeD ρ2 vs) Q
def dLc (di : DI) (dg : DG) (dt : DT) (de : DE) (vs : List Nat) : DE := fun ρ Q => di ρ fun items ρ1 => freeAt ρ1 vs = true ∧ items.length ≤ 100000 ∧ lcLoop vs dg dt de items (wipeD ρ1 vs) fun ds ρ2 => Q (.nw (.list ds)) (restD ρ1 ρ2 vs)
theorem wipeD_idem (ρ : DEnv) (vs : List Nat) : wipeD (wipeD ρ vs) vs = wipeD ρ vs := by
  apply List.ext_getElem?
  intro i
  by_cases m : i ∈ vs
  · have key : ∀ (τ : DEnv), i < τ.length → (wipeD τ vs)[i]? = some none := fun τ hl => by
      have hl' : i < (wipeD τ vs).length := by rw [wipeD_len]; exact hl
      cases e : (wipeD τ vs)[i]? with
      | none => rw [List.getElem?_eq_none_iff] at e; omega
      | some o =>
        cases o with
        | none => rfl
        | some y => exact absurd m (wipeD_some e).2
    by_cases hl : i < ρ.length
    · rw [key _ (by rw [wipeD_len]; exact hl), key _ hl]
    · rw [List.getElem?_eq_none (by rw [wipeD_len, wipeD_len]; omega), List.getElem?_eq_none (by rw [wipeD_len]; omega)]
  · rw [wipeD_out m]
theorem wipe_idem (σ : L2.St) (vs : List Nat) : wipe (wipe σ vs) vs = wipe σ vs := by
  apply List.ext_getElem?
  intro i
  by_cases m : i ∈ vs
  · have key : ∀ (τ : L2.St), i < τ.length → (wipe τ vs)[i]? = some none := fun τ hl => by
      have hl' : i < (wipe τ vs).length := by rw [wipe_length]; exact hl
      cases e : (wipe τ vs)[i]? with
      | none => rw [List.getElem?_eq_none_iff] at e; omega
      | some o =>
        cases o with
        | none => rfl
        | some y => exact absurd m (wipe_some e).2
    by_cases hl : i < σ.length
    · rw [key _ (by rw [wipe_length]; exact hl), key _ hl]
    · rw [List.getElem?_eq_none (by rw [wipe_length, wipe_length]; omega), List.getElem?_eq_none (by rw [wipe_length]; omega)]
  · rw [wipe_out m]
theorem simE_lc {wi : TI} {tg : TG} {tt : TT} {te : TE} {di : DI} {dg : DG} {dt : DT} {de : DE} {vs : List Nat} (hi : SimI wi di) (hg : SimG tg dg) (hv : TgOk tg vs) (ht : SimT tt dt) (he : SimE te de) : SimE (tLc wi tg tt te vs) (dLc di dg dt de vs) := fun H0 B σ H ρ Q QD R q k => by
  refine hi H0 B σ H ρ _ _ R q fun J items ρ1 H1 R1 S1 K1 W q1 => ?_
  obtain ⟨fr, hlen, q1⟩ := q1
  intro D hD
  have g0 : Grow H1 (upd H1 D (.lst [])) := .new hD
  have RD := R1.more g0 hD (by rw [upd_same]; exact fun z => nomatch z)
  have noD1 : ¬ Ow σ ρ1 D := fun z => R1.adom D (.inr z) hD
  obtain ⟨Rw, Sw⟩ := RD.wipe vs
  have noDw : ¬ Ow (L2.wipe σ vs) (wipeD ρ1 vs) D := fun z => noD1 (ow_wipe z)
  refine ⟨fun i m H' => ∃ ρ' acc ds, m + i = items.length ∧ wipeD ρ' vs = ρ' ∧ Rel H0 (bor B D) (L2.wipe σ vs) H' ρ' ∧ Stp σ ρ1 H1 (L2.wipe σ vs) ρ' H' ∧ ¬ Ow (L2.wipe σ vs) ρ' D ∧ H' D = some (.lst acc) ∧ RpAll (Al (bor B D) (L2.wipe σ vs) ρ') H' acc ds ∧ acc.length ≤ i ∧
    Keep (wipeD ρ1 vs) ρ' ∧ lcLoop vs dg dt de (items.drop i) ρ' fun ds' ρ2 => QD (.nw (.list (ds ++ ds'))) (restD ρ1 ρ2 vs), ⟨items.length, wipeD ρ1 vs, [], [], rfl, wipeD_idem _ _, Rw, (g0.stp (σ := σ) (ρ := ρ1)).trans Sw, noDw, upd_same, .nil, Nat.zero_le _, .refl, q1⟩, ?_⟩
  rintro i m H' ⟨ρ', acc, ds, hm, hwp, R', S', no', eD, rds, hal, kp', q'⟩
  by_cases hlt : i < items.length
  · refine .inr ⟨W.goes i H' S'.keep S'.tup hlt, ?_⟩
    have ed : items.drop i = items[i] :: items.drop (i + 1) := List.drop_eq_getElem_cons hlt
    rw [ed] at q'
    refine ⟨fun H2 => ∃ ρ2 acc2 ds2, wipeD ρ2 vs = ρ2 ∧ Rel H0 (bor B D) (L2.wipe σ vs) H2 ρ2 ∧ Stp σ ρ1 H1 (L2.wipe σ vs) ρ2 H2 ∧ ¬ Ow (L2.wipe σ vs) ρ2 D ∧ H2 D = some (.lst acc2) ∧ RpAll (Al (bor B D) (L2.wipe σ vs) ρ2) H2 acc2 ds2 ∧ acc2.length ≤ i + 1 ∧
      Keep (wipeD ρ1 vs) ρ2 ∧ lcLoop vs dg dt de (items.drop (i + 1)) ρ2 fun ds' ρ3 => QD (.nw (.list (ds2 ++ ds'))) (restD ρ1 ρ3 vs), fun H2 ⟨ρ2, acc2, ds2, a, b, c, d, e, f, g, h, l⟩ => ⟨m - 1, by omega, ρ2, acc2, ds2, by omega, a, b, c, d, e, f, g, h, l⟩, fun x Hx y => ?_⟩
    obtain ⟨gr, d, e1, rp⟩ := W.yields i H' (Al (bor B D) (L2.wipe σ vs) ρ') x Hx (S'.pass fun p z => z.elim .inl fun z => .inr (by rw [z]; exact hD)) S'.keep hlt y
    rw [List.getElem?_eq_getElem hlt] at e1
    cases e1
    have Rx := R'.grow gr
    have Sx := S'.trans (gr.stp (σ := L2.wipe σ vs) (ρ := ρ'))
    have eDx := gr.keep D _ eD
    have rdx := RpAll.pass (gr.pass (A := Al (bor B D) (L2.wipe σ vs) ρ') (A' := Al (bor B D) (L2.wipe σ vs) ρ') fun _ z => .inl z) _ _ rds
    have land : ∀ σ2 ρ2 H2 acc2 ds2, L2.wipe σ2 vs = L2.wipe σ vs → Rel H0 (bor B D) σ2 H2 ρ2 → Stp σ ρ1 H1 σ2 ρ2 H2 → ¬ Ow σ2 ρ2 D → H2 D = some (.lst acc2) → RpAll (Al (bor B D) σ2 ρ2) H2 acc2 ds2 → acc2.length ≤ i + 1 → Keep ρ' ρ2 →
        (lcLoop vs dg dt de (items.drop (i + 1)) (wipeD ρ2 vs) fun ds' ρ3 => QD (.nw (.list (ds2 ++ ds'))) (restD ρ1 ρ3 vs)) →
        ∃ ρ2 acc2 ds2, wipeD ρ2 vs = ρ2 ∧ Rel H0 (bor B D) (L2.wipe σ vs) H2 ρ2 ∧ Stp σ ρ1 H1 (L2.wipe σ vs) ρ2 H2 ∧ ¬ Ow (L2.wipe σ vs) ρ2 D ∧ H2 D = some (.lst acc2) ∧ RpAll (Al (bor B D) (L2.wipe σ vs) ρ2) H2 acc2 ds2 ∧ acc2.length ≤ i + 1 ∧ Keep (wipeD ρ1 vs) ρ2 ∧
          lcLoop vs dg dt de (items.drop (i + 1)) ρ2 fun ds' ρ3 => QD (.nw (.list (ds2 ++ ds'))) (restD ρ1 ρ3 vs) := fun σ2 ρ2 H2 acc2 ds2 ew R2 S2 n2 e2 r2 l2 k2 q2 => by
      obtain ⟨Rw2, Sw2⟩ := R2.wipe vs
      rw [ew] at Rw2 Sw2
      refine ⟨wipeD ρ2 vs, acc2, ds2, wipeD_idem _ _, Rw2, S2.trans Sw2, fun z => ?_, e2, ?_, l2, fun j hj => ?_, q2⟩
      · rw [← ew] at z
        exact n2 (ow_wipe z)
      · refine RpAll.pass ⟨fun a xs n e => ⟨fun z => n (z.imp id fun z => ?_), e⟩, fun _ _ e => e⟩ _ _ r2
        rw [← ew] at z
        exact ow_wipe z
      · have hm : j ∉ vs := by
          obtain ⟨s, hs⟩ := hj
          exact (wipeD_some hs).2
        rw [wipeD_out hm]
        exact k2 j (kp' j hj)
    have hh := hg H0 (bor B D) (L2.wipe σ vs) Hx ρ' x _ (fun σ2 H2 => ∃ ρ2, Rel H0 (bor B D) σ2 H2 ρ2 ∧ Stp (L2.wipe σ vs) ρ' Hx σ2 ρ2 H2 ∧ Keep ρ' ρ2 ∧ dt ρ2 fun b ρ3 => if b = true then de ρ3 fun r ρ4 => ∃ d, r.sto = some d ∧ lcLoop vs dg dt de (items.drop (i + 1)) (wipeD ρ4 vs) fun ds' ρ5 => QD (.nw (.list (ds ++ (d :: ds')))) (restD ρ1 ρ5 vs)
      else lcLoop vs dg dt de (items.drop (i + 1)) (wipeD ρ3 vs) fun ds' ρ5 => QD (.nw (.list (ds ++ ds'))) (restD ρ1 ρ5 vs)) _ Rx rp q' fun σ3 H3 ρ3 R3 S3 K3 q3 => ⟨ρ3, R3, S3, K3, q3⟩
    have hh2 := hv.ins _ _ _ _ hh
    rw [wipe_idem] at hh2
    refine hv.mono _ _ _ _ _ hh2 fun σ3 H3 ⟨ew, ρ3, R3, S3, K3, q3⟩ => ⟨ew, ?_⟩
    have eD3 : H3 D = some (.lst acc) := S3.keep D _ eDx no'
    have rd3 := RpAll.pass (S3.pass (B := bor B D) (B' := bor B D) fun _ z => .inl z) _ _ rdx
    have no3 : ¬ Ow σ3 ρ3 D := fun z => (S3.own D z).elim no' fun z => by rw [eDx] at z; cases z
    refine ht H0 (bor B D) σ3 H3 ρ3 _ _ R3 q3 fun b ρ4 H4 R4 S4 K4 q4 => ?_
    have eD4 : H4 D = some (.lst acc) := S4.keep D _ eD3 no3
    have rd4 := RpAll.pass (S4.pass (B := bor B D) (B' := bor B D) fun _ z => .inl z) _ _ rd3
    have no4 : ¬ Ow σ3 ρ4 D := fun z => (S4.own D z).elim no3 fun z => by rw [eD3] at z; cases z
    cases b with
    | false => exact land σ3 ρ4 H4 acc ds ew R4 ((Sx.trans S3).trans S4) no4 eD4 rd4 (by omega) (K3.trans K4) q4
    | true =>
      refine he H0 (bor B D) σ3 H4 ρ4 _ _ R4 q4 fun r ρ5 y H5 R5 S5 K5 o5 q5 => ?_
      obtain ⟨d, hd, q5⟩ := q5
      have eD5 : H5 D = some (.lst acc) := S5.keep D _ eD4 no4
      have rd5 := RpAll.pass (S5.pass (B := bor B D) (B' := bor B D) fun _ z => .inl z) _ _ rd4
      have no5 : ¬ Ow σ3 ρ5 D := fun z => (S5.own D z).elim no4 fun z => by rw [eD4] at z; cases z
      have rp5 := o5.cv.sto hd
      refine ⟨acc, eD5, sz5' (by omega), ?_⟩
      have R6 := R5.writeB (ys := acc ++ [y]) (.inr rfl) no5 eD5
      have ps : Pass (Al (bor B D) σ3 ρ5) (Al (bor B D) σ3 ρ5) H5 (upd H5 D (.lst (acc ++ [y]))) := ⟨fun a zs n e => by
        have ne : a ≠ D := fun z => n (by rw [z]; exact .inl (.inr rfl))
        exact ⟨n, by rw [upd_ne ne]; exact e⟩, fun a zs e => by
        have ne : a ≠ D := fun z => by
          rw [z, eD5] at e
          cases e
        rw [upd_ne ne]
        exact e⟩
      have S6 : Stp σ ρ1 H1 σ3 ρ5 (upd H5 D (.lst (acc ++ [y]))) := by
        have S := ((Sx.trans S3).trans S4).trans S5
        refine ⟨fun b o h n => ?_, fun b h => ?_, fun b xs h => ?_, S.own⟩
        · have ne : b ≠ D := fun z => by rw [z, hD] at h; cases h
          rw [upd_ne ne]
          exact S.keep b o h n
        · by_cases hb : b = D
          · rw [hb]; exact hD
          · rw [upd_ne hb] at h
            exact S.dom b h
        · have ne : b ≠ D := fun z => by rw [z, hD] at h; cases h
          rw [upd_ne ne]
          exact S.tup b xs h
      refine land σ3 ρ5 _ (acc ++ [y]) (ds ++ [d]) ew R6 S6 no5 upd_same ((RpAll.pass ps _ _ rd5).app (.cons (Rp.pass ps _ _ rp5) .nil)) (by simp; omega) ((K3.trans K4).trans K5) ?_
      simp only [List.append_assoc, List.singleton_append]
      exact q5
  · have ed : items.drop i = [] := List.drop_eq_nil_of_le (by omega)
    rw [ed] at q'
    have ei : i = items.length := by omega
    subst ei
    refine .inl ⟨W.stops H' S'.keep S'.tup, ?_⟩
    obtain ⟨R6, ow6⟩ := R1.unwipe (B := bor B D) fr R' S' hwp fun p z => z.elim .inl fun z => .inr (by rw [z]; exact hD)
    have no6 : ¬ Ow σ (restD ρ1 ρ' vs) D := fun z => no' ((ow6 D).mp z)
    have S6 : Stp σ ρ1 H1 σ (restD ρ1 ρ' vs) H' := ⟨S'.keep, S'.dom, S'.tup, fun p z => S'.own p ((ow6 p).mp z)⟩
    have q6 : QD (.nw (.list ds)) (restD ρ1 ρ' vs) := by
      have z : QD (.nw (.list (ds ++ []))) (restD ρ1 ρ' vs) := q'
      rw [List.append_nil] at z
      exact z
    refine k (.nw (.list ds)) (restD ρ1 ρ' vs) (.ref D) H' (R6.anti fun p z => .inl z) (S1.trans S6) (K1.trans ?_) ⟨D, rfl, S1.dom D hD, fun z => R1.bdom D z hD, no6, ⟨acc, eD, ?_⟩, R6⟩ q6
    · intro j ⟨s, hj⟩
      by_cases m : j ∈ vs
      · have hl : j < ρ'.length := by
          have := (List.getElem?_eq_some_iff.mp hj).1
          rw [← R1.len] at this
          have e1 := R'.len
          rw [wipe_length] at e1
          omega
        exact ⟨s, by rw [restD_in hl m, hj]; rfl⟩
      · rw [restD_out m]
        exact kp' j ⟨s, by rw [wipeD_out m]; exact hj⟩
    · refine RpAll.pass ⟨fun a xs n e => ⟨fun z => n (z.imp id (ow6 a).mp), e⟩, fun _ _ e => e⟩ _ _ rds
end Dl
set_option Elab.async false
set_option linter.all false
set_option maxRecDepth 100000
set_option maxHeartbeats 4000000
/-! The data layer, part 6: contracts of defs, calls, the rule for a def. -/
namespace Dl
open PySem L2
open PyProof.Rows (envOfC)

/-- n: how many parameters; io: the place of the parameter that is changed in place; pre: of the arguments' data and of what is wanted (of the result, and of what the changed parameter holds then) -/
structure CT where
  n : Nat
  io : Option Nat := none
  pre : List PyData → (Rs → PyData → Prop) → Prop
structure ArgsOk (io : Option Nat) (B : Av) (H : Hp) (vs : List V) (ds : List PyData) (p : Addr) : Prop where
  len : vs.length = ds.length
  fz : ∀ (j : Nat) v d, io ≠ some j → vs[j]? = some v → ds[j]? = some d → Rp B H v d
  io : ∀ k, io = some k → vs[k]? = some (.ref p) ∧ B p ∧ ∃ d, ds[k]? = some d ∧ Hold B H p d
def RetOk (io : Option Nat) (B : Av) (H : Hp) (p : Addr) (H' : Hp) (v : V) (r : Rs) (out : PyData) : Prop := match r with
  | .fz d => Rp B H' v d ∧ (io ≠ none → Hold B H' p out)
  | .nw d => ∃ q, v = .ref q ∧ H q = none ∧ H' q ≠ none ∧ Hold (bor B q) H' q d ∧ (io ≠ none → Hold (bor B q) H' p out)
  | .br _ => False
  | .np ds rest => io = none ∧ ∃ T q xs, v = .ref T ∧ H' T = some (.tup (.ref q :: xs)) ∧ H q = none ∧ H' q ≠ none ∧ Hold (bor B q) H' q (.list ds) ∧ RpAll (bor B q) H' xs rest
structure PostOk (io : Option Nat) (B : Av) (H : Hp) (p : Addr) (H' : Hp) (v : V) (r : Rs) (out : PyData) : Prop where
  keep : ∀ b o, H b = some o → (io = none ∨ b ≠ p) → H' b = some o
  dom : ∀ b, H' b = none → H b = none
  tup : ∀ b xs, H b = some (.tup xs) → H' b = some (.tup xs)
  ret : RetOk io B H p H' v r out
/-- the promise that a contract is -/
def spD (ct : CT) : Sp := fun vs H Q _ => ∃ (B : Av) (ds : List PyData) (p : Addr) (Z : Rs → PyData → Prop), ds.length = ct.n ∧ (∀ b, B b → H b ≠ none) ∧ ArgsOk ct.io B H vs ds p ∧ ct.pre ds Z ∧ ∀ r out v H', Z r out → PostOk ct.io B H p H' v r out → Q v H'

/-! ### calls -/
/-- no parameter is changed in place -/
def dCall (ct : CT) (da : DA) : DE := fun ρ Q => da ρ fun rs ρ1 => ∃ ds, stoAll rs = some ds ∧ ds.length = ct.n ∧ ct.pre ds fun r _ => Q r ρ1
theorem simE_call {ct : CT} {E : XK} {ta : TA} {da : DA} (hio : ct.io = none) (h : SimA ta da) : SimE (tCall (spD ct) [] E ta) (dCall ct da) := fun H0 B σ H ρ Q QD R q k =>
  h H0 B σ H ρ _ _ R q fun rs ρ1 vs H1 R1 S1 K1 o1 q1 => by
    obtain ⟨ds, e, hl, q1⟩ := q1
    have r := o1.sto e
    rw [List.append_nil]
    refine ⟨Al B σ ρ1, ds, 0, _, hl, R1.adom, ⟨r.len, fun j v d _ hv hd => ?_, fun k hk => by rw [hio] at hk; cases hk⟩, q1, fun r out v H' z po => ?_⟩
    · obtain ⟨v', e1, e2⟩ := r.get hd
      rw [hv] at e1
      cases e1
      exact e2
    · have g : Grow H1 H' := ⟨fun b o e => po.keep b o e (.inl hio)⟩
      have rv : ResV (Al B σ ρ1) H1 H' v r := by
        have := po.ret
        cases r with
        | fz d => exact this.1
        | br i => exact this
        | nw d =>
          obtain ⟨q, a1, a2, a3, a4, _⟩ := this
          exact ⟨q, a1, a2, a3, a4⟩
        | np ds rest => exact this.2
      exact k r ρ1 v H' (R1.grow g) (S1.trans g.stp) K1 ((resOk_of R1 g rv).back S1.dom) z
/-- lists of one's own are lent, the result is flat -/
def Rs.flat : Rs → Bool
  | .fz d => flatD d
  | _ => false
def dCallL (ct : CT) (da : DA) : DE := fun ρ Q => da ρ fun rs ρ1 => (∀ d ∈ rs.map (Rs.dat ρ1), nodict d) ∧ rs.length = ct.n ∧ ct.pre (rs.map (Rs.dat ρ1)) fun r _ => r.flat = true ∧ Q r ρ1
theorem Vw.free {A A' : Av} {H : Hp} {v : V} {d : PyData} (h : Vw A H v d) (nd : nodict d) (ha : ∀ p, ¬ A' p) : Rp A' H v d := by
  have ps : Pass A A' H H := ⟨fun a xs n e => ⟨ha a, e⟩, fun _ _ e => e⟩
  rcases h with h | ⟨p, e, h⟩
  · exact Rp.pass ps _ _ h
  · subst e
    cases d with
    | list ds =>
      obtain ⟨xs, e1, r⟩ := h
      exact .lst (ha p) e1 (RpAll.pass ps _ _ r)
    | dict kvs => exact (nd kvs rfl).elim
    | _ => exact h.elim
theorem VwAll.free {A A' : Av} {H : Hp} : ∀ {vs : List V} {ds : List PyData}, VwAll A H vs ds → (∀ d ∈ ds, nodict d) → (∀ p, ¬ A' p) → RpAll A' H vs ds
  | [], [], _, _, _ => .nil
  | v :: vs, d :: ds, h, nd, ha => .cons (Vw.free h.1 (nd d List.mem_cons_self) ha) (VwAll.free h.2 (fun e m => nd e (List.mem_cons_of_mem _ m)) ha)
  | [], _ :: _, h, _, _ => h.elim
  | _ :: _, [], h, _, _ => h.elim
theorem Rp.anyA {A A' : Av} {H : Hp} {v : V} {d : PyData} (h : Rp A H v d) (f : flatD d = true) : Rp A' H v d := by
  cases h with
  | lst _ _ _ => exact absurd f Bool.false_ne_true
  | tup _ _ => exact absurd f Bool.false_ne_true
  | non => exact .non
  | bl b => exact .bl b
  | int i => exact .int i
  | str x => exact .str x
theorem simE_callL {ct : CT} {E : XK} {ta : TA} {da : DA} (hio : ct.io = none) (h : SimA ta da) : SimE (tCall (spD ct) [] E ta) (dCallL ct da) := fun H0 B σ H ρ Q QD R q k =>
  h H0 B σ H ρ _ _ R q fun rs ρ1 vs H1 R1 S1 K1 o1 q1 => by
    obtain ⟨nd, hl, q1⟩ := q1
    have r := VwAll.free (A' := fun _ => False) (o1.vw R1) nd fun _ z => z
    rw [List.append_nil]
    refine ⟨fun _ => False, _, 0, _, by rw [List.length_map]; exact hl, fun _ z => z.elim, ⟨r.len, fun j v d _ hv hd => ?_, fun k hk => by rw [hio] at hk; cases hk⟩, q1, fun r out v H' z po => ?_⟩
    · obtain ⟨v', e1, e2⟩ := r.get hd
      rw [hv] at e1
      cases e1
      exact e2
    · have g : Grow H1 H' := ⟨fun b o e => po.keep b o e (.inl hio)⟩
      obtain ⟨zf, z⟩ := z
      cases r with
      | fz d =>
        have rp : Rp (fun _ => False) H' v d := po.ret.1
        exact k (.fz d) ρ1 v H' (R1.grow g) (S1.trans g.stp) K1 (rp.anyA zf) z
      | br i => cases zf
      | nw d => cases zf
      | np _ _ => cases zf
/-- the i-th argument is a slot of one's own, changed by the call -/
def ioSlot (ρ : DEnv) (k : Nat) (rs : List Rs) : Option (Nat × Sl) := match rs[k]? with
  | some (.br i) => match ρ[i]? with
    | some (some s) => if s.own = true then some (i, s) else none
    | _ => none
  | _ => none
def stoBut (k : Nat) (d : PyData) : Nat → List Rs → Option (List PyData)
  | _, [] => some []
  | j, r :: rs => if j = k then (match stoBut k d (j + 1) rs with
      | some ds => some (d :: ds)
      | none => none)
    else match r.sto, stoBut k d (j + 1) rs with
      | some e, some ds => some (e :: ds)
      | _, _ => none
def dCallIO (ct : CT) (k : Nat) (da : DA) : DE := fun ρ Q => da ρ fun rs ρ1 => match ioSlot ρ1 k rs with
  | some (i, s) => ∃ ds, stoBut k s.dat 0 rs = some ds ∧ ds.length = ct.n ∧ k < rs.length ∧ ct.pre ds fun r out => Q r (ρ1.set i (some (s.with out)))
  | none => False
theorem stoBut_get {B : Av} {σ : L2.St} {H : Hp} {ρ : DEnv} {k : Nat} {d0 : PyData} : ∀ {j : Nat} {vs : List V} {rs : List Rs} {ds : List PyData}, CvAll B σ H ρ vs rs → stoBut k d0 j rs = some ds →
    vs.length = ds.length ∧ (∀ (m : Nat) v d, j + m ≠ k → vs[m]? = some v → ds[m]? = some d → Rp (Al B σ ρ) H v d) ∧ (∀ m, j + m = k → m < ds.length → ds[m]? = some d0)
  | j, [], [], ds, _, e => by
    cases e
    exact ⟨rfl, fun m v d _ h _ => by simp at h, fun m _ h => by simp at h⟩
  | j, v :: vs, r :: rs, ds, h, e => by
    unfold stoBut at e
    by_cases hj : j = k
    · rw [if_pos hj] at e
      split at e
      · rename_i ds' e'
        cases e
        obtain ⟨l, a, b⟩ := stoBut_get (j := j + 1) h.2 e'
        refine ⟨by simp [l], fun m v' d' hm h1 h2 => ?_, fun m hm hl => ?_⟩
        · cases m with
          | zero => exact absurd hj hm
          | succ m => exact a m v' d' (by omega) (by simpa using h1) (by simpa using h2)
        · cases m with
          | zero => rfl
          | succ m => omega
      · cases e
    · rw [if_neg hj] at e
      split at e
      · rename_i e0 ds' e1 e2
        cases e
        obtain ⟨l, a, b⟩ := stoBut_get (j := j + 1) h.2 e2
        refine ⟨by simp [l], fun m v' d' hm h1 h2 => ?_, fun m hm hl => ?_⟩
        · cases m with
          | zero =>
            simp at h1 h2
            subst h1 h2
            exact h.1.sto e1
          | succ m => exact a m v' d' (by omega) (by simpa using h1) (by simpa using h2)
        · cases m with
          | zero => exact absurd hm hj
          | succ m =>
            have := b m (by omega) (by simpa using hl)
            simpa using this
      · cases e
  | _, [], _ :: _, _, h, _ => h.elim
  | _, _ :: _, [], _, h, _ => h.elim
theorem CvAll.get {B : Av} {σ : L2.St} {H : Hp} {ρ : DEnv} : ∀ {vs : List V} {rs : List Rs} {k : Nat} {r : Rs}, CvAll B σ H ρ vs rs → rs[k]? = some r → ∃ v, vs[k]? = some v ∧ Cv B σ H ρ v r
  | [], [], _, _, _, e => by simp at e
  | v :: vs, r :: rs, 0, _, h, e => by simp at e; subst e; exact ⟨v, rfl, h.1⟩
  | v :: vs, r :: rs, k + 1, _, h, e => by simpa using CvAll.get h.2 (by simpa using e)
  | [], _ :: _, _, _, h, _ => h.elim
  | _ :: _, [], _, _, h, _ => h.elim
/-- behind a call that changed the object of slot i alone -/
theorem Rel.called {H0 : Fx} {B B' : Av} {σ : L2.St} {H H' : Hp} {ρ : DEnv} {i : Nat} {s : Sl} {p : Addr} {d' : PyData} (R : Rel H0 B σ H ρ) (e : ρ[i]? = some (some s)) (hs : s.own = true) (hp : σ[i]? = some (some (V.ref p)))
    (keep : ∀ b o, H b = some o → b ≠ p → H' b = some o) (dom : ∀ b, H' b = none → H b = none) (tup : ∀ b xs, H b = some (.tup xs) → H' b = some (.tup xs))
    (hb : ∀ q, B q → B' q) (hb' : ∀ q, B' q → B q ∨ H q = none) (hbd : ∀ q, B' q → H' q ≠ none)
    (ho : Hold (Al B' σ ρ) H' p d') : Rel H0 B' σ H' (ρ.set i (some (s.with d'))) ∧ Stp σ ρ H σ (ρ.set i (some (s.with d'))) H' := by
  have hO : Ow σ ρ p := ⟨i, s, e, hs, hp⟩
  have hw : (s.with d').own = true := by cases s <;> first | rfl | cases hs
  have hd : (s.with d').dat = d' := by cases s <;> rfl
  have hi : i < ρ.length := (List.getElem?_eq_some_iff.mp e).1
  have ow : ∀ q, Ow σ (ρ.set i (some (s.with d'))) q ↔ Ow σ ρ q := fun q => by
    constructor
    · rintro ⟨j, t, a, b, c⟩
      by_cases hj : i = j
      · subst hj
        rw [hp] at c
        cases c
        exact hO
      · rw [List.getElem?_set_ne hj] at a
        exact ⟨j, t, a, b, c⟩
    · rintro ⟨j, t, a, b, c⟩
      by_cases hj : i = j
      · subst hj
        exact ⟨i, _, List.getElem?_set_self hi, hw, c⟩
      · exact ⟨j, t, by rw [List.getElem?_set_ne hj]; exact a, b, c⟩
  have ps : Pass (Al B σ ρ) (Al B' σ (ρ.set i (some (s.with d')))) H H' := ⟨fun a xs n e => by
    have ne : a ≠ p := fun z => n (by rw [z]; exact .inr hO)
    refine ⟨fun q => ?_, keep a _ e ne⟩
    rcases q with q | q
    · rcases hb' a q with z | z
      · exact n (.inl z)
      · rw [z] at e; cases e
    · exact n (.inr ((ow a).mp q)), tup⟩
  have ps2 : Pass (Al B' σ ρ) (Al B' σ (ρ.set i (some (s.with d')))) H' H' := ⟨fun a xs n e => ⟨fun q => n (q.imp id (ow a).mp), e⟩, fun _ _ e => e⟩
  refine ⟨⟨by simp [R.len], fun j d a => ?_, fun j t a b => ?_, fun j d q a b => ?_, fun j j' t u q a b a' b' c c' => ?_, fun b h => R.dom b (dom b h), fun j d a => ?_, hbd⟩, ⟨fun b u h n => keep b u h fun z => n (by rw [z]; exact hO), dom, tup, fun q z => .inl ((ow q).mp z)⟩⟩
  · by_cases hj : i = j
    · subst hj
      rw [List.getElem?_set_self hi] at a
      have a' : s.with d' = .fz d := by simpa using a
      rw [a'] at hw
      cases hw
    · rw [List.getElem?_set_ne hj] at a
      obtain ⟨v, c1, c2⟩ := R.fz j d a
      exact ⟨v, c1, Rp.pass ps _ _ c2⟩
  · by_cases hj : i = j
    · subst hj
      rw [List.getElem?_set_self hi] at a
      have a' : s.with d' = t := by simpa using a
      subst a'
      rw [hd]
      exact ⟨p, hp, ho.pass ps2 rfl⟩
    · rw [List.getElem?_set_ne hj] at a
      obtain ⟨q, c1, c2⟩ := R.own j t a b
      have ne : q ≠ p := fun z => by
        subst z
        exact hj (R.ne i j s t q e hs a b hp c1)
      obtain ⟨o, eo, _⟩ := c2.some
      exact ⟨q, c1, c2.pass ps ((keep q o eo ne).trans eo.symm)⟩
  · have key : ∃ d0, ρ[j]? = some (some (.ow d0)) := by
      by_cases hj : i = j
      · subst hj
        rw [List.getElem?_set_self hi] at a
        have a' : s.with d' = .ow d := by simpa using a
        cases s with
        | ow d0 => exact ⟨d0, e⟩
        | fz d0 => cases a'
        | io d0 => cases a'
      · rw [List.getElem?_set_ne hj] at a
        exact ⟨d, a⟩
    obtain ⟨d0, a0⟩ := key
    have m := R.mine j d0 q a0 b
    refine ⟨m.1, fun z => ?_⟩
    rcases hb' q z with z | z
    · exact m.2 z
    · exact R.adom q (.inr ⟨j, _, a0, rfl, b⟩) z
  · have back : ∀ (j : Nat) (t : Sl), (ρ.set i (some (s.with d')))[j]? = some (some t) → t.own = true → ∃ t', ρ[j]? = some (some t') ∧ t'.own = true := fun j t a b => by
      by_cases hj : i = j
      · subst hj
        exact ⟨s, e, hs⟩
      · rw [List.getElem?_set_ne hj] at a
        exact ⟨t, a, b⟩
    obtain ⟨t', x1, x2⟩ := back j t a b
    obtain ⟨u', y1, y2⟩ := back j' u a' b'
    exact R.ne j j' t' u' q x1 x2 y1 y2 c c'
  · by_cases hj : i = j
    · subst hj
      rw [List.getElem?_set_self hi] at a
      have a' : s.with d' = .io d := by simpa using a
      cases s with
      | io d0 => exact R.ioa i d0 e
      | fz d0 => cases a'
      | ow d0 => cases a'
    · rw [List.getElem?_set_ne hj] at a
      exact R.ioa j d a
theorem ioSlot_of {ρ : DEnv} {k i : Nat} {rs : List Rs} {s : Sl} (h : ioSlot ρ k rs = some (i, s)) : rs[k]? = some (.br i) ∧ ρ[i]? = some (some s) ∧ s.own = true := by
  unfold ioSlot at h
  cases hr : rs[k]? with
  | none => rw [hr] at h; cases h
  | some r =>
    rw [hr] at h
    cases r with
    | fz d => cases h
    | nw d => cases h
    | np _ _ => cases h
    | br j =>
      simp only at h
      cases hj : ρ[j]? with
      | none => rw [hj] at h; cases h
      | some o =>
        rw [hj] at h
        cases o with
        | none => cases h
        | some t =>
          simp only at h
          by_cases ho : t.own = true
          · rw [if_pos ho] at h
            cases h
            exact ⟨rfl, hj, ho⟩
          · rw [if_neg ho] at h
            cases h
theorem simE_callIO {ct : CT} {k : Nat} {E : XK} {ta : TA} {da : DA} (hio : ct.io = some k) (h : SimA ta da) : SimE (tCall (spD ct) [] E ta) (dCallIO ct k da) := fun H0 B σ H ρ Q QD R q kk =>
  h H0 B σ H ρ _ _ R q fun rs ρ1 vs H1 R1 S1 K1 o1 q1 => by
    split at q1
    · rename_i i s es
      obtain ⟨ds, e, hl, hk, q1⟩ := q1
      obtain ⟨hr, hi, hs⟩ : rs[k]? = some (.br i) ∧ ρ1[i]? = some (some s) ∧ s.own = true := ioSlot_of es
      obtain ⟨v0, hv0, cv0⟩ := o1.get hr
      obtain ⟨p, hp, hold⟩ := R1.own i s hi hs
      have ev : v0 = .ref p := by
        have := cv0.1
        rw [hp] at this
        cases this
        rfl
      subst ev
      obtain ⟨l, a, b⟩ := stoBut_get o1 e
      have hk' : k < ds.length := by rw [← l, o1.len]; exact hk
      have hO : Ow σ ρ1 p := ⟨i, s, hi, hs, hp⟩
      rw [List.append_nil]
      refine ⟨Al B σ ρ1, ds, p, _, hl, R1.adom, ⟨l, fun j v d hj hv hd => a j v d (by rw [hio] at hj; exact fun z => hj (by rw [← z, Nat.zero_add])) hv hd, fun k' hk2 => ?_⟩, q1, fun r out v H' z po => ?_⟩
      · rw [hio] at hk2
        cases hk2
        exact ⟨hv0, .inr hO, _, b k (by omega) hk', hold⟩
      · have hne : ct.io ≠ none := by rw [hio]; exact fun z => nomatch z
        have keep : ∀ b o, H1 b = some o → b ≠ p → H' b = some o := fun b o e n => po.keep b o e (.inr n)
        have ret := po.ret
        cases r with
        | br j => exact ret.elim
        | np _ _ => exact (hne ret.1).elim
        | fz d =>
          obtain ⟨r1, r2⟩ := ret
          obtain ⟨R2, S2⟩ := R1.called (B' := B) hi hs hp keep po.dom po.tup (fun _ z => z) (fun _ z => .inl z) (fun q z => by
            intro z2
            exact R1.bdom q z (po.dom q z2)) (r2 hne)
          refine kk (.fz d) _ v H' R2 (S1.trans S2) (K1.trans Keep.set) ?_ z
          exact Rp.pass ⟨fun a xs n e => ⟨fun q => n (q.imp id fun z => by
            obtain ⟨j, t, x1, x2, x3⟩ := z
            by_cases hj : i = j
            · subst hj
              exact ⟨i, s, hi, hs, x3⟩
            · rw [List.getElem?_set_ne hj] at x1
              exact ⟨j, t, x1, x2, x3⟩), e⟩, fun _ _ e => e⟩ _ _ r1
        | nw d =>
          obtain ⟨q, r0, r1, r2, r3, r4⟩ := ret
          have eqv : ∀ {x : PyData} {y : Addr}, Hold (bor (Al B σ ρ1) q) H' y x → Hold (Al (bor B q) σ ρ1) H' y x := fun hh => hh.pass ⟨fun a xs n e => ⟨fun z => n (by
            rcases z with (z | z) | z
            · exact .inl (.inl z)
            · exact .inr z
            · exact .inl (.inr z)), e⟩, fun _ _ e => e⟩ rfl
          obtain ⟨R2, S2⟩ := R1.called (B' := bor B q) hi hs hp keep po.dom po.tup (fun _ z => .inl z) (fun _ z => z.imp id fun z => by rw [z]; exact r1) (fun b z => by
            rcases z with z | z
            · intro z2
              exact R1.bdom b z (po.dom b z2)
            · rw [z]; exact r2) (eqv (r4 hne))
          have ow2 : ∀ b, Ow σ (ρ1.set i (some (s.with out))) b → Ow σ ρ1 b := fun b z => by
            obtain ⟨j, t, x1, x2, x3⟩ := z
            by_cases hj : i = j
            · subst hj
              exact ⟨i, s, hi, hs, x3⟩
            · rw [List.getElem?_set_ne hj] at x1
              exact ⟨j, t, x1, x2, x3⟩
          refine kk (.nw d) _ v H' (R2.anti fun b z => .inl z) (S1.trans S2) (K1.trans Keep.set) ⟨q, r0, S1.dom q r1, fun z => R1.bdom q z r1, fun z => R1.adom q (.inr (ow2 q z)) r1, ?_, R2⟩ z
          exact (eqv r3).pass ⟨fun a xs n e => ⟨fun z => n (z.imp id (ow2 a)), e⟩, fun _ _ e => e⟩ rfl
    · exact q1.elim

/-! ### the rule for a def -/
/-- the parameters' slots at the entry -/
def slotsOf (io : Option Nat) : Nat → List PyData → DEnv
  | _, [] => []
  | j, d :: ds => some (if io = some j then .io d else .fz d) :: slotsOf io (j + 1) ds
def startD (N : Nat) (io : Option Nat) (ds : List PyData) : DEnv := slotsOf io 0 ds ++ List.replicate (N - ds.length) none
/-- what the changed parameter holds -/
def outOf (io : Option Nat) (ρ : DEnv) (Z : PyData → Prop) : Prop := match io with
  | none => Z .none
  | some k => match ρ[k]? with
    | some (some (.io d)) => Z d
    | _ => False
def retD (ρ : DEnv) (r : Rs) (Z : Rs → Prop) : Prop := match r with
  | .fz d => Z (.fz d)
  | .nw d => Z (.nw d)
  | .np ds rest => Z (.np ds rest)
  | .br i => match ρ[i]? with
    | some (some (.ow d)) => Z (.nw d)
    | _ => False
def endsD (io : Option Nat) (Z : Rs → PyData → Prop) : DEnds where
  nx := fun ρ => outOf io ρ fun out => Z (.fz .none) out
  rt := fun r ρ => match r with
    | .np ds rest => io = none ∧ Z (.np ds rest) .none
    | r => retD ρ r fun r' => outOf io ρ fun out => Z r' out
theorem slotsOf_len (io : Option Nat) : ∀ (j : Nat) (ds : List PyData), (slotsOf io j ds).length = ds.length
  | _, [] => rfl
  | j, d :: ds => by simp [slotsOf, slotsOf_len io (j + 1) ds]
theorem slotsOf_get (io : Option Nat) : ∀ (j : Nat) (ds : List PyData) (m : Nat), (slotsOf io j ds)[m]? = ds[m]?.map fun d => some (if io = some (j + m) then .io d else .fz d)
  | _, [], m => by simp [slotsOf]
  | j, d :: ds, 0 => by simp [slotsOf]
  | j, d :: ds, m + 1 => by
    have := slotsOf_get io (j + 1) ds m
    simp only [slotsOf, List.getElem?_cons_succ]
    rw [this]
    simp only [show j + 1 + m = j + (m + 1) by omega]
theorem startD_get {N : Nat} {io : Option Nat} {ds : List PyData} {m : Nat} {s : Sl} (h : (startD N io ds)[m]? = some (some s)) : ∃ d, ds[m]? = some d ∧ s = if io = some m then .io d else .fz d := by
  unfold startD at h
  by_cases hm : m < ds.length
  · rw [List.getElem?_append_left (by rw [slotsOf_len]; exact hm), slotsOf_get] at h
    rw [List.getElem?_eq_getElem hm] at h
    simp at h
    exact ⟨ds[m], by simp [hm], h.symm⟩
  · rw [List.getElem?_append_right (by rw [slotsOf_len]; omega), List.getElem?_replicate] at h
    split at h
    · cases h
    · cases h
theorem rel_start {N : Nat} {io : Option Nat} {B : Av} {H : Hp} {vs : List V} {ds : List PyData} {p : Addr} {Ns : List Str} (hN : Ns.length = N) (bd : ∀ b, B b → H b ≠ none) (a : ArgsOk io B H vs ds p) :
    Rel ⟨H, fun _ => .ref p⟩ B (L2.start Ns vs) H (startD N io ds) := by
  have get : ∀ {m : Nat} {v : V}, vs[m]? = some v → (L2.start Ns vs)[m]? = some (some v) := fun {m v} h => by
    unfold L2.start
    have hm := (List.getElem?_eq_some_iff.mp h).1
    rw [List.getElem?_append_left (by simpa using hm)]
    simp [h]
  have vget : ∀ {m : Nat} {d : PyData}, ds[m]? = some d → ∃ v, vs[m]? = some v := fun {m d} h => by
    have hm := (List.getElem?_eq_some_iff.mp h).1
    exact ⟨vs[m]'(by rw [a.len]; exact hm), by simp [a.len, hm]⟩
  have ow : ∀ q, Ow (L2.start Ns vs) (startD N io ds) q → B q ∧ q = p := fun q ⟨m, s, x1, x2, x3⟩ => by
    obtain ⟨d, e1, e2⟩ := startD_get x1
    by_cases hio : io = some m
    · obtain ⟨y1, y2, _⟩ := a.io m hio
      rw [get y1] at x3
      cases x3
      exact ⟨y2, rfl⟩
    · rw [if_neg hio] at e2
      subst e2
      cases x2
  have ps : Pass B (Al B (L2.start Ns vs) (startD N io ds)) H H := ⟨fun b xs n e => ⟨fun z => n (z.elim id fun z => (ow b z).1), e⟩, fun _ _ e => e⟩
  refine ⟨?_, fun m d x => ?_, fun m s x y => ?_, fun m d q x y => ?_, fun i j s t q x1 x2 y1 y2 z1 z2 => ?_, fun _ h => h, fun m d x => ?_, bd⟩
  · unfold L2.start startD
    simp [slotsOf_len, a.len, hN]
  · obtain ⟨d', e1, e2⟩ := startD_get x
    by_cases hio : io = some m
    · rw [if_pos hio] at e2
      cases e2
    · rw [if_neg hio] at e2
      cases e2
      obtain ⟨v, ev⟩ := vget e1
      exact ⟨v, get ev, Rp.pass ps _ _ (a.fz m v d hio ev e1)⟩
  · obtain ⟨d', e1, e2⟩ := startD_get x
    by_cases hio : io = some m
    · rw [if_pos hio] at e2
      subst e2
      obtain ⟨y1, y2, d2, y3, y4⟩ := a.io m hio
      rw [e1] at y3
      cases y3
      exact ⟨p, get y1, y4.pass ps rfl⟩
    · rw [if_neg hio] at e2
      subst e2
      cases y
  · obtain ⟨d', e1, e2⟩ := startD_get x
    split at e2 <;> cases e2
  · obtain ⟨d1, e1, e2⟩ := startD_get x1
    obtain ⟨d2, e3, e4⟩ := startD_get y1
    by_cases h1 : io = some i
    · by_cases h2 : io = some j
      · rw [h1] at h2
        exact Option.some.inj h2
      · rw [if_neg h2] at e4
        subst e4
        cases y2
    · rw [if_neg h1] at e2
      subst e2
      cases x2
  · obtain ⟨d', e1, e2⟩ := startD_get x
    by_cases hio : io = some m
    · obtain ⟨y1, _⟩ := a.io m hio
      exact get y1
    · rw [if_neg hio] at e2
      cases e2
/-- at the end of the run -/
theorem ends_ok {N : Nat} {io : Option Nat} {B : Av} {H : Hp} {vs : List V} {ds : List PyData} {p : Addr} {Ns : List Str} {Z : Rs → PyData → Prop} {Q : VK} (hN : Ns.length = N) (bd : ∀ b, B b → H b ≠ none) (a : ArgsOk io B H vs ds p)
    (k : ∀ r out v H', Z r out → PostOk io B H p H' v r out → Q v H') : EndsOk ⟨H, fun _ => .ref p⟩ B (L2.start Ns vs) H (startD N io ds) { nx := fun _ H' => Q .non H', rt := Q } (endsD io Z) := by
  have ow0 : ∀ q, Ow (L2.start Ns vs) (startD N io ds) q → io ≠ none ∧ q = p := fun q ⟨m, s, x1, x2, x3⟩ => by
    obtain ⟨d, e1, e2⟩ := startD_get x1
    by_cases hio : io = some m
    · obtain ⟨y1, y2, _⟩ := a.io m hio
      have hm := (List.getElem?_eq_some_iff.mp y1).1
      unfold L2.start at x3
      rw [List.getElem?_append_left (by simpa using hm)] at x3
      simp [y1] at x3
      exact ⟨by rw [hio]; exact fun z => (nomatch z), x3.symm⟩
    · rw [if_neg hio] at e2
      subst e2
      cases x2
  have post : ∀ {σ' ρ' H' v r out}, Stp (L2.start Ns vs) (startD N io ds) H σ' ρ' H' → RetOk io B H p H' v r out → PostOk io B H p H' v r out := fun {σ' ρ' H' v r out} S ro =>
    ⟨fun b o e n => S.keep b o e fun z => (n.elim (fun n => (ow0 b z).1 n) fun n => n (ow0 b z).2), S.dom, S.tup, ro⟩
  /- what the changed parameter holds, seen at the end -/
  have holds : ∀ {σ' : L2.St} {ρ' : DEnv} {H' : Hp} {B' : Av} {W : PyData → Prop}, Rel ⟨H, fun _ => .ref p⟩ B' σ' H' ρ' → outOf io ρ' W → ∃ out, W out ∧ (io ≠ none → Hold (Al B' σ' ρ') H' p out) := fun {σ' ρ' H' B' W} R q => by
    unfold outOf at q
    split at q
    · exact ⟨.none, q, fun z => absurd rfl z⟩
    · rename_i kk
      split at q
      · rename_i d e
        refine ⟨d, q, fun _ => ?_⟩
        obtain ⟨p', y1, y2⟩ := R.own kk _ e rfl
        rw [R.ioa kk d e] at y1
        cases y1
        exact y2
      · exact q.elim
  have drop : ∀ {B' : Av} {σ' ρ' H' x y}, Hold (Al B' σ' ρ') H' x y → Hold B' H' x y := fun h => h.pass ⟨fun a xs n e => ⟨fun z => n (.inl z), e⟩, fun _ _ e => e⟩ rfl
  have dropR : ∀ {B' : Av} {σ' ρ' H' x y}, Rp (Al B' σ' ρ') H' x y → Rp B' H' x y := fun h => Rp.pass ⟨fun a xs n e => ⟨fun z => n (.inl z), e⟩, fun _ _ e => e⟩ _ _ h
  refine ⟨fun σ' H' ρ' R S q => ?_, fun _ _ _ _ _ q => q.elim, fun _ _ _ _ _ q => q.elim, fun r ρ' v σ' H' R S o q => ?_⟩
  · obtain ⟨out, w, ho⟩ := holds R q
    exact k _ _ .non H' w (post S ⟨.non, fun z => drop (ho z)⟩)
  · cases r with
    | np ds rest =>
      obtain ⟨hio, q'⟩ : io = none ∧ Z (.np ds rest) .none := q
      obtain ⟨T, q0, xs, e, e2, h0, nb, no, hold, hr, Rb⟩ := o
      obtain ⟨ob, eob, _⟩ := hold.some
      exact k _ _ v H' q' (post S ⟨hio, T, q0, xs, e, e2, h0, by rw [eob]; exact fun z => (nomatch z), drop hold, RpAll.pass ⟨fun a xs n e => ⟨fun z => n (.inl z), e⟩, fun _ _ e => e⟩ _ _ hr⟩)
    | fz d =>
      have q' : retD ρ' (.fz d) fun r' => outOf io ρ' fun out => Z r' out := q
      obtain ⟨out, w, ho⟩ := holds (W := fun out => Z (.fz d) out) R q'
      exact k _ _ v H' w (post S ⟨dropR o, fun z => drop (ho z)⟩)
    | nw d =>
      have q' : retD ρ' (.nw d) fun r' => outOf io ρ' fun out => Z r' out := q
      obtain ⟨q0, e, h0, nb, no, hold, Rb⟩ := o
      obtain ⟨out, w, ho⟩ := holds (W := fun out => Z (.nw d) out) Rb q'
      obtain ⟨ob, eob, _⟩ := hold.some
      exact k _ _ v H' w (post S ⟨q0, e, h0, by rw [eob]; exact fun z => (nomatch z), drop hold, fun z => drop (ho z)⟩)
    | br i =>
      have q2 : match ρ'[i]? with | some (some (.ow d)) => (outOf io ρ' fun out => Z (.nw d) out) | _ => False := q
      split at q2
      · rename_i d e
        obtain ⟨q0, y1, y2⟩ := R.own i _ e rfl
        obtain ⟨m1, m2⟩ := R.mine i d q0 e y1
        have ev : v = .ref q0 := by
          have := o.1
          rw [y1] at this
          cases this
          rfl
        obtain ⟨out, w, ho⟩ := holds (W := fun out => Z (.nw d) out) R q2
        obtain ⟨ob, eob, _⟩ := y2.some
        have sub : ∀ {x y}, Hold (Al B σ' ρ') H' x y → Hold (bor B q0) H' x y := fun h => h.pass ⟨fun a xs n e2 => ⟨fun z => n (z.imp id fun z => ⟨i, _, e, rfl, by rw [z]; exact y1⟩), e2⟩, fun _ _ e => e⟩ rfl
        exact k _ _ v H' w (post S ⟨q0, ev, m1, by rw [eob]; exact fun z => (nomatch z), sub y2, fun z => sub (ho z)⟩)
      · exact q2.elim
section
variable {P : Program} {w : World} {K : PySem.W.Frag} {mg : Str → Option Value} {base : Heap}
/-- THE RULE: a def keeps its contract -/
theorem okD {x qual : Str} {st : Stmt} {f : Addr} {fd : FuncData} {Ns ps : List Str} {k : Nat} {ct : CT} {t : TS} {d : DS} (F : Fun K x qual st f fd) (S : FnScope Ns ps (defScope st)) (hn : ct.n = ps.length)
    (body : ∀ (cdv : Value) (A : Around) (outer : List Env) (s : Shared) (H : Hp) (E : XK), Room k (A.deeper (envOfC qual (defScope st) s.heap.objs.size f cdv)) → PSs (cxOf CX0 P w K mg base Ns qual (defScope st) f cdv A outer s H E).nox (defBody st) t)
    (sim : SimS t d) (law : ∀ ds Z, ds.length = ct.n → ct.pre ds Z → d (endsD ct.io Z) (startD Ns.length ct.io ds)) : FnOk P w K mg base CX0 (k + 1) f fd ps (spD ct) := by
  refine F.ok S (fun vs H Q E h => ?_) (fun cdv A outer s H vs Q E hr h => ?_)
  · obtain ⟨B, ds, p, Z, hl, _, a, _⟩ := h
    rw [a.len, hl, hn]
  · obtain ⟨B, ds, p, Z, hl, bd, a, pre, k⟩ := h
    exact ⟨t, body cdv A outer s H E hr, sim _ B _ H _ _ _ (rel_start rfl bd a) (law ds Z hl pre) (ends_ok rfl bd a k)⟩
end
/-- a result's first item, a new list -/
def dIx0 (de : DE) : DE := fun ρ Q => de ρ fun r ρ1 => match r with
  | .np ds _ => Q (.nw (.list ds)) ρ1
  | _ => False
theorem simE_ix0 {K : PySem.W.Frag} {te : TE} {de : DE} (h : SimE te de) : SimE (tOp (rIx K) te (tC (.int 0))) (dIx0 de) := fun H0 B σ H ρ Q QD R q k =>
  h H0 B σ H ρ _ _ R q fun r ρ1 v H1 R1 S1 K1 o1 q1 => by
    cases r with
    | np ds rest =>
      obtain ⟨T, p, xs, e, e2, h0, nb, no, ho, hr, Rb⟩ := o1
      exact .inr (.inl ⟨T, _, 0, .ref p, e, rfl, SqT.of e2, atI_nat (j := 0) rfl, k (.nw (.list ds)) ρ1 _ H1 R1 S1 K1 ⟨p, rfl, h0, nb, no, ho, Rb⟩ q1⟩)
    | _ => exact q1.elim
/-- return (x, ..): x a list of one's own -/
def dRetT (i : Nat) (da : DA) : DS := fun DD ρ => (∃ s, ρ[i]? = some (some s) ∧ s.own = true) ∧ da ρ fun rs ρ1 => ∃ rest, stoAll rs = some rest ∧ rest.length ≤ 1000 ∧ match ρ1[i]? with
  | some (some (.ow (.list ds))) => DD.rt (.np ds rest) (ρ1.set i none)
  | _ => False
theorem simS_retT {i : Nat} {ta : TA} {da : DA} (h : SimA ta da) : SimS (tRet (tTup (tCons (tVar i) ta))) (dRetT i da) := fun H0 B σ H ρ D DD R q E => by
  obtain ⟨⟨s, e1, e2⟩, q⟩ := q
  obtain ⟨p, h1, h2⟩ := R.own i s e1 e2
  refine ⟨_, h1, ?_⟩
  refine h H0 B σ H ρ _ _ R q fun rs ρ1 vs H1 R1 S1 K1 o1 q1 => ?_
  obtain ⟨rest, hs, hl, q1⟩ := q1
  have r := o1.sto hs
  split at q1
  · rename_i ds e
    obtain ⟨p', c1, c2⟩ := R1.own i _ e rfl
    rw [h1] at c1
    cases c1
    obtain ⟨m1, m2⟩ := R1.mine i _ p e h1
    refine ⟨sz5 (by simp [r.len]; omega), fun T hT => ?_⟩
    have hi : i < ρ1.length := (List.getElem?_eq_some_iff.mp e).1
    have sub : ∀ q, Ow σ (ρ1.set i none) q → Ow σ ρ1 q ∧ q ≠ p := fun q ⟨j, t, a, b, c⟩ => by
      by_cases hj : i = j
      · subst hj
        rw [List.getElem?_set_self hi] at a
        cases a
      · rw [List.getElem?_set_ne hj] at a
        refine ⟨⟨j, t, a, b, c⟩, fun z => ?_⟩
        subst z
        exact hj (R1.ne i j _ t q e rfl a b h1 c)
    have ps : Pass (Al B σ ρ1) (Al (bor B p) σ (ρ1.set i none)) H1 H1 := ⟨fun a xs n e' => ⟨fun z => n (by
      rcases z with (z | z) | z
      · exact .inl z
      · exact .inr ⟨i, _, e, rfl, by rw [z]; exact h1⟩
      · exact .inr (sub a z).1), e'⟩, fun _ _ e => e⟩
    obtain ⟨op, eop, ntp⟩ := c2.some
    have R2 : Rel H0 (bor B p) σ H1 (ρ1.set i none) := by
      refine ⟨by simp [R1.len], fun j d a => ?_, fun j t a b => ?_, fun j d q a b => ?_, fun j j' t u q a b a' b' c c' => ?_, R1.dom, fun j d a => ?_, fun b z => ?_⟩
      · by_cases hj : i = j
        · subst hj
          rw [List.getElem?_set_self hi] at a
          cases a
        · rw [List.getElem?_set_ne hj] at a
          obtain ⟨v, x1, x2⟩ := R1.fz j d a
          exact ⟨v, x1, Rp.pass ps _ _ x2⟩
      · by_cases hj : i = j
        · subst hj
          rw [List.getElem?_set_self hi] at a
          cases a
        · rw [List.getElem?_set_ne hj] at a
          obtain ⟨q, x1, x2⟩ := R1.own j t a b
          exact ⟨q, x1, x2.pass ps rfl⟩
      · by_cases hj : i = j
        · subst hj
          rw [List.getElem?_set_self hi] at a
          cases a
        · have a0 := a
          rw [List.getElem?_set_ne hj] at a
          have m := R1.mine j d q a b
          exact ⟨m.1, fun z => z.elim m.2 fun z => (sub q ⟨j, _, a0, rfl, b⟩).2 z⟩
      · by_cases hj : i = j
        · subst hj
          rw [List.getElem?_set_self hi] at a
          cases a
        · by_cases hj' : i = j'
          · subst hj'
            rw [List.getElem?_set_self hi] at a'
            cases a'
          · rw [List.getElem?_set_ne hj] at a
            rw [List.getElem?_set_ne hj'] at a'
            exact R1.ne j j' t u q a b a' b' c c'
      · by_cases hj : i = j
        · subst hj
          rw [List.getElem?_set_self hi] at a
          cases a
        · rw [List.getElem?_set_ne hj] at a
          exact R1.ioa j d a
      · rcases z with z | z
        · exact R1.bdom b z
        · rw [z, eop]
          exact fun z => nomatch z
    have g : Grow H1 (upd H1 T (.tup (.ref p :: vs))) := .new hT
    have R3 := R2.grow g
    have eT : p ≠ T := fun z => by rw [z, hT] at eop; cases eop
    refine E.rt (.np ds rest) _ _ σ _ (R3.anti fun b z => .inl z) ⟨fun b o x n => g.keep b o (S1.keep b o x n), fun b x => S1.dom b (g.dom b x), fun b xs x => g.keep b _ (S1.tup b xs x), fun q z => S1.own q (sub q z).1⟩ ⟨T, p, vs, rfl, upd_same, m1, m2, fun z => (sub p z).2 rfl, ?_, ?_, R3⟩ q1
    · exact (c2.pass ps rfl).pass (g.pass fun _ z => .inl z) ((g.keep p op eop).trans eop.symm)
    · exact RpAll.pass (g.pass fun _ z => .inl z) _ _ (RpAll.pass ps _ _ r)
  · exact q1.elim
end Dl
set_option Elab.async false
set_option linter.all false
set_option maxRecDepth 100000
set_option maxHeartbeats 4000000
/-! The data layer, part 7: built-ins. -/
namespace Dl
open PySem L2

theorem VwAll.intsL {A : Av} {H : Hp} {v : V} {ns : List Int} (h : Vw A H v (.list (ns.map PyData.int))) : ∃ p, v = .ref p ∧ H p = some (.lst (ns.map V.int)) := by
  obtain ⟨p, xs, e, e2, r⟩ := h.lst
  rw [r.ints] at e2
  exact ⟨p, e, e2⟩
/-- list(x) -/
def oListOf : OpN := fun ds Z => match ds with
  | [d] => ∃ xs, itemsD d = some xs ∧ Z (.nw (.list xs))
  | _ => False
def rListOf (K : PySem.W.Frag) : List V → Hp → VK → Prop := fun xs H Q => ∃ p ys, xs = [.ref p] ∧ (SqL K H p ys ∨ SqT K H p ys) ∧ ∀ l, H l = none → Q (.ref l) (upd H l (.lst ys))
theorem call_listOf {X : Cx} : CallR X (.type "list") (rListOf X.K) := call_list_of
theorem simRN_listOf {K : PySem.W.Frag} : SimRN (rListOf K) oListOf := fun A H xs ds Q Z ad hv q k => by
  unfold oListOf at q
  split at q
  · rename_i d
    obtain ⟨v, e, hv1⟩ := VwAll.one hv
    subst e
    obtain ⟨us, e1, q⟩ := q
    obtain ⟨p, ys, e2, e3, e4⟩ := Vw.items (K := K) hv1 e1
    subst e2
    exact ⟨p, ys, rfl, e3, fun l hl => k (.nw (.list us)) _ _ (.new hl) ⟨l, rfl, hl, by rw [upd_same]; exact fun z => (nomatch z), ys, upd_same, RpAll.pass (pass_new hl) _ _ e4⟩ q⟩
  · exact q.elim
/-- tuple(x) -/
def oTupOf : OpN := fun ds Z => match ds with
  | [.list xs] => Z (.fz (.tuple xs))
  | [.tuple xs] => Z (.fz (.tuple xs))
  | _ => False
def rTupOf (K : PySem.W.Frag) : List V → Hp → VK → Prop := fun xs H Q => ∃ p ys, xs = [.ref p] ∧ ((SqL K H p ys ∧ ∀ l, H l = none → Q (.ref l) (upd H l (.tup ys))) ∨ (SqT K H p ys ∧ Q (.ref p) H))
theorem call_tupOf {X : Cx} : CallR X (.type "tuple") (rTupOf X.K) := call_tuple_of
theorem simRN_tupOf {K : PySem.W.Frag} : SimRN (rTupOf K) oTupOf := fun A H xs ds Q Z ad hv q k => by
  unfold oTupOf at q
  split at q
  · rename_i us
    obtain ⟨v, e, hv1⟩ := VwAll.one hv
    subst e
    obtain ⟨p, ys, e2, e3, e4⟩ := Vw.lst hv1
    subst e2
    refine ⟨p, ys, rfl, .inl ⟨SqL.of e3, fun l hl => k (.fz _) _ _ (.new hl) ?_ q⟩⟩
    exact .tup upd_same (RpAll.pass ((Grow.new hl).pass fun _ z => .inl z) _ _ e4)
  · rename_i us
    obtain ⟨v, e, hv1⟩ := VwAll.one hv
    subst e
    obtain ⟨p, ys, e2, e3, e4⟩ := Vw.tup hv1
    subst e2
    exact ⟨p, ys, rfl, .inr ⟨SqT.of e3, k (.fz _) _ _ .refl (.tup e3 e4) q⟩⟩
  · exact q.elim
/-- a list of ints -/
def intsOf : List PyData → Option (List Int)
  | [] => some []
  | .int i :: ds => match intsOf ds with
    | some ns => some (i :: ns)
    | none => none
  | _ => none
theorem intsOf_some : ∀ {ds : List PyData} {ns : List Int}, intsOf ds = some ns → ds = ns.map PyData.int
  | [], _, h => by cases h; rfl
  | .int i :: ds, ns, h => by
    unfold intsOf at h
    split at h
    · rename_i ms e
      cases h
      rw [intsOf_some e]
      rfl
    · cases h
  | .none :: _, _, h => by cases h
  | .bool _ :: _, _, h => by cases h
  | .str _ :: _, _, h => by cases h
  | .list _ :: _, _, h => by cases h
  | .tuple _ :: _, _, h => by cases h
  | .dict _ :: _, _, h => by cases h
theorem intsOf_map (ns : List Int) : intsOf (ns.map PyData.int) = some ns := by
  induction ns with
  | nil => rfl
  | cons n ns ih =>
    show (match intsOf (ns.map PyData.int) with | some ms => some (n :: ms) | none => none) = some (n :: ns)
    rw [ih]
def oSorted : OpN := fun ds Z => match ds with
  | [.list xs] => ∃ ns, intsOf xs = some ns ∧ ∀ ns' : List Int, ns'.Perm ns → ns'.Pairwise (· ≤ ·) → Z (.nw (.list (ns'.map PyData.int)))
  | _ => False
theorem simRN_sorted {K : PySem.W.Frag} : SimRN (rSortedI K) oSorted := fun A H xs ds Q Z ad hv q k => by
  unfold oSorted at q
  split at q
  · rename_i us
    obtain ⟨ns, e1, q⟩ := q
    have e1 := intsOf_some e1
    subst e1
    obtain ⟨v, e, hv1⟩ := VwAll.one hv
    subst e
    obtain ⟨p, e2, e3⟩ := VwAll.intsL hv1
    subst e2
    refine ⟨p, ns, rfl, SqL.of e3, fun ns' l hp hw hl => k (.nw (.list _)) _ _ (.new hl) ⟨l, rfl, hl, by rw [upd_same]; exact fun z => (nomatch z), _, upd_same, RpAll.ofInts ns'⟩ (q ns' hp hw)⟩
  · exact q.elim
/-- min, max of two ints -/
def oMin2 : OpN := fun ds Z => match ds with
  | [.int i, .int j] => Z (.fz (.int (if j < i then j else i)))
  | _ => False
def oMax2 : OpN := fun ds Z => match ds with
  | [.int i, .int j] => Z (.fz (.int (if j > i then j else i)))
  | _ => False
def rMin2 : List V → Hp → VK → Prop := fun xs H Q => ∃ i j, xs = [.int i, .int j] ∧ Q (.int (if j < i then j else i)) H
def rMax2 : List V → Hp → VK → Prop := fun xs H Q => ∃ i j, xs = [.int i, .int j] ∧ Q (.int (if j > i then j else i)) H
theorem simRN_min2 : SimRN rMin2 oMin2 := fun A H xs ds Q Z ad hv q k => by
  unfold oMin2 at q
  split at q
  · obtain ⟨v, w, e, h1, h2⟩ := VwAll.two hv
    subst e
    cases h1.int
    cases h2.int
    exact ⟨_, _, rfl, k (.fz _) _ _ .refl (.int _) q⟩
  · exact q.elim
theorem simRN_max2 : SimRN rMax2 oMax2 := fun A H xs ds Q Z ad hv q k => by
  unfold oMax2 at q
  split at q
  · obtain ⟨v, w, e, h1, h2⟩ := VwAll.two hv
    subst e
    cases h1.int
    cases h2.int
    exact ⟨_, _, rfl, k (.fz _) _ _ .refl (.int _) q⟩
  · exact q.elim
/-- sum, max, min of a list of ints -/
def oSum : OpN := fun ds Z => match ds with
  | [.list xs] => ∃ ns, intsOf xs = some ns ∧ Z (.fz (.int ns.sum))
  | _ => False
def oMax : OpN := fun ds Z => match ds with
  | [.list xs] => ∃ ns, intsOf xs = some ns ∧ 0 < ns.length ∧ ∀ m, m ∈ ns → (∀ y, y ∈ ns → y ≤ m) → Z (.fz (.int m))
  | _ => False
def oMin : OpN := fun ds Z => match ds with
  | [.list xs] => ∃ ns, intsOf xs = some ns ∧ 0 < ns.length ∧ ∀ m, m ∈ ns → (∀ y, y ∈ ns → m ≤ y) → Z (.fz (.int m))
  | _ => False
theorem simRN_sum {K : PySem.W.Frag} : SimRN (rSum K) oSum := fun A H xs ds Q Z ad hv q k => by
  unfold oSum at q
  split at q
  · obtain ⟨ns, e1, q⟩ := q
    have e1 := intsOf_some e1
    subst e1
    obtain ⟨v, e, hv1⟩ := VwAll.one hv
    subst e
    obtain ⟨p, e2, e3⟩ := VwAll.intsL hv1
    subst e2
    exact ⟨p, ns, rfl, SqL.of e3, k (.fz _) _ _ .refl (.int _) q⟩
  · exact q.elim
theorem simRN_max {K : PySem.W.Frag} : SimRN (rMax K) oMax := fun A H xs ds Q Z ad hv q k => by
  unfold oMax at q
  split at q
  · obtain ⟨ns, e1, hl, q⟩ := q
    have e1 := intsOf_some e1
    subst e1
    obtain ⟨v, e, hv1⟩ := VwAll.one hv
    subst e
    obtain ⟨p, e2, e3⟩ := VwAll.intsL hv1
    subst e2
    exact ⟨p, ns, rfl, SqL.of e3, hl, fun m h1 h2 => k (.fz _) _ _ .refl (.int _) (q m h1 h2)⟩
  · exact q.elim
theorem simRN_min {K : PySem.W.Frag} : SimRN (rMin K) oMin := fun A H xs ds Q Z ad hv q k => by
  unfold oMin at q
  split at q
  · obtain ⟨ns, e1, hl, q⟩ := q
    have e1 := intsOf_some e1
    subst e1
    obtain ⟨v, e, hv1⟩ := VwAll.one hv
    subst e
    obtain ⟨p, e2, e3⟩ := VwAll.intsL hv1
    subst e2
    exact ⟨p, ns, rfl, SqL.of e3, hl, fun m h1 h2 => k (.fz _) _ _ .refl (.int _) (q m h1 h2)⟩
  · exact q.elim
/-- all of a list of truth values -/
def blsOf : List PyData → Option (List Bool)
  | [] => some []
  | .bool i :: ds => match blsOf ds with
    | some ns => some (i :: ns)
    | none => none
  | _ => none
theorem blsOf_some : ∀ {ds : List PyData} {ns : List Bool}, blsOf ds = some ns → ds = ns.map PyData.bool
  | [], _, h => by cases h; rfl
  | .bool i :: ds, ns, h => by
    unfold blsOf at h
    split at h
    · rename_i ms e
      cases h
      rw [blsOf_some e]
      rfl
    · cases h
  | .none :: _, _, h => by cases h
  | .int _ :: _, _, h => by cases h
  | .str _ :: _, _, h => by cases h
  | .list _ :: _, _, h => by cases h
  | .tuple _ :: _, _, h => by cases h
  | .dict _ :: _, _, h => by cases h
theorem blsOf_map (ns : List Bool) : blsOf (ns.map PyData.bool) = some ns := by
  induction ns with
  | nil => rfl
  | cons n ns ih =>
    show (match blsOf (ns.map PyData.bool) with | some ms => some (n :: ms) | none => none) = some (n :: ns)
    rw [ih]
def oAll : OpN := fun ds Z => match ds with
  | [.list xs] => ∃ ns, blsOf xs = some ns ∧ Z (.fz (.bool (ns.all id)))
  | _ => False
theorem simRN_all {K : PySem.W.Frag} : SimRN (rAll K) oAll := fun A H xs ds Q Z ad hv q k => by
  unfold oAll at q
  split at q
  · obtain ⟨ns, e1, q⟩ := q
    have e1 := blsOf_some e1
    subst e1
    obtain ⟨v, e, hv1⟩ := VwAll.one hv
    subst e
    obtain ⟨p, xs, e2, e3, e4⟩ := hv1.lst
    subst e2
    rw [e4.bls] at e3
    exact ⟨p, ns, rfl, SqL.of e3, k (.fz _) _ _ .refl (.bl _) q⟩
  · exact q.elim
/-- int(x), of an int or a truth value -/
def oInt : OpN := fun ds Z => match ds with
  | [.int i] => Z (.fz (.int i))
  | [.bool b] => Z (.fz (.int (if b then 1 else 0)))
  | _ => False
def rInt1 : List V → Hp → VK → Prop := fun xs H Q => (∃ i, xs = [.int i] ∧ Q (.int i) H) ∨ ∃ k, xs = [.bl k] ∧ Q (.int (if k then 1 else 0)) H
theorem simRN_int : SimRN rInt1 oInt := fun A H xs ds Q Z ad hv q k => by
  unfold oInt at q
  split at q
  · obtain ⟨v, e, h1⟩ := VwAll.one hv
    subst e
    cases h1.int
    exact .inl ⟨_, rfl, k (.fz _) _ _ .refl (.int _) q⟩
  · obtain ⟨v, e, h1⟩ := VwAll.one hv
    subst e
    cases h1.bl
    exact .inr ⟨_, rfl, k (.fz _) _ _ .refl (.int _) q⟩
  · exact q.elim
/-- -x -/
def oNeg : Op1 := fun d Z => match d with
  | .int i => Z (.fz (.int (-i)))
  | _ => False
theorem simR1_neg : SimR1 (rU fun i => .int (-i)) oNeg := fun A H x d Q Z ad vx q k => by
  unfold oNeg at q
  split at q
  · cases vx.int
    exact ⟨_, rfl, k (.fz _) _ _ .refl (.int _) q⟩
  · exact q.elim

/-! ### isinstance -/
def tyName : PyData → String
  | .none => "NoneType"
  | .bool _ => "bool"
  | .int _ => "int"
  | .str _ => "str"
  | .list _ => "list"
  | .tuple _ => "tuple"
  | .dict _ => "dict"
theorem Vw.ty {K : PySem.W.Frag} {A : Av} {H : Hp} {v : V} {d : PyData} (h : Vw A H v d) : TyX K H v (.type (tyName d)) := by
  rcases h with h | ⟨p, e, h⟩
  · cases h with
    | non => exact .base .non
    | bl b => exact .base (.bl b)
    | int i => exact .base (.int i)
    | str x => exact .base (.str x)
    | lst _ e _ => exact .base (.lst e)
    | tup e _ => exact .base (.tup e)
  · subst e
    cases d with
    | list ds =>
      obtain ⟨xs, e, _⟩ := h
      exact .base (.lst e)
    | dict kvs =>
      rcases h with ⟨kv, e, _⟩ | ⟨kv, _, _, e, _⟩
      · exact .base (.dK e)
      · exact .base (.dT e)
    | _ => exact h.elim
/-- one of these types -/
def isAny (ts : List String) (d : PyData) : Bool := ts.any fun t => (kitB (tyName d) t).getD false
def kitsOk (ts : List String) : Bool := ["NoneType", "bool", "int", "str", "list", "tuple", "dict"].all fun a => ts.all fun t => (kitB a t).isSome
theorem tyName_mem (d : PyData) : tyName d ∈ ["NoneType", "bool", "int", "str", "list", "tuple", "dict"] := by
  cases d <;> simp [tyName]
theorem kit_one {K : PySem.W.Frag} {ts : List String} {t : String} (h : kitsOk ts = true) (m : t ∈ ts) (d : PyData) : PySem.W.kitOne K (.type (tyName d)) (.type t) = some ((kitB (tyName d) t).getD false) := by
  have h1 := List.all_eq_true.mp (List.all_eq_true.mp h _ (tyName_mem d)) t m
  refine kit_ty ?_
  cases e : kitB (tyName d) t with
  | none => rw [e] at h1; cases h1
  | some b => rfl
theorem kit_any {K : PySem.W.Frag} {ts : List String} (h : kitsOk ts = true) (d : PyData) : ∀ us : List String, (∀ u ∈ us, u ∈ ts) → PySem.W.kitAny K (.type (tyName d)) (us.map Value.type) = some (isAny us d)
  | [], _ => kitAny_nil
  | u :: us, m => by
    have h1 := kit_one (K := K) h (m u List.mem_cons_self) d
    have ih := kit_any (K := K) h d us fun x hx => m x (List.mem_cons_of_mem _ hx)
    cases e : (kitB (tyName d) u).getD false with
    | true =>
      refine kitAny_cons h1 (fun z => by rw [e] at z; cases z) fun _ => ?_
      unfold isAny
      rw [List.any_cons, e]
      rfl
    | false =>
      have e2 : isAny (u :: us) d = isAny us d := by
        unfold isAny
        rw [List.any_cons, e]
        rfl
      rw [e2]
      exact kitAny_cons h1 (fun _ => ih) fun z => by rw [e] at z; cases z
def dIsi (ts : List String) (de : DE) : DE := fun ρ Q => de ρ fun r ρ1 => Q (.fz (.bool (isAny ts (r.dat ρ1)))) ρ1
/-- isinstance(e, t) -/
theorem simE_isi1 {K : PySem.W.Frag} {t : String} {te : TE} {de : DE} (hk : kitsOk [t] = true) (h : SimE te de) : SimE (tCB (rIsi K) (tCons te (tCons (tC (.ty t)) tNil))) (dIsi [t] de) := fun H0 B σ H ρ Q QD R q k =>
  h H0 B σ H ρ _ _ R q fun r ρ1 v H1 R1 S1 K1 o1 q1 => by
    have hx := kit_one (K := K) hk (List.mem_cons_self (a := t) (l := [])) (r.dat ρ1)
    refine ⟨v, .ty t, .type (tyName (r.dat ρ1)), .type t, _, rfl, .ty t, (o1.cv.vw R1).ty, hx, k (.fz (.bool (isAny [t] (r.dat ρ1)))) ρ1 _ H1 R1 S1 K1 ?_ q1⟩
    have e : isAny [t] (r.dat ρ1) = (kitB (tyName (r.dat ρ1)) t).getD false := by simp [isAny]
    rw [e]
    exact .bl _
def tysA : List String → TA
  | [] => tNil
  | t :: ts => tCons (tC (.ty t)) (tysA ts)
theorem tysA_run : ∀ (ts : List String) (σ : L2.St) (H : Hp) (Q : List V → Hp → Prop), Q (ts.map V.ty) H → tysA ts σ H Q
  | [], _, _, _, h => h
  | t :: ts, σ, H, Q, h => tysA_run ts σ H _ h
theorem paired_ty : ∀ ts : List String, Paired ClsV (ts.map V.ty) (ts.map Value.type)
  | [] => .nil
  | t :: ts => .cons (.ty t) (paired_ty ts)
/-- isinstance(e, (t, u, ..)) -/
theorem simE_isiT {K : PySem.W.Frag} {ts : List String} {te : TE} {de : DE} (hk : kitsOk ts = true) (hl : ts.length ≤ 10) (h : SimE te de) : SimE (tCB (rIsiT K) (tCons te (tCons (tTup (tysA ts)) tNil))) (dIsi ts de) := fun H0 B σ H ρ Q QD R q k =>
  h H0 B σ H ρ _ _ R q fun r ρ1 v H1 R1 S1 K1 o1 q1 => by
    refine tysA_run ts _ _ _ ⟨sz5 (by simp; omega), fun p hp => ?_⟩
    have g : Grow H1 (upd H1 p (.tup (ts.map V.ty))) := .new hp
    have R2 := R1.grow g
    have vw : Vw (Al B σ ρ1) (upd H1 p (.tup (ts.map V.ty))) v (r.dat ρ1) := (o1.cv.step (g.stp (σ := σ) (ρ := ρ1)) .refl).vw R2
    exact ⟨v, p, ts.map V.ty, .type (tyName (r.dat ρ1)), ts.map Value.type, _, rfl, upd_same, paired_ty ts, vw.ty, kit_any hk _ ts (fun _ z => z), k (.fz (.bool (isAny ts (r.dat ρ1)))) ρ1 _ _ R2 (S1.trans g.stp) K1 (.bl _) q1⟩
end Dl
set_option Elab.async false
set_option linter.all false
set_option maxRecDepth 100000
set_option maxHeartbeats 4000000
/-! The data layer, part 8: short names, walks over a list or a tuple, the law's head. -/
namespace Dl
open PySem L2

abbrev oFdiv : Op2 := dI (fun _ j => 0 < j ∧ j < 2 ^ 60) fun i j => .int (i / j)
abbrev oMod : Op2 := dI (fun _ j => 0 < j) fun i j => .int (i % j)
abbrev oPow : Op2 := dI (fun i j => 0 ≤ j ∧ j ≤ 1000 ∧ i.natAbs < 2 ^ 60) fun i j => .int (i ^ j.toNat)
abbrev oLt : Op2 := cmpD fun i j => decide (i < j)
abbrev oLe : Op2 := cmpD fun i j => decide (i ≤ j)
abbrev oGt : Op2 := cmpD fun i j => decide (j < i)
abbrev oGe : Op2 := cmpD fun i j => decide (j ≤ i)
def dAppS (i : Nat) (de : DE) : DS := fun DD ρ => (∃ s ds, ρ[i]? = some (some s) ∧ s.own = true ∧ s.dat = .list ds) ∧ dApp i de DD ρ
def dSetS (i : Nat) (de dk : DE) : DS := fun DD ρ => (∃ s : Sl, ρ[i]? = some (some s) ∧ s.own = true) ∧ dSet i de dk DD ρ
def dRetN : DS := fun DD ρ => DD.rt (.fz .none) ρ
theorem simS_retN : SimS tRetN dRetN := fun H0 B σ H ρ D DD R q E => E.rt (.fz .none) ρ .non σ H R .refl .non q

/-! ### a list or a tuple, walked -/
def iSeq (K : PySem.W.Frag) (tl : TE) : TI := fun σ H R => tl σ H fun x H1 => ∃ a, x = .ref a ∧ (((∃ xs, SqL K H1 a xs) ∧ R (Itl K a) H1) ∨ ((∃ xs, SqT K H1 a xs) ∧ R (Itt K a) H1))
section
variable {X : Cx} {tg : Expr}
theorem pi_seq {l : Expr} {tl : TE} (hl : PE X l tl) : PI X tg l (iSeq X.K tl) := by
  refine ⟨fun pins s σ H R I h => ?_⟩
  refine thn (hl.run pins s σ H _ I h) fun v s1 ⟨x, H1, I1, r1, q1⟩ => ?_
  obtain ⟨a, e, q1⟩ := q1
  subst e
  cases r1
  rcases q1 with ⟨⟨xs, hq⟩, q⟩ | ⟨⟨xs, hq⟩, q⟩
  · obtain ⟨its, rv, p, hz⟩ := I1.list hq
    refine wpAny_pyIter_list p.isList ?_
    refine ⟨s1.heap.objs.size, [s1.heap.objs.size], _, _, H1, rfl, I1.kept (t' := s1.toks) fun b o e => Heap.get?_push_of_some _ e, turn_list a _, ⟨_, Heap.get?_push_size _ rfl, rfl, rfl⟩, fun b hb => ?_, q⟩
    have e : b = s1.heap.objs.size := by simpa using hb
    subst e
    exact I1.fpOk (Nat.le_refl _) (I1.hok.fresh (Nat.le_refl _))
  · obtain ⟨its, rv, p, hz⟩ := I1.tuple hq
    refine wpAny_pyIter_tuple (show s1.heap.IsTuple a its.toArray from p) ?_
    refine ⟨s1.heap.objs.size, [s1.heap.objs.size], _, _, H1, rfl, I1.kept (t' := s1.toks) fun b o e => Heap.get?_push_of_some _ e, turn_tuple a _, ⟨_, Heap.get?_push_size _ rfl, rfl, rfl⟩, fun b hb => ?_, q⟩
    have e : b = s1.heap.objs.size := by simpa using hb
    subst e
    exact I1.fpOk (Nat.le_refl _) (I1.hok.fresh (Nat.le_refl _))
end
def dSeqI (de : DE) : DI := fun ρ Q => de ρ fun r ρ1 => match r.sto with
  | some (.list ds) => Q ds ρ1
  | some (.tuple ds) => Q ds ρ1
  | _ => False
theorem walk_lst {K : PySem.W.Frag} {B : Av} {σ : L2.St} {ρ : DEnv} {H1 : Hp} {a : Addr} {xs : List V} {ds : List PyData} (na : ¬ Al B σ ρ a) (ea : H1 a = some (.lst xs)) (ra : RpAll (Al B σ ρ) H1 xs ds) : WalkD σ ρ (Al B σ ρ) H1 (Itl K a) ds := by
  refine ⟨fun i H' kp kt hi => ?_, fun H' kp kt => ?_, fun i H' A x Hx ps kp hi y => ?_⟩
  · have hi' : i < xs.length := by rw [ra.len]; exact hi
    exact ⟨xs, xs[i], SqL.of (kp a _ ea fun z => na (.inr z)), by simp [hi']⟩
  · exact ⟨xs, SqL.of (kp a _ ea fun z => na (.inr z)), by rw [ra.len]; exact Nat.le_refl _⟩
  · obtain ⟨e1, e2⟩ := y
    subst e1
    obtain ⟨v, c1, c2⟩ := ra.get (i := i) (d := ds[i]) (by simp [hi])
    have e3 := e2 xs (SqL.of (kp a _ ea fun z => na (.inr z)))
    rw [c1] at e3
    cases e3
    exact ⟨.refl, ds[i], by simp [hi], Rp.pass ps _ _ c2⟩
theorem walk_tpl {K : PySem.W.Frag} {B : Av} {σ : L2.St} {ρ : DEnv} {H1 : Hp} {a : Addr} {xs : List V} {ds : List PyData} (ea : H1 a = some (.tup xs)) (ra : RpAll (Al B σ ρ) H1 xs ds) : WalkD σ ρ (Al B σ ρ) H1 (Itt K a) ds := by
  refine ⟨fun i H' kp kt hi => ?_, fun H' kp kt => ?_, fun i H' A x Hx ps kp hi y => ?_⟩
  · have hi' : i < xs.length := by rw [ra.len]; exact hi
    exact ⟨xs, xs[i], SqT.of (kt a _ ea), by simp [hi']⟩
  · exact ⟨xs, SqT.of (kt a _ ea), by rw [ra.len]; exact Nat.le_refl _⟩
  · obtain ⟨e1, e2⟩ := y
    subst e1
    obtain ⟨v, c1, c2⟩ := ra.get (i := i) (d := ds[i]) (by simp [hi])
    have e3 := e2 xs (SqT.of (ps.t a _ ea))
    rw [c1] at e3
    cases e3
    exact ⟨.refl, ds[i], by simp [hi], Rp.pass ps _ _ c2⟩
theorem simI_seq {K : PySem.W.Frag} {te : TE} {de : DE} (h : SimE te de) : SimI (iSeq K te) (dSeqI de) := fun H0 B σ H ρ R QD Rl q k =>
  h H0 B σ H ρ _ _ Rl q fun r ρ1 v H1 R1 S1 K1 o1 q1 => by
    split at q1
    · rename_i ds e
      have rp := o1.cv.sto e
      cases rp with
      | @lst a xs _ na ea ra => exact ⟨a, rfl, .inl ⟨⟨xs, SqL.of ea⟩, k (Itl K a) ds ρ1 H1 R1 S1 K1 (walk_lst na ea ra) q1⟩⟩
    · rename_i ds e
      have rp := o1.cv.sto e
      cases rp with
      | @tup a xs _ ea ra => exact ⟨a, rfl, .inr ⟨⟨xs, SqT.of ea⟩, k (Itt K a) ds ρ1 H1 R1 S1 K1 (walk_tpl ea ra) q1⟩⟩
    · exact q1.elim

/-! ### the law's own head: tape = [list(script), 0, 0] -/
def tHead (K : PySem.W.Frag) : TS := tAsg (tLst (tCons (tCB (rListOf K) (tCons (tVar 0) tNil)) (tCons (tC (.int 0)) (tCons (tC (.int 0)) tNil)))) (gName 1)
def tapeD (ns : List Int) (i n : Int) : PyData := .list [.list (ns.map PyData.int), .int i, .int n]
def spLaw (K : PySem.W.Frag) : Sp := fun vs H Q _ => ∃ (a : Addr) (ns : List Int), vs = [.ref a] ∧ SqL K H a (ns.map V.int) ∧ ns.length ≤ 63 ∧ ∀ H', Q (.bl true) H'
section
variable {P : Program} {w : World} {K : PySem.W.Frag} {mg : Str → Option Value} {base : Heap}
/-- what is wanted at the law's end: True -/
def lawEnds : DEnds where
  nx := fun _ => False
  rt := fun r _ => r = .fz (.bool true)
def startL (N : Nat) (ns : List Int) : DEnv := none :: some (.ow (tapeD ns 0 0)) :: List.replicate (N - 2) none
theorem ok_lawD {st : Stmt} {f : Addr} {fd : FuncData} {Ns : List Str} {k : Nat} {t : TS} {d : DS} (F : Fun K "law" "law" st f fd) (S : FnScope Ns ["script"] (defScope st)) (hN : 2 ≤ Ns.length)
    (body : ∀ (cdv : Value) (A : Around) (outer : List Env) (s : Shared) (H : Hp) (E : XK), Room k (A.deeper (PyProof.Rows.envOfC "law" (defScope st) s.heap.objs.size f cdv)) → PSs (cxOf CX0 P w K mg base Ns "law" (defScope st) f cdv A outer s H E).nox (defBody st) (tSeq (tHead K) t))
    (sim : SimS t d) (law : ∀ ns : List Int, ns.length ≤ 63 → d lawEnds (startL Ns.length ns)) : FnOk P w K mg base CX0 (k + 1) f fd ["script"] (spLaw K) := by
  refine F.ok S (fun vs H Q E h => ?_) (fun cdv A outer s H vs Q E hr h => ?_)
  · obtain ⟨a, ns, rfl, _⟩ := h
    rfl
  · obtain ⟨a, ns, rfl, hS, hl, q⟩ := h
    refine ⟨_, body cdv A outer s H E hr, ?_⟩
    have e0 : L2.start Ns [V.ref a] = some (V.ref a) :: none :: List.replicate (Ns.length - 2) none := by
      unfold L2.start
      obtain ⟨m, hm⟩ : ∃ m, Ns.length = m + 2 := ⟨Ns.length - 2, by omega⟩
      rw [hm]
      rfl
    rw [e0]
    refine ⟨.ref a, rfl, a, _, rfl, .inl hS, fun l hl0 => ?_⟩
    refine ⟨(by show 3 ≤ sizeLine; decide), fun T hT => ?_⟩
    have elT : l ≠ T := fun z => by
      rw [← z, upd_same] at hT
      cases hT
    have hT0 : H T = none := by
      rw [upd_ne elT.symm] at hT
      exact hT
    have ok : Rel ⟨H, fun _ => .non⟩ (fun _ => False) (some (V.ref a) :: some (V.ref T) :: List.replicate (Ns.length - 2) none) (upd (upd H l (.lst (ns.map V.int))) T (.lst [.ref l, .int 0, .int 0])) (startL Ns.length ns) := by
      have one : ∀ {i : Nat} {s : Sl}, (startL Ns.length ns)[i]? = some (some s) → i = 1 ∧ s = .ow (tapeD ns 0 0) := fun {i s} h => by
        unfold startL at h
        match i, h with
        | 0, h => cases h
        | 1, h => cases h; exact ⟨rfl, rfl⟩
        | i + 2, h =>
          rw [List.getElem?_cons_succ, List.getElem?_cons_succ, List.getElem?_replicate] at h
          split at h <;> cases h
      have ow : ∀ p, Al (fun _ => False) (some (V.ref a) :: some (V.ref T) :: List.replicate (Ns.length - 2) none) (startL Ns.length ns) p → p = T := fun p z => by
        rcases z with z | ⟨i, s, x1, x2, x3⟩
        · exact z.elim
        · obtain ⟨e1, e2⟩ := one x1
          subst e1
          cases x3
          rfl
      refine ⟨by simp [startL], fun i d h => ?_, fun i s h hs => ?_, fun i d p h h' => ?_, fun i j s t p h1 _ h2 _ _ _ => (one h1).1.trans (one h2).1.symm, fun b h => ?_, fun i d h => ?_, fun b h => h.elim⟩
      · cases (one h).2
      · obtain ⟨e1, e2⟩ := one h
        subst e1 e2
        refine ⟨T, rfl, _, upd_same, .cons (.lst (fun z => elT (ow l z)) (by rw [upd_ne elT, upd_same]) (RpAll.ofInts ns)) (.cons (.int 0) (.cons (.int 0) .nil))⟩
      · obtain ⟨e1, e2⟩ := one h
        subst e1
        cases h'
        exact ⟨hT0, fun z => z⟩
      · by_cases e1 : b = T
        · rw [e1]; exact hT0
        · rw [upd_ne e1] at h
          by_cases e2 : b = l
          · rw [e2]; exact hl0
          · rw [upd_ne e2] at h
            exact h
      · cases (one h).2
    refine sim _ _ _ _ _ _ _ ok (law ns hl) ⟨fun _ _ _ _ _ z => z.elim, fun _ _ _ _ _ z => z.elim, fun _ _ _ _ _ z => z.elim, fun r ρ' v σ' H' R' S' o z => ?_⟩
    have z' : r = .fz (.bool true) := z
    subst z'
    have o' : Rp (Al (fun _ => False) σ' ρ') H' v (.bool true) := o
    cases o'
    exact q H'
end
end Dl
set_option Elab.async false
set_option linter.all false
set_option maxRecDepth 100000
/-! The data layer, part 9: equations for the unfolding of data readings. -/
namespace Dl
open PySem L2
section
variable {α : Type} {a b c d : α} {l : List α}
theorem atI_0 : atI (a :: l) 0 = some a := atI_nat (j := 0) rfl
theorem atI_1 : atI (a :: b :: l) 1 = some b := atI_nat (j := 1) rfl
theorem atI_2 : atI (a :: b :: c :: l) 2 = some c := atI_nat (j := 2) rfl
theorem atI_3 : atI (a :: b :: c :: d :: l) 3 = some d := atI_nat (j := 3) rfl
theorem atI_n {l : List α} {i : Nat} {x : α} (h : l[i]? = some x) : atI l (i : Int) = some x := atI_nat h
theorem atI_map {β : Type} {l : List α} {f : α → β} {i : Nat} {x : α} (h : l[i]? = some x) : atI (l.map f) (i : Int) = some (f x) := atI_nat (by simp [h])
theorem atI_back {l : List α} {x : α} : atI (l ++ [x]) (-1) = some x := atI_last l x
end
section
variable {Z : Rs → Prop} {ds es : List PyData} {i j : Int} {x y : PyData} {b : Bool}
theorem oIx_tup : oIx (.tuple ds) (.int i) Z = ∃ x, atI ds i = some x ∧ Z (.fz x) := rfl
theorem oIx_lst : oIx (.list ds) (.int i) Z = ∃ x, atI ds i = some x ∧ Z (.fz x) := rfl
theorem oLen_tup : oLen [.tuple ds] Z = Z (.fz (.int ds.length)) := propext ⟨fun ⟨_, e, q⟩ => by cases e; exact q, fun q => ⟨_, rfl, q⟩⟩
theorem oLen_lst : oLen [.list ds] Z = Z (.fz (.int ds.length)) := propext ⟨fun ⟨_, e, q⟩ => by cases e; exact q, fun q => ⟨_, rfl, q⟩⟩
theorem oListOf_tup : oListOf [.tuple ds] Z = Z (.nw (.list ds)) := propext ⟨fun ⟨_, e, q⟩ => by cases e; exact q, fun q => ⟨_, rfl, q⟩⟩
theorem oListOf_lst : oListOf [.list ds] Z = Z (.nw (.list ds)) := propext ⟨fun ⟨_, e, q⟩ => by cases e; exact q, fun q => ⟨_, rfl, q⟩⟩
theorem oTupOf_tup : oTupOf [.tuple ds] Z = Z (.fz (.tuple ds)) := rfl
theorem oTupOf_lst : oTupOf [.list ds] Z = Z (.fz (.tuple ds)) := rfl
theorem oAdd_int : oAdd (.int i) (.int j) Z = Z (.fz (.int (i + j))) := rfl
theorem oAdd_tup : oAdd (.tuple ds) (.tuple es) Z = (ds.length + es.length ≤ 100000 ∧ Z (.fz (.tuple (ds ++ es)))) := rfl
theorem oAdd_lst : oAdd (.list ds) (.list es) Z = (ds.length + es.length ≤ 100000 ∧ Z (.nw (.list (ds ++ es)))) := rfl
theorem oMul_int : oMul (.int i) (.int j) Z = ((i.natAbs < 2 ^ 64 ∨ j.natAbs < 2 ^ 64) ∧ Z (.fz (.int (i * j)))) := rfl
theorem oMul_tup : oMul (.tuple ds) (.int j) Z = (ds ≠ [] ∧ ds.length ≤ 1000 ∧ -1000 ≤ j ∧ j ≤ 1000 ∧ Z (.fz (.tuple (List.replicate j.toNat ds).flatten))) := rfl
theorem oMul_lst : oMul (.list ds) (.int j) Z = (ds.length ≤ 100 ∧ -1000 ≤ j ∧ j ≤ 1000 ∧ Z (.nw (.list (List.replicate j.toNat ds).flatten))) := rfl
theorem dI0_int {g : Int → Int → PyData} : dI0 g (.int i) (.int j) Z = Z (.fz (g i j)) := rfl
theorem dI_int {C : Int → Int → Prop} {g : Int → Int → PyData} : dI C g (.int i) (.int j) Z = (C i j ∧ Z (.fz (g i j))) := rfl
theorem oIs_non {n : Bool} : oIs n x .none Z = Z (.fz (.bool (n ^^ isN x))) := rfl
theorem oIs_bl {n c : Bool} : oIs n (.bool b) (.bool c) Z = Z (.fz (.bool (n ^^ decide (b = c)))) := rfl
theorem isN_non : isN .none = true := rfl
theorem isN_int : isN (.int i) = false := rfl
theorem isN_tup : isN (.tuple ds) = false := rfl
theorem isN_lst : isN (.list ds) = false := rfl
theorem isN_bl : isN (.bool b) = false := rfl
theorem oNeg_int : oNeg (.int i) Z = Z (.fz (.int (-i))) := rfl
theorem oMin2_int : oMin2 [.int i, .int j] Z = Z (.fz (.int (if j < i then j else i))) := rfl
theorem oMax2_int : oMax2 [.int i, .int j] Z = Z (.fz (.int (if j > i then j else i))) := rfl
theorem oInt_int : oInt [.int i] Z = Z (.fz (.int i)) := rfl
theorem oInt_bl : oInt [.bool b] Z = Z (.fz (.int (if b then 1 else 0))) := rfl
theorem oSl_tup {lo hi : Option Int} : oSl (.tuple ds) lo hi Z = Z (.fz (.tuple (cut ds lo hi))) := rfl
theorem oSl_lst {lo hi : Option Int} : oSl (.list ds) lo hi Z = Z (.nw (.list (cut ds lo hi))) := rfl
end
section
variable {Z : Rs → PyData → Prop} {ρ : DEnv} {d e : PyData} {ds rest : List PyData}
theorem ends_fz : (endsD none Z).rt (.fz d) ρ = Z (.fz d) .none := rfl
theorem ends_nw : (endsD none Z).rt (.nw d) ρ = Z (.nw d) .none := rfl
theorem ends_np : (endsD none Z).rt (.np ds rest) ρ = Z (.np ds rest) .none := propext ⟨fun z => z.2, fun z => ⟨rfl, z⟩⟩
theorem ends_nx : (endsD none Z).nx ρ = Z (.fz .none) .none := rfl
theorem ends_br {i : Nat} : (endsD none Z).rt (.br i) ρ = retD ρ (.br i) fun r => Z r .none := rfl
theorem retD_br {i : Nat} {W : Rs → Prop} : retD ρ (.br i) W = match ρ[i]? with
    | some (some (.ow d)) => W (.nw d)
    | _ => False := rfl
theorem ends_fzi {k : Nat} : (endsD (some k) Z).rt (.fz d) ρ = match ρ[k]? with
    | some (some (.io e)) => Z (.fz d) e
    | _ => False := rfl
theorem ends_nwi {k : Nat} : (endsD (some k) Z).rt (.nw d) ρ = match ρ[k]? with
    | some (some (.io e)) => Z (.nw d) e
    | _ => False := rfl
theorem ends_bri {k i : Nat} : (endsD (some k) Z).rt (.br i) ρ = retD ρ (.br i) fun r => match ρ[k]? with
    | some (some (.io e)) => Z r e
    | _ => False := rfl
end
section
variable {ρ : DEnv} {d : PyData} {ds rest : List PyData} {i : Nat}
theorem dat_fz : (Rs.fz d).dat ρ = d := rfl
theorem dat_nw : (Rs.nw d).dat ρ = d := rfl
theorem dat_br : (Rs.br i).dat ρ = datAt ρ i := rfl
theorem dat_np : (Rs.np ds rest).dat ρ = .tuple (.list ds :: rest) := rfl
theorem sto_fz : (Rs.fz d).sto = some d := rfl
theorem sto_nw : (Rs.nw (.list ds)).sto = some (.list ds) := rfl
theorem sto_np : (Rs.np ds rest).sto = some (.tuple (.list ds :: rest)) := rfl
theorem sto_br : (Rs.br i).sto = none := rfl
end
theorem whileD_succ {t : DT} {b : DS} {DD : DEnds} {n : Nat} {ρ : DEnv} : whileD t b DD (n + 1) ρ = t ρ fun c ρ1 => if c = true then b { DD with nx := whileD t b DD n, ct := whileD t b DD n, bk := DD.nx } ρ1 else DD.nx ρ1 := rfl
theorem loopD_nil {g : DG} {b : DS} {DD : DEnds} {ρ : DEnv} : loopD g b DD [] ρ = DD.nx ρ := rfl
theorem loopD_cons {g : DG} {b : DS} {DD : DEnds} {x : PyData} {xs : List PyData} {ρ : DEnv} : loopD g b DD (x :: xs) ρ = g x ρ fun ρ1 => b { DD with nx := loopD g b DD xs, ct := loopD g b DD xs, bk := DD.nx } ρ1 := rfl
theorem cut_to {α : Type} (l : List α) {n : Nat} (h : n ≤ l.length) : cut l none (some (n : Int)) = l.take n := by
  unfold cut
  rw [HT.sIx_none, HT.sIx_nat]
  simp [Nat.min_eq_left h]
theorem cut_from {α : Type} (l : List α) (n : Nat) : cut l (some (n : Int)) none = l.drop n := by
  unfold cut
  rw [HT.sIx_none, HT.sIx_nat]
  by_cases h : n ≤ l.length
  · rw [Nat.min_eq_left h]
    apply List.take_of_length_le
    simp
  · rw [Nat.min_eq_right (by omega), Nat.sub_self, List.take_zero, List.drop_eq_nil_of_le (by omega)]
theorem rep1 {α : Type} (x : α) : ∀ n : Nat, (List.replicate n [x]).flatten = List.replicate n x
  | 0 => rfl
  | n + 1 => by rw [List.replicate_succ, List.flatten_cons, rep1 x n]; rfl
/-- a statement, and what holds behind it -/
theorem dSeq_by {a b : DS} {DD : DEnds} {ρ : DEnv} (M : DEnv → Prop) (h1 : ∀ W : DEnv → Prop, (∀ ρ', M ρ' → W ρ') → a { DD with nx := W } ρ) (h2 : ∀ ρ', M ρ' → b DD ρ') : dSeq a b DD ρ := h1 _ h2
theorem ixN_31 : ixN 3 1 = some 1 := rfl
theorem ixN_32 : ixN 3 2 = some 2 := rfl
theorem ixN_n {n j : Nat} (h : j < n) : ixN n (j : Int) = some j := by
  unfold ixN
  rw [if_pos (by omega), if_pos (by omega)]
  simp
/-! ### loops -/
theorem dWhile_seq {T : DT} {B : DS} {DD : DEnds} {ρ : DEnv} (ρs : Nat → DEnv) (m : Nat) (h0 : ρ = ρs 0)
    (step : ∀ k, k < m → ∀ W : DEnv → Prop, W (ρs (k + 1)) → T (ρs k) fun c ρ1 => if c = true then B { DD with nx := W, ct := W, bk := DD.nx } ρ1 else DD.nx ρ1)
    (last : ∀ W : DEnv → Prop, T (ρs m) fun c ρ1 => if c = true then B { DD with nx := W, ct := W, bk := DD.nx } ρ1 else DD.nx ρ1) : dWhile T B DD ρ := by
  subst h0
  refine ⟨m + 1, ?_⟩
  have key : ∀ j k, k + j = m → whileD T B DD (j + 1) (ρs k) := by
    intro j
    induction j with
    | zero =>
      intro k e
      have e : k = m := by omega
      subst e
      exact last _
    | succ j ih =>
      intro k e
      exact step k (by omega) _ (ih (k + 1) (by omega))
  exact key m 0 (by omega)
theorem loopD_inv {g : DG} {b : DS} {DD : DEnds} {items : List PyData} {ρ : DEnv} (I : Nat → DEnv → Prop) (h0 : I 0 ρ)
    (step : ∀ (k : Nat) (x : PyData) (ρ : DEnv) (W : DEnv → Prop), items[k]? = some x → I k ρ → (∀ ρ', I (k + 1) ρ' → W ρ') → g x ρ fun ρ1 => b { DD with nx := W, ct := W, bk := DD.nx } ρ1)
    (last : ∀ ρ, I items.length ρ → DD.nx ρ) : loopD g b DD items ρ := by
  have key : ∀ (xs : List PyData) (k : Nat) (ρ : DEnv), items.drop k = xs → k ≤ items.length → I k ρ → loopD g b DD xs ρ := by
    intro xs
    induction xs with
    | nil =>
      intro k ρ e hk h
      have hk2 : k = items.length := by
        have := congrArg List.length e
        simp at this
        omega
      subst hk2
      exact last ρ h
    | cons x xs ih =>
      intro k ρ e hk h
      have hx : items[k]? = some x := by
        have := congrArg (fun l => l[0]?) e
        simpa using this
      have hk2 : k < items.length := (List.getElem?_eq_some_iff.mp hx).1
      have e2 : items.drop (k + 1) = xs := by
        have := congrArg (List.drop 1) e
        simpa [Nat.add_comm] using this
      exact step k x ρ _ hx h fun ρ' h' => ih (k + 1) ρ' e2 hk2 h'
  exact key items 0 ρ rfl (Nat.zero_le _) h0
theorem loopD_seq {g : DG} {b : DS} {DD : DEnds} {items : List PyData} {ρ : DEnv} (ρs : Nat → DEnv) (h0 : ρ = ρs 0)
    (step : ∀ (k : Nat) (x : PyData) (W : DEnv → Prop), items[k]? = some x → W (ρs (k + 1)) → g x (ρs k) fun ρ1 => b { DD with nx := W, ct := W, bk := DD.nx } ρ1)
    (last : DD.nx (ρs items.length)) : loopD g b DD items ρ := by
  subst h0
  refine loopD_inv (fun k ρ => ρ = ρs k) rfl (fun k x ρ W hx e hW => ?_) fun ρ e => ?_
  · subst e
    exact step k x W hx (hW _ rfl)
  · subst e
    exact last
/-- a comprehension, its own slots vs -/
theorem lcLoop_inv {vs : List Nat} {dg : DG} {dt : DT} {de : DE} {items : List PyData} {ρ : DEnv} {Q : List PyData → DEnv → Prop} (I : Nat → List PyData → DEnv → Prop) (h0 : I 0 [] ρ)
    (step : ∀ (k : Nat) (x : PyData) (acc : List PyData) (ρ : DEnv) (W : DEnv → Option PyData → Prop), items[k]? = some x → I k acc ρ → (∀ ρ' d, I (k + 1) (acc ++ [d]) ρ' → W ρ' (some d)) → (∀ ρ', I (k + 1) acc ρ' → W ρ' none) →
      dg x ρ fun ρ1 => dt ρ1 fun b ρ2 => if b = true then de ρ2 fun r ρ3 => ∃ d, r.sto = some d ∧ W (wipeD ρ3 vs) (some d) else W (wipeD ρ2 vs) none)
    (last : ∀ acc ρ, I items.length acc ρ → Q acc ρ) : lcLoop vs dg dt de items ρ Q := by
  have key : ∀ (xs : List PyData) (k : Nat) (acc : List PyData) (ρ : DEnv), items.drop k = xs → k ≤ items.length → I k acc ρ → lcLoop vs dg dt de xs ρ fun ds ρ' => Q (acc ++ ds) ρ' := by
    intro xs
    induction xs with
    | nil =>
      intro k acc ρ e hk h
      have hk2 : k = items.length := by
        have := congrArg List.length e
        simp at this
        omega
      subst hk2
      show Q (acc ++ []) ρ
      rw [List.append_nil]
      exact last acc ρ h
    | cons x xs ih =>
      intro k acc ρ e hk h
      have hx : items[k]? = some x := by
        have := congrArg (fun l => l[0]?) e
        simpa using this
      have hk2 : k < items.length := (List.getElem?_eq_some_iff.mp hx).1
      have e2 : items.drop (k + 1) = xs := by
        have := congrArg (List.drop 1) e
        simpa [Nat.add_comm] using this
      refine step k x acc ρ (fun ρ' o => match o with
        | some d => lcLoop vs dg dt de xs ρ' fun ds ρ4 => Q (acc ++ (d :: ds)) ρ4
        | none => lcLoop vs dg dt de xs ρ' fun ds ρ4 => Q (acc ++ ds) ρ4) hx h (fun ρ' d z => ?_) fun ρ' z => ih (k + 1) acc ρ' e2 hk2 z
      have := ih (k + 1) (acc ++ [d]) ρ' e2 hk2 z
      simpa using this
  have := key items 0 [] ρ rfl (Nat.zero_le _) h0
  simpa using this
/-- a comprehension whose turn depends on its item alone -/
theorem lcLoop_pure {vs : List Nat} {dg : DG} {dt : DT} {de : DE} {ρ : DEnv} (f : PyData → Option PyData) : ∀ {items : List PyData} {Q : List PyData → DEnv → Prop},
    (∀ x, x ∈ items → ∀ W : DEnv → Option PyData → Prop, W ρ (f x) → dg x ρ fun ρ1 => dt ρ1 fun b ρ2 => if b = true then de ρ2 fun r ρ3 => ∃ d, r.sto = some d ∧ W (wipeD ρ3 vs) (some d) else W (wipeD ρ2 vs) none) →
    Q (items.filterMap f) ρ → lcLoop vs dg dt de items ρ Q
  | [], Q, _, q => q
  | x :: xs, Q, h, q => by
    refine h x List.mem_cons_self (fun ρ' o => match o with
      | some d => lcLoop vs dg dt de xs ρ' fun ds ρ4 => Q (d :: ds) ρ4
      | none => lcLoop vs dg dt de xs ρ' Q) ?_
    rw [List.filterMap_cons] at q
    cases hf : f x with
    | some d =>
      rw [hf] at q
      exact lcLoop_pure f (fun y hy => h y (List.mem_cons_of_mem _ hy)) q
    | none =>
      rw [hf] at q
      exact lcLoop_pure f (fun y hy => h y (List.mem_cons_of_mem _ hy)) q
theorem lcLoop_map {vs : List Nat} {dg : DG} {de : DE} {ρ : DEnv} (f : PyData → PyData) {items : List PyData} {Q : List PyData → DEnv → Prop}
    (h : ∀ x, x ∈ items → ∀ W : DEnv → PyData → Prop, W ρ (f x) → dg x ρ fun ρ1 => de ρ1 fun r ρ3 => ∃ d, r.sto = some d ∧ W (wipeD ρ3 vs) d) (q : Q (items.map f) ρ) : lcLoop vs dg dYes de items ρ Q := by
  refine lcLoop_pure (fun x => some (f x)) (fun x hx W w => ?_) (by rw [List.filterMap_eq_map']; exact q)
  exact h x hx (fun ρ' d => W ρ' (some d)) w
end Dl
set_option Elab.async false
set_option linter.all false
set_option maxRecDepth 100000
/-! The data layer: what isinstance says, what == says. -/
namespace Dl
open PySem L2
section
variable {b : Bool} {i : Int} {x : Str} {ds : List PyData} {kvs : List (PyData × PyData)}
theorem tyn (ts : List String) (d : PyData) (n : String) (h : tyName d = n) : isAny ts d = ts.any fun t => (kitB n t).getD false := by
  subst h
  rfl
theorem isi_lt_lst : isAny ["list", "tuple"] (.list ds) = true := (tyn _ _ "list" rfl).trans (by decide +kernel)
theorem isi_lt_tup : isAny ["list", "tuple"] (.tuple ds) = true := (tyn _ _ "tuple" rfl).trans (by decide +kernel)
theorem isi_lt_non : isAny ["list", "tuple"] .none = false := (tyn _ _ "NoneType" rfl).trans (by decide +kernel)
theorem isi_lt_bl : isAny ["list", "tuple"] (.bool b) = false := (tyn _ _ "bool" rfl).trans (by decide +kernel)
theorem isi_lt_int : isAny ["list", "tuple"] (.int i) = false := (tyn _ _ "int" rfl).trans (by decide +kernel)
theorem isi_lt_str : isAny ["list", "tuple"] (.str x) = false := (tyn _ _ "str" rfl).trans (by decide +kernel)
theorem isi_int_non : isAny ["int"] .none = false := (tyn _ _ "NoneType" rfl).trans (by decide +kernel)
theorem isi_int_bl : isAny ["int"] (.bool b) = true := (tyn _ _ "bool" rfl).trans (by decide +kernel)
theorem isi_int_int : isAny ["int"] (.int i) = true := (tyn _ _ "int" rfl).trans (by decide +kernel)
theorem isi_int_str : isAny ["int"] (.str x) = false := (tyn _ _ "str" rfl).trans (by decide +kernel)
theorem isi_int_lst : isAny ["int"] (.list ds) = false := (tyn _ _ "list" rfl).trans (by decide +kernel)
theorem isi_int_tup : isAny ["int"] (.tuple ds) = false := (tyn _ _ "tuple" rfl).trans (by decide +kernel)
theorem isi_bl_non : isAny ["bool"] .none = false := (tyn _ _ "NoneType" rfl).trans (by decide +kernel)
theorem isi_bl_bl : isAny ["bool"] (.bool b) = true := (tyn _ _ "bool" rfl).trans (by decide +kernel)
theorem isi_bl_int : isAny ["bool"] (.int i) = false := (tyn _ _ "int" rfl).trans (by decide +kernel)
theorem isi_bl_str : isAny ["bool"] (.str x) = false := (tyn _ _ "str" rfl).trans (by decide +kernel)
theorem isi_bl_lst : isAny ["bool"] (.list ds) = false := (tyn _ _ "list" rfl).trans (by decide +kernel)
theorem isi_bl_tup : isAny ["bool"] (.tuple ds) = false := (tyn _ _ "tuple" rfl).trans (by decide +kernel)
theorem isi_tup_non : isAny ["tuple"] .none = false := (tyn _ _ "NoneType" rfl).trans (by decide +kernel)
theorem isi_tup_bl : isAny ["tuple"] (.bool b) = false := (tyn _ _ "bool" rfl).trans (by decide +kernel)
theorem isi_tup_int : isAny ["tuple"] (.int i) = false := (tyn _ _ "int" rfl).trans (by decide +kernel)
theorem isi_tup_str : isAny ["tuple"] (.str x) = false := (tyn _ _ "str" rfl).trans (by decide +kernel)
theorem isi_tup_lst : isAny ["tuple"] (.list ds) = false := (tyn _ _ "list" rfl).trans (by decide +kernel)
theorem isi_tup_tup : isAny ["tuple"] (.tuple ds) = true := (tyn _ _ "tuple" rfl).trans (by decide +kernel)
end
/-! ### == -/
theorem shp_int (i : Int) : SeqAt.shaped (.int i) = true := by simp [SeqAt.shaped, PyData.canLay0, PyData.depth]
theorem shp_bl (i : Bool) : SeqAt.shaped (.bool i) = true := by simp [SeqAt.shaped, PyData.canLay0, PyData.depth]
theorem shp_non : SeqAt.shaped .none = true := by simp [SeqAt.shaped, PyData.canLay0, PyData.depth]
/-- data of no more than n levels, without texts -/
def Flat : Nat → PyData → Prop
  | _, .none => True
  | _, .bool _ => True
  | _, .int _ => True
  | n + 1, .list ds => ∀ x ∈ ds, Flat n x
  | n + 1, .tuple ds => ∀ x ∈ ds, Flat n x
  | _, _ => False
mutual
theorem Flat.lay : ∀ (n : Nat) (d : PyData), Flat n d → d.canLay0 = true ∧ d.depth ≤ n
  | _, .none, _ => by simp [PyData.canLay0, PyData.depth]
  | _, .bool _, _ => by simp [PyData.canLay0, PyData.depth]
  | _, .int _, _ => by simp [PyData.canLay0, PyData.depth]
  | 0, .list ds, h => by simp [Flat] at h
  | 0, .tuple ds, h => by simp [Flat] at h
  | n + 1, .list ds, h => by
    have := Flat.layAll n ds (by simpa [Flat] using h)
    simp only [PyData.canLay0, PyData.depth]
    exact ⟨this.1, by omega⟩
  | n + 1, .tuple ds, h => by
    have := Flat.layAll n ds (by simpa [Flat] using h)
    simp only [PyData.canLay0, PyData.depth]
    exact ⟨this.1, by omega⟩
  | 0, .str _, h => by simp [Flat] at h
  | n + 1, .str _, h => by simp [Flat] at h
  | 0, .dict _, h => by simp [Flat] at h
  | n + 1, .dict _, h => by simp [Flat] at h
theorem Flat.layAll : ∀ (n : Nat) (ds : List PyData), (∀ x ∈ ds, Flat n x) → PyData.canLayAll0 ds = true ∧ PyData.depthAll ds ≤ n
  | _, [], _ => by simp [PyData.canLayAll0, PyData.depthAll]
  | n, d :: ds, h => by
    have h1 := Flat.lay n d (h d List.mem_cons_self)
    have h2 := Flat.layAll n ds fun x hx => h x (List.mem_cons_of_mem _ hx)
    simp only [PyData.canLayAll0, PyData.depthAll, h1.1, h2.1, Bool.and_self, true_and]
    omega
end
theorem Flat.shp {n : Nat} {d : PyData} (h : Flat n d) (hn : n ≤ 64) : SeqAt.shaped d = true := by
  obtain ⟨h1, h2⟩ := Flat.lay n d h
  show (d.canLay0 && decide (d.depth ≤ 64)) = true
  rw [h1, decide_eq_true (show d.depth ≤ 64 by omega)]
  rfl
mutual
theorem eqv_same : ∀ (n : Nat) (d : PyData), Flat n d → PyData.eqv d d = true
  | _, .none, _ => by simp [PyData.eqv]
  | _, .bool _, _ => by simp [PyData.eqv]
  | _, .int _, _ => by simp [PyData.eqv]
  | 0, .list ds, h => by simp [Flat] at h
  | 0, .tuple ds, h => by simp [Flat] at h
  | n + 1, .list ds, h => by
    have := eqvAll_same n ds (by simpa [Flat] using h)
    simpa [PyData.eqv] using this
  | n + 1, .tuple ds, h => by
    have := eqvAll_same n ds (by simpa [Flat] using h)
    simpa [PyData.eqv] using this
  | 0, .str _, h => by simp [Flat] at h
  | n + 1, .str _, h => by simp [Flat] at h
  | 0, .dict _, h => by simp [Flat] at h
  | n + 1, .dict _, h => by simp [Flat] at h
theorem eqvAll_same : ∀ (n : Nat) (ds : List PyData), (∀ x ∈ ds, Flat n x) → PyData.eqvAll ds ds = true
  | _, [], _ => by simp [PyData.eqvAll]
  | n, d :: ds, h => by
    have h1 := eqv_same n d (h d List.mem_cons_self)
    have h2 := eqvAll_same n ds fun x hx => h x (List.mem_cons_of_mem _ hx)
    simp only [PyData.eqvAll, h1, h2, Bool.and_self]
end
/-- a kind of data whose == is equality -/
structure EqK (P : PyData → Prop) : Prop where
  eq : ∀ d e, P d → P e → PyData.eqv d e = true → d = e
theorem eqvAll_eq {P : PyData → Prop} (k : ∀ d e, P d → P e → PyData.eqv d e = true → d = e) : ∀ (ds es : List PyData), (∀ x ∈ ds, P x) → (∀ x ∈ es, P x) → PyData.eqvAll ds es = true → ds = es
  | [], [], _, _, _ => rfl
  | [], _ :: _, _, _, h => by simp [PyData.eqvAll] at h
  | _ :: _, [], _, _, h => by simp [PyData.eqvAll] at h
  | d :: ds, e :: es, h1, h2, h => by
    simp only [PyData.eqvAll, Bool.and_eq_true] at h
    rw [k d e (h1 d List.mem_cons_self) (h2 e List.mem_cons_self) h.1, eqvAll_eq k ds es (fun x hx => h1 x (List.mem_cons_of_mem _ hx)) (fun x hx => h2 x (List.mem_cons_of_mem _ hx)) h.2]
/-- no truth values: == is equality -/
def Nob : Nat → PyData → Prop
  | _, .none => True
  | _, .int _ => True
  | n + 1, .list ds => ∀ x ∈ ds, Nob n x
  | n + 1, .tuple ds => ∀ x ∈ ds, Nob n x
  | _, _ => False
theorem Nob.flat : ∀ (n : Nat) (d : PyData), Nob n d → Flat n d
  | _, .none, _ => by simp [Flat]
  | _, .int _, _ => by simp [Flat]
  | 0, .list ds, h => by simp [Nob] at h
  | 0, .tuple ds, h => by simp [Nob] at h
  | n + 1, .list ds, h => by
    simp only [Flat]
    exact fun x hx => Nob.flat n x ((by simpa [Nob] using h : ∀ x ∈ ds, Nob n x) x hx)
  | n + 1, .tuple ds, h => by
    simp only [Flat]
    exact fun x hx => Nob.flat n x ((by simpa [Nob] using h : ∀ x ∈ ds, Nob n x) x hx)
  | 0, .str _, h => by simp [Nob] at h
  | n + 1, .str _, h => by simp [Nob] at h
  | 0, .dict _, h => by simp [Nob] at h
  | n + 1, .dict _, h => by simp [Nob] at h
  | 0, .bool _, h => by simp [Nob] at h
  | n + 1, .bool _, h => by simp [Nob] at h
theorem Nob.eq : ∀ (n : Nat) (d e : PyData), Nob n d → Nob n e → PyData.eqv d e = true → d = e
  | n, .none, e, _, _, h => by cases e <;> first | rfl | simp [PyData.eqv] at h
  | n, .int i, e, _, h2, h => by
    cases e with
    | int j => simp [PyData.eqv] at h; rw [h]
    | bool b => cases n <;> simp [Nob] at h2
    | _ => simp [PyData.eqv] at h
  | 0, .list ds, _, h, _, _ => by simp [Nob] at h
  | 0, .tuple ds, _, h, _, _ => by simp [Nob] at h
  | n + 1, .list ds, e, h1, h2, h => by
    cases e with
    | list es =>
      have := eqvAll_eq (P := Nob n) (Nob.eq n) ds es (by simpa [Nob] using h1) (by simpa [Nob] using h2) (by simpa [PyData.eqv] using h)
      rw [this]
    | _ => simp [PyData.eqv] at h
  | n + 1, .tuple ds, e, h1, h2, h => by
    cases e with
    | tuple es =>
      have := eqvAll_eq (P := Nob n) (Nob.eq n) ds es (by simpa [Nob] using h1) (by simpa [Nob] using h2) (by simpa [PyData.eqv] using h)
      rw [this]
    | _ => simp [PyData.eqv] at h
  | 0, .str _, _, h, _, _ => by simp [Nob] at h
  | n + 1, .str _, _, h, _, _ => by simp [Nob] at h
  | 0, .dict _, _, h, _, _ => by simp [Nob] at h
  | n + 1, .dict _, _, h, _, _ => by simp [Nob] at h
  | 0, .bool _, _, h, _, _ => by simp [Nob] at h
  | n + 1, .bool _, _, h, _, _ => by simp [Nob] at h
/-- == of such data, as a decision -/
theorem Nob.eqv {n : Nat} {d e : PyData} (h1 : Nob n d) (h2 : Nob n e) {p : Prop} [Decidable p] (hp : d = e ↔ p) : PyData.eqv d e = decide p := by
  by_cases h : p
  · rw [decide_eq_true h, hp.mpr h]
    exact eqv_same n e (h2.flat)
  · rw [decide_eq_false h]
    cases q : PyData.eqv d e with
    | false => rfl
    | true => exact (h (hp.mp (Nob.eq n d e h1 h2 q))).elim
section
variable {Z : Rs → Prop} {i j : Int} {a b : Bool} {d e : PyData}
theorem oEq_int : oEq (.int i) (.int j) Z = Z (.fz (.bool (decide (i = j)))) := by
  unfold oEq
  rw [shp_int, shp_int]
  simp [PyData.eqv, Bool.beq_eq_decide_eq]
theorem oNe_int : oNe (.int i) (.int j) Z = Z (.fz (.bool (!decide (i = j)))) := by
  unfold oNe
  rw [shp_int, shp_int]
  simp [PyData.eqv, Bool.beq_eq_decide_eq]
theorem oEq_bl : oEq (.bool a) (.bool b) Z = Z (.fz (.bool (decide (a = b)))) := by
  unfold oEq
  rw [shp_bl, shp_bl]
  simp [PyData.eqv, Bool.beq_eq_decide_eq]
theorem oNe_bl : oNe (.bool a) (.bool b) Z = Z (.fz (.bool (!decide (a = b)))) := by
  unfold oNe
  rw [shp_bl, shp_bl]
  simp [PyData.eqv, Bool.beq_eq_decide_eq]
theorem oEq_nob {n : Nat} (hn : n ≤ 64) (h1 : Nob n d) (h2 : Nob n e) {p : Prop} [Decidable p] (hp : d = e ↔ p) (q : Z (.fz (.bool (decide p)))) : oEq d e Z := by
  refine ⟨h1.flat.shp hn, h2.flat.shp hn, ?_⟩
  rw [Nob.eqv h1 h2 hp]
  exact q
theorem oNe_nob {n : Nat} (hn : n ≤ 64) (h1 : Nob n d) (h2 : Nob n e) {p : Prop} [Decidable p] (hp : d = e ↔ p) (q : Z (.fz (.bool (!decide p)))) : oNe d e Z := by
  refine ⟨h1.flat.shp hn, h2.flat.shp hn, ?_⟩
  rw [Nob.eqv h1 h2 hp]
  exact q
theorem oEq_same {n : Nat} (hn : n ≤ 64) (h1 : Flat n d) (q : Z (.fz (.bool true))) : oEq d d Z := by
  refine ⟨h1.shp hn, h1.shp hn, ?_⟩
  rw [eqv_same n d h1]
  exact q
theorem oNe_same {n : Nat} (hn : n ≤ 64) (h1 : Flat n d) (q : Z (.fz (.bool false))) : oNe d d Z := by
  refine ⟨h1.shp hn, h1.shp hn, ?_⟩
  rw [eqv_same n d h1]
  exact q
end
theorem mem_rngD {lo : Int} {n : Nat} {x : PyData} (h : x ∈ rngD lo n) : ∃ i : Nat, i < n ∧ x = .int (lo + i) := by
  unfold rngD at h
  obtain ⟨i, h1, h2⟩ := List.mem_map.mp h
  exact ⟨i, List.mem_range.mp h1, h2.symm⟩
theorem rngD_at {lo : Int} {n k : Nat} {x : PyData} (h : (rngD lo n)[k]? = some x) : k < n ∧ x = .int (lo + k) := by
  have hk : k < n := by
    have := (List.getElem?_eq_some_iff.mp h).1
    rw [rngD_len] at this
    exact this
  rw [rngD_get hk] at h
  exact ⟨hk, (Option.some.inj h).symm⟩
theorem fm_none {α β : Type} (l : List α) : l.filterMap (fun _ => (none : Option β)) = [] := by
  induction l with
  | nil => rfl
  | cons x l ih => rw [List.filterMap_cons]; exact ih
theorem oSorted_ints {Z : Rs → Prop} {ns : List Int} (h : ∀ ns' : List Int, ns'.Perm ns → ns'.Pairwise (· ≤ ·) → Z (.nw (.list (ns'.map PyData.int)))) : oSorted [.list (ns.map PyData.int)] Z := ⟨ns, intsOf_map ns, h⟩
theorem oSorted_nats {Z : Rs → Prop} {ps : List Nat} (h : ∀ qs : List Nat, qs.Perm ps → qs.Pairwise (· ≤ ·) → Z (.nw (.list (qs.map fun (p : Nat) => PyData.int (p : Int))))) : oSorted [.list (ps.map fun (p : Nat) => PyData.int (p : Int))] Z := by
  have e : (ps.map fun (p : Nat) => PyData.int (p : Int)) = (ps.map fun (p : Nat) => (p : Int)).map PyData.int := by rw [List.map_map]; rfl
  rw [e]
  refine oSorted_ints fun ns' hp hw => ?_
  have hnn : ∀ x ∈ ns', 0 ≤ x := fun x hx => by
    have := hp.mem_iff.mp hx
    obtain ⟨p, _, rfl⟩ := List.mem_map.mp this
    omega
  have e2 : ns' = (ns'.map Int.toNat).map fun (p : Nat) => (p : Int) := by
    rw [List.map_map]
    conv => lhs; rw [← List.map_id ns']
    apply List.map_congr_left
    intro x hx
    have := hnn x hx
    show x = ((x.toNat : Nat) : Int)
    omega
  have hp2 : (ns'.map Int.toNat).Perm ps := by
    have h1 := hp.map Int.toNat
    rw [List.map_map] at h1
    have h2 : (ps.map (Int.toNat ∘ fun (p : Nat) => (p : Int))) = ps := by
      conv => rhs; rw [← List.map_id ps]
      apply List.map_congr_left
      intro x _
      show Int.toNat (x : Int) = x
      omega
    rw [h2] at h1
    exact h1
  have hw2 : (ns'.map Int.toNat).Pairwise (· ≤ ·) := by
    rw [List.pairwise_map]
    exact hw.imp_of_mem fun {a b} ha hb hab => by
      have h1 := hnn a ha
      have h2 := hnn b hb
      show a.toNat ≤ b.toNat
      omega
  have q := h _ hp2 hw2
  have e3 : (ns'.map PyData.int) = (ns'.map Int.toNat).map fun (p : Nat) => PyData.int (p : Int) := by
    conv => lhs; rw [e2]
    rw [List.map_map]
    rfl
  rw [e3]
  exact q
end Dl
namespace Dl
open PySem L2
theorem fnOk_no {P : Program} {w : World} {K : PySem.W.Frag} {mg : Str → Option Value} {base : Heap} {CX : CXT} {k : Nat} {f : Addr} {fd : FuncData} {ps : List Str} {ct : CT} (h : ∀ ds Z, ct.pre ds Z → False) : FnOk P w K mg base CX k f fd ps (spD ct) :=
  ⟨fun vs H Q E h1 => by
    obtain ⟨B, ds, p, Z, _, _, _, pre, _⟩ := h1
    exact (h ds Z pre).elim, fun A outer s H args us vs Q E _ _ _ _ h1 => by
    obtain ⟨B, ds, p, Z, _, _, _, pre, _⟩ := h1
    exact (h ds Z pre).elim⟩
end Dl
set_option Elab.async false
set_option linter.all false
set_option maxRecDepth 100000
set_option maxHeartbeats 4000000
/-! The data layer, part 11: membership by equality. -/
namespace Dl
open PySem L2
def oInD (neg : Bool) : Op2 := fun d e Z => match e with
  | .list ds => SeqAt.shaped d = true ∧ SeqAt.shaped (.list ds) = true ∧ Z (.fz (.bool (neg ^^ ds.any fun z => PyData.eqv z d)))
  | _ => False
theorem un65 {k : Nat} {A : Around} (r : Room k A) : A.units + 65 < cLine := by
  have := r.un
  omega
theorem simR2_inD {K : PySem.W.Frag} : SimR2 (rInD K) (oInD false) := fun A H x y d e Q Z ad vx vy q k => by
  unfold oInD at q
  split at q
  · exact ⟨d, _, vx.dp (nodict_of_shaped q.1), vy.dp (nodict_of_shaped q.2.1), q.1, q.2.1, k (.fz _) _ H .refl (.bl _) (by simpa using q.2.2)⟩
  · exact q.elim
theorem simR2_notInD {K : PySem.W.Frag} : SimR2 (rNotInD K) (oInD true) := fun A H x y d e Q Z ad vx vy q k => by
  unfold oInD at q
  split at q
  · exact ⟨d, _, vx.dp (nodict_of_shaped q.1), vy.dp (nodict_of_shaped q.2.1), q.1, q.2.1, k (.fz _) _ H .refl (.bl _) (by simpa using q.2.2)⟩
  · exact q.elim
theorem oInD_nob {α : Type} {neg : Bool} {n : Nat} {f : α → PyData} {x : α} {xs : List α} {Z : Rs → Prop} [DecidableEq α] {p : Prop} [Decidable p] (hn : n + 1 ≤ 64) (hf : ∀ y, Nob n (f y)) (inj : ∀ y z, f y = f z ↔ y = z)
    (hp : x ∈ xs ↔ p) (q : Z (.fz (.bool (neg ^^ decide p)))) : oInD neg (f x) (.list (xs.map f)) Z := by
  refine ⟨(hf x).flat.shp (by omega), ?_, ?_⟩
  · have : Flat (n + 1) (.list (xs.map f)) := by
      simp only [Flat]
      intro y hy
      obtain ⟨z, _, rfl⟩ := List.mem_map.mp hy
      exact (hf z).flat
    exact this.shp hn
  · have e : ((xs.map f).any fun z => PyData.eqv z (f x)) = decide p := by
      rw [List.any_map]
      have h : ((fun z => PyData.eqv z (f x)) ∘ f) = fun y => decide (y = x) := by
        funext y
        exact (hf y).eqv (hf x) (inj y x)
      rw [h]
      by_cases m : x ∈ xs
      · rw [decide_eq_true (hp.mp m), List.any_eq_true]
        exact ⟨x, m, by simp⟩
      · rw [decide_eq_false (fun z => m (hp.mpr z)), List.any_eq_false]
        intro y hy
        have : y ≠ x := fun z => m (z ▸ hy)
        simpa using this
    show Z (.fz (.bool (neg ^^ (xs.map f).any fun z => PyData.eqv z (f x))))
    rw [e]
    exact q
end Dl
set_option Elab.async false
set_option linter.all false
set_option maxRecDepth 100000
set_option maxHeartbeats 4000000
/-! The data layer, part 12: enumerate and zip over lists and tuples alike; range with a step. -/
namespace Dl
open PySem L2 RZ PyProof.Rows
/-- b: a list; else a tuple -/
def Qi (b : Bool) (h : Heap) (it a : Addr) (i : Nat) : Prop := cond b (h.IsListIter it a i) (h.IsTupleIter it a i)
def Qh (b : Bool) (h : Heap) (a : Addr) (its : Array Value) : Prop := cond b (h.IsList a its) (h.IsTuple a its)
def Qs (b : Bool) (K : PySem.W.Frag) (H : Hp) (a : Addr) (xs : List V) : Prop := cond b (SqL K H a xs) (SqT K H a xs)
theorem Qi.at' {b : Bool} {h h' : Heap} {it a : Addr} {i : Nat} (q : Qi b h it a i) (k : ∀ o, h.get? it = some o → h'.get? it = some o) : Qi b h' it a i := by
  cases b
  · exact Heap.IsTupleIter.at q k
  · exact Heap.IsListIter.at q k
theorem Qh.at' {b : Bool} {h h' : Heap} {a : Addr} {its : Array Value} (q : Qh b h a its) (k : ∀ o, h.get? a = some o → h'.get? a = some o) : Qh b h' a its := by
  cases b
  · obtain ⟨o, e, r⟩ := q
    exact ⟨o, k o e, r⟩
  · exact Heap.IsList.at q k
theorem Qi.obj {b : Bool} {h : Heap} {it a : Addr} {i : Nat} (q : Qi b h it a i) : ∃ o, h.get? it = some o ∧ ∀ v, o.data ≠ .cell v := by
  cases b <;> (obtain ⟨o, e, _, d⟩ := q; exact ⟨o, e, fun v z => by rw [d] at z; cases z⟩)
theorem Qh.lt {b : Bool} {h : Heap} {a : Addr} {its : Array Value} (q : Qh b h a its) : a < h.objs.size := by
  cases b <;> (obtain ⟨o, e, _⟩ := q; exact Heap.lt_size e)
theorem draws_tup {prog : Program} {w : World} {A : Around} (hh : A.handled = none) (it l : Addr) (hne : l ≠ it) (items : Array Value) :
    Draws prog w A it [it, l] items.size (fun i v => items[i]? = some v) (fun i h => h.IsTupleIter it l i ∧ h.IsTuple l items) where
  live := fun _ _ st => let ⟨o, ho, _⟩ := st.1; ⟨o, ho⟩
  frame := fun _ _ _ st hk => ⟨st.1.at fun o e => hk it (by simp) o e, let ⟨o, e, r⟩ := st.2; ⟨o, hk l (by simp) o e, r⟩⟩
  item := fun i s Q E hi st hQ => by
    refine nextOf_tuple_item st.1 st.2 (x := items[i]) (by simp [hi]) fun h' hit' hs' => ?_
    exact hQ _ h' s.toks (by simp [hi]) ⟨hit', st.2.extBut hs'.extBut hne⟩ hs'
  done := fun s Q E st hE => nextOf_tuple_end hh st.1 st.2 (by simp) hE
theorem draws_of {prog : Program} {w : World} {A : Around} (b : Bool) (hh : A.handled = none) (it l : Addr) (hne : l ≠ it) (items : Array Value) :
    Draws prog w A it [it, l] items.size (fun i v => items[i]? = some v) (fun i h => Qi b h it l i ∧ Qh b h l items) := by
  cases b
  · exact draws_tup hh it l hne items
  · exact Draws.list hh it l hne items
theorem Qs.get {b : Bool} {X : Cx} {pins : List (Addr × Obj)} {σ : L2.St} {H : Hp} {s : Shared} {a : Addr} {xs : List V} (I : Inv X pins σ H s) (q : Qs b X.K H a xs) : ∃ its : List Value, List.length its = xs.length ∧ (∀ (i : Nat) (x : V), xs[i]? = some x → ∃ u, its[i]? = some u ∧ RelV x u) ∧ Qh b s.heap a its.toArray := by
  cases b
  · obtain ⟨its, rv, p, _⟩ := I.tuple q
    exact ⟨its, rv.length.symm, fun i x e => rv.get e, p⟩
  · obtain ⟨its, rv, p, _⟩ := I.list q
    exact ⟨its, rv.length.symm, fun i x e => rv.get e, p.isList⟩
theorem Qs.inj {b : Bool} {X : Cx} {pins : List (Addr × Obj)} {σ : L2.St} {H : Hp} {s : Shared} {a : Addr} {xs ys : List V} (I : Inv X pins σ H s) (q : Qs b X.K H a xs) (q2 : Qs b X.K H a ys) : xs = ys := by
  cases b
  · exact I.tuple_inj q q2
  · exact I.list_inj q q2

/-! ### zip -/
abbrev itObj (b : Bool) (l : Addr) : Obj := cond b { cls := .type "list_iterator", data := .fields #[.ref l, .int 0 0] } { cls := .type "tuple_iterator", data := .fields #[.ref l, .int 0 0] }
abbrev zM1 (b1 : Bool) (h : Heap) (l1 : Addr) : Heap := h.push (itObj b1 l1)
abbrev zM2 (b1 b2 : Bool) (h : Heap) (l1 l2 : Addr) : Heap := (zM1 b1 h l1).push (itObj b2 l2)
abbrev zM3 (b1 b2 : Bool) (h : Heap) (l1 l2 : Addr) : Heap := (zM2 b1 b2 h l1 l2).push { cls := .type "tuple", data := .seq #[.ref h.objs.size, .ref (zM1 b1 h l1).objs.size] }
abbrev zM4 (b1 b2 : Bool) (h : Heap) (l1 l2 : Addr) : Heap := (zM3 b1 b2 h l1 l2).push { cls := .type "tuple", data := .seq #[.none, .none] }
abbrev zM5 (b1 b2 : Bool) (h : Heap) (l1 l2 : Addr) : Heap := (zM4 b1 b2 h l1 l2).push { cls := .type "zip", data := .fields #[.none, .bool false, .bool false, .ref (zM2 b1 b2 h l1 l2).objs.size, .ref (zM3 b1 b2 h l1 l2).objs.size] }
theorem meets_zipM (b1 b2 : Bool) (l1 l2 : Addr) (xs ys : Array Value) :
    Meets (Builtin.«zip.__new__» ⟨[.type "zip", .ref l1, .ref l2], []⟩) (fun _ R s => Qh b1 s.heap l1 xs ∧ Qh b2 s.heap l2 ys ∧
      R (.ok (.ret (.ref (zM4 b1 b2 s.heap l1 l2).objs.size))) { s with heap := zM5 b1 b2 s.heap l1 l2 }) :=
  .of_wp fun prog w A R s h => by
    obtain ⟨hp, g, d, tk, os⟩ := s; obtain ⟨hl1, hl2, h⟩ := h
    have hsub := sub_zip
    cases b1 <;> cases b2
    · have hL1 : Heap.IsTuple (Shared.heap ⟨hp, g, d, tk, os⟩) l1 xs := hl1
      have hL2 : Heap.IsTuple (Shared.heap ⟨hp.push { cls := .type "tuple_iterator", data := .fields #[.ref l1, .int 0 0] }, g, d, tk, os⟩) l2 ys := Heap.IsTuple.push hl2 _
      wp_walk using wpAny_pyIter_tuple hL1, wpAny_pyIter_tuple hL2
      exact ⟨_, rfl, h⟩
    · have hL1 : Heap.IsTuple (Shared.heap ⟨hp, g, d, tk, os⟩) l1 xs := hl1
      have hL2 : Heap.IsList (Shared.heap ⟨hp.push { cls := .type "tuple_iterator", data := .fields #[.ref l1, .int 0 0] }, g, d, tk, os⟩) l2 ys := Heap.IsList.push hl2 _
      wp_walk using wpAny_pyIter_tuple hL1, wpAny_pyIter_list hL2
      exact ⟨_, rfl, h⟩
    · have hL1 : Heap.IsList (Shared.heap ⟨hp, g, d, tk, os⟩) l1 xs := hl1
      have hL2 : Heap.IsTuple (Shared.heap ⟨hp.push { cls := .type "list_iterator", data := .fields #[.ref l1, .int 0 0] }, g, d, tk, os⟩) l2 ys := Heap.IsTuple.push hl2 _
      wp_walk using wpAny_pyIter_list hL1, wpAny_pyIter_tuple hL2
      exact ⟨_, rfl, h⟩
    · have hL1 : Heap.IsList (Shared.heap ⟨hp, g, d, tk, os⟩) l1 xs := hl1
      have hL2 : Heap.IsList (Shared.heap ⟨hp.push { cls := .type "list_iterator", data := .fields #[.ref l1, .int 0 0] }, g, d, tk, os⟩) l2 ys := Heap.IsList.push hl2 _
      wp_walk using wpAny_pyIter_list hL1, wpAny_pyIter_list hL2
      exact ⟨_, rfl, h⟩
theorem Qi.new {b : Bool} {h : Heap} {it l : Addr} (e : h.get? it = some (itObj b l)) : Qi b h it l 0 := by
  cases b <;> exact ⟨_, e, rfl, rfl⟩
theorem call_zipM {prog : Program} {w : World} {A : Around} {E : Value → Shared → Prop} {s : Shared} (b1 b2 : Bool) {l1 l2 : Addr} {xs ys : Array Value} {Q : Value → Shared → Prop} (hl1 : Qh b1 s.heap l1 xs) (hl2 : Qh b2 s.heap l2 ys)
    (h : ∀ h', IsZip h' (s.heap.objs.size + 4) (s.heap.objs.size + 2) (s.heap.objs.size + 3) .none → IsPair h' (s.heap.objs.size + 2) (.ref s.heap.objs.size) (.ref (s.heap.objs.size + 1)) →
      IsPair h' (s.heap.objs.size + 3) .none .none → Qi b1 h' s.heap.objs.size l1 0 → Qi b2 h' (s.heap.objs.size + 1) l2 0 →
      (∀ c o, s.heap.get? c = some o → h'.get? c = some o) → Q (.ref (s.heap.objs.size + 4)) { s with heap := h' }) :
    wpAny (model prog w) A (call (.type "zip") [.ref l1, .ref l2]) Q E s := by
  refine callType_new F.called_zip (by decide) (F.typeCall_zip_2 _ _) (F.newCall_zip_2 _ _) (fun obj => F.args_object_init_3 obj _ _) F.entry_zip_new
    (meets_zipM b1 b2 l1 l2 xs ys) ⟨hl1, hl2, ?_⟩
  have z1 : (zM1 b1 s.heap l1).objs.size = s.heap.objs.size + 1 := Heap.size_push ..
  have z2 : (zM2 b1 b2 s.heap l1 l2).objs.size = s.heap.objs.size + 2 := by rw [Heap.size_push, z1]
  have z3 : (zM3 b1 b2 s.heap l1 l2).objs.size = s.heap.objs.size + 3 := by rw [Heap.size_push, z2]
  have z4 : (zM4 b1 b2 s.heap l1 l2).objs.size = s.heap.objs.size + 4 := by rw [Heap.size_push, z3]
  have g5 : (zM5 b1 b2 s.heap l1 l2).get? (zM4 b1 b2 s.heap l1 l2).objs.size = some _ := Heap.get?_push_size _ rfl
  have g4 : (zM5 b1 b2 s.heap l1 l2).get? (zM3 b1 b2 s.heap l1 l2).objs.size = some _ := Heap.get?_push_of_some _ (Heap.get?_push_size _ rfl)
  have g3 : (zM5 b1 b2 s.heap l1 l2).get? (zM2 b1 b2 s.heap l1 l2).objs.size = some _ := Heap.get?_push_of_some _ (Heap.get?_push_of_some _ (Heap.get?_push_size _ rfl))
  have g2 : (zM5 b1 b2 s.heap l1 l2).get? (zM1 b1 s.heap l1).objs.size = some (itObj b2 l2) := Heap.get?_push_of_some _ (Heap.get?_push_of_some _ (Heap.get?_push_of_some _ (Heap.get?_push_size _ (by cases b2 <;> rfl))))
  have g1 : (zM5 b1 b2 s.heap l1 l2).get? s.heap.objs.size = some (itObj b1 l1) := Heap.get?_push_of_some _ (Heap.get?_push_of_some _ (Heap.get?_push_of_some _ (Heap.get?_push_of_some _ (Heap.get?_push_size _ (by cases b1 <;> rfl)))))
  show _ ∧ _
  rw [z2, z3, z4] at g5
  rw [z1, z2] at g3
  rw [z3] at g4
  rw [z1] at g2
  rw [z4]
  exact ⟨⟨_, g5, rfl⟩, h _ g5 g3 g4 (Qi.new g1) (Qi.new g2) fun c o x =>
    Heap.get?_push_of_some _ (Heap.get?_push_of_some _ (Heap.get?_push_of_some _ (Heap.get?_push_of_some _ (Heap.get?_push_of_some _ x))))⟩
/-- the lists or tuples at a and b, the items in new pairs -/
def ItzM (b1 b2 : Bool) (K : PySem.W.Frag) (a b : Addr) : It :=
  ⟨fun i H => ∃ (xs ys : List V) (x y : V), Qs b1 K H a xs ∧ Qs b2 K H b ys ∧ xs[i]? = some x ∧ ys[i]? = some y,
    fun i H v H' => ∃ T x y, v = .ref T ∧ H T = none ∧ H' = upd H T (.tup [x, y]) ∧ (∀ xs, Qs b1 K H a xs → xs[i]? = some x) ∧ ∀ ys, Qs b2 K H b ys → ys[i]? = some y,
    fun i H => ∃ xs ys : List V, Qs b1 K H a xs ∧ Qs b2 K H b ys ∧ i ≤ xs.length ∧ i ≤ ys.length ∧ (xs.length ≤ i ∨ ys.length ≤ i)⟩
theorem sep_of {z TI TO i1 i2 a b : Addr} (D : ZipApart z TI TO i1 i2 a b) : ZipSep2 z TI TO i1 i2 [i1, a] [i2, b] where
  TIz := D.TIz
  TOz := D.TOz
  TITO := D.TITO
  TIi1 := D.TIi1
  mem1 := by simp
  zf1 := by simp [D.i1z.symm, D.l1z.symm]
  Tf1 := by simp [D.TOi1, D.l1TO.symm]
  TIi2 := D.TIi2
  mem2 := by simp
  zf2 := by simp [D.i2z.symm, D.l2z.symm]
  Tf2 := by simp [D.TOi2, D.l2TO.symm]
  sep1_2 := by simp [D.i12, D.l2i1.symm]
  sep2_1 := by simp [D.i12.symm, D.l1i2.symm]
theorem turn_zipM (b1 b2 : Bool) {P : Program} {w : World} {K : PySem.W.Frag} {elts : List Expr} {kk : Nat} {tpos : Pos} {a b z TI TO i1 i2 : Addr} (D : ZipApart z TI TO i1 i2 a b) :
    Turn P w K (.Tuple elts kk tpos) (ItzM b1 b2 K a b) [z, TI, TO, i1, i2] z (fun i h => IsZip h z TI TO .none ∧ IsPair h TI (.ref i1) (.ref i2) ∧ (∃ x y, IsPair h TO x y) ∧ Qi b1 h i1 a i ∧ Qi b2 h i2 b i) where
  mem := by simp
  obj := fun i h st c hc => by
    obtain ⟨hz, hTI, ⟨x, y, hTO⟩, q1, q2⟩ := st
    have e' : c = z ∨ c = TI ∨ c = TO ∨ c = i1 ∨ c = i2 := by simpa using hc
    rcases e' with q | q | q | q | q
    · rw [q]; exact ⟨_, hz, fun v q => nomatch q⟩
    · rw [q]; exact ⟨_, hTI, fun v q => nomatch q⟩
    · rw [q]; exact ⟨_, hTO, fun v q => nomatch q⟩
    · rw [q]; exact q1.obj
    · rw [q]; exact q2.obj
  keep := fun i h h' st k => by
    obtain ⟨hz, hTI, ⟨x, y, hTO⟩, h1, h2⟩ := st
    exact ⟨k z (by simp) _ hz, k TI (by simp) _ hTI, ⟨x, y, k TO (by simp) _ hTO⟩, h1.at' fun o q => k i1 (by simp) o q, h2.at' fun o q => k i2 (by simp) o q⟩
  item := by
    intro X hP hw hK hc i pins s σ H E I hf st hg
    subst hP hw hK
    obtain ⟨hz, hTI, ⟨x0, y0, hTO⟩, h1, h2⟩ := st
    obtain ⟨xs, ys, x, y, hqx, hqy, hx, hy⟩ := hg
    obtain ⟨its, n1, g1, p⟩ := hqx.get I
    obtain ⟨its2, n2, g2, p2⟩ := hqy.get I
    obtain ⟨u, hu, ru⟩ := g1 i x hx
    obtain ⟨u2, hu2, ru2⟩ := g2 i y hy
    have l1 : i < its.toArray.size := by have := (List.getElem?_eq_some_iff.mp hu).1; simpa using this
    have l2 : i < its2.toArray.size := by have := (List.getElem?_eq_some_iff.mp hu2).1; simpa using this
    have hzl : z < s.heap.objs.size := Heap.lt_size hz
    refine wpAny_pyNext_zipD2_item (sep_of D) (draws_of b1 (A := X.A.in1) (show X.A.in1.handled = none from I.ok.hd hc) i1 a D.l1i1 its.toArray) (draws_of b2 (A := X.A.in1) (show X.A.in1.handled = none from I.ok.hd hc) i2 b D.l2i2 its2.toArray) hz hTI hTO ⟨h1, p⟩ ⟨h2, p2⟩ l1 l2 fun v1 v2 h' tk e1 e2 z' TO' st1' st2' hT hsz hk => ?_
    have e1 : v1 = u := by
      have : its[i]? = some v1 := by simpa using e1
      rw [hu] at this
      exact (Option.some.inj this).symm
    have e2 : v2 = u2 := by
      have : its2[i]? = some v2 := by simpa using e2
      rw [hu2] at this
      exact (Option.some.inj this).symm
    subst e1 e2
    refine ⟨_, rfl, wpAny_letOwnedTupleGo_zip (s := { s with heap := h', toks := tk }) z' fun h'' z'' sb => ?_⟩
    have hT2 : h''.get? s.heap.objs.size = some { cls := .type "tuple", data := .seq #[v1, v2] } := (sb.2 _ (Nat.ne_of_gt hzl)).trans hT
    have new : ObjOk X.prog X.w (upd H s.heap.objs.size (.tup [x, y])) h'' s.heap.objs.size (.tup [x, y]) :=
      ⟨by show 2 ≤ sizeLine; decide, [v1, v2], .cons ru (.cons ru2 .nil), ⟨_, hT2, rfl, _, rfl⟩⟩
    have I1 : Inv X pins σ (upd H s.heap.objs.size (.tup [x, y])) { s with heap := h'', toks := tk } :=
      I.turnedNew (t' := tk) (ch := [z, TI, TO, i1, i2]) (fun c o hb q => (sb.2 c (fun q' => hb (by simp [q']))).trans (hk c o (fun q' => hb (by simp [q'])) (fun q' => hb (by simp [q'])) (fun q' => hb (by simp [q'])) (fun q' => hb (by simp [q'])) q)) hf (Nat.le_refl _) new
    refine ⟨.ref s.heap.objs.size, _, I1, rfl, ⟨_, x, y, rfl, I.hok.fresh (Nat.le_refl _), rfl, fun l hl => by rw [hl.inj I hqx]; exact hx, fun l hl => by rw [hl.inj I hqy]; exact hy⟩, ⟨z'', ?_, ⟨v1, v2, ?_⟩, ?_, ?_⟩, fun c hcm => ?_⟩
    · exact (sb.2 _ D.TIz).trans (hk _ _ D.TIz D.TITO D.TIi1 D.TIi2 hTI)
    · exact (sb.2 _ D.TOz).trans TO'
    · exact st1'.1.at' fun o q => (sb.2 _ D.i1z).trans q
    · exact st2'.1.at' fun o q => (sb.2 _ D.i2z).trans q
    · have hlt : c < s.heap.objs.size := by
        have e' : c = z ∨ c = TI ∨ c = TO ∨ c = i1 ∨ c = i2 := by simpa using hcm
        rcases e' with q | q | q | q | q
        · rw [q]; exact hzl
        · rw [q]; exact Heap.lt_size hTI
        · rw [q]; exact Heap.lt_size hTO
        · rw [q]; obtain ⟨_, e1, _⟩ := h1.obj; exact Heap.lt_size e1
        · rw [q]; obtain ⟨_, e2, _⟩ := h2.obj; exact Heap.lt_size e2
      rw [upd_ne (Nat.ne_of_lt hlt)]
      exact (hf c hcm).1
  done := by
    intro X hP hw hK hc i pins s σ H E I hf st hg
    subst hP hw hK
    obtain ⟨hz, hTI, ⟨x0, y0, hTO⟩, h1, h2⟩ := st
    obtain ⟨xs, ys, hqx, hqy, m1, m2, hend⟩ := hg
    obtain ⟨its, n1, g1, p⟩ := hqx.get I
    obtain ⟨its2, n2, g2, p2⟩ := hqy.get I
    refine wpAny_pyNext_zipD2_end (sep_of D) (draws_of b1 (A := X.A.in1) (show X.A.in1.handled = none from I.ok.hd hc) i1 a D.l1i1 its.toArray) (draws_of b2 (A := X.A.in1) (show X.A.in1.handled = none from I.ok.hd hc) i2 b D.l2i2 its2.toArray) hz hTI hTO ⟨h1, p⟩ ⟨h2, p2⟩ (by simp; omega) (by simp; omega) (by simp; omega) fun h' tk hk => ⟨rfl, I.turnedL (t' := tk) (ch := [z, TI, TO, i1, i2]) (fun c o hb q =>
      hk c o (fun q' => hb (by simp [q'])) (fun q' => hb (by simp [q'])) (fun q' => hb (by simp [q'])) (fun q' => hb (by simp [q'])) q) hf⟩
  self := fun A i s Q E st h => wpAny_pyIter_zip st.1 h
def iZipU (K : PySem.W.Frag) (ta : TA) : TI := fun σ H R => ta σ H fun vs H1 => ∃ a b xs ys b1 b2, vs = [.ref a, .ref b] ∧ Qs b1 K H1 a xs ∧ Qs b2 K H1 b ys ∧ R (ItzM b1 b2 K a b) H1
theorem pi_zipU {X : Cx} {e e2 : Expr} {ta : TA} {p pos tpos : Pos} {elts : List Expr} {kk : Nat} (hg : Gl X "zip") (hm : X.mg "zip" = none) (ha : PA X [e, e2] ta)
    (hs : starEach [e, e2] X.env = (false, eval e X.env) :: starEach [e2] X.env := by rfl) (hpl : (backTo pos (starEach [e2] X.env)).any (·.1) = false := by rfl) :
    PI X (.Tuple elts kk tpos) (.Call (.Name "zip" p) [e, e2] [] pos) (iZipU X.K ta) := by
  refine ⟨fun pins s σ H R I h => ?_⟩
  refine Call_ (ld_blt I hg hm PyProof.Rows.boot_zip (PyProof.Rows.callWith_type1 (thn (ha.run pos pins s σ H _ I h) fun us s1 ⟨vs, H1, I1, r1, q1⟩ => ?_) hs hpl))
  obtain ⟨a, b, xs, ys, b1, b2, ex, hqx, hqy, q⟩ := q1
  subst ex
  cases r1 with
  | cons r rr =>
    cases rr with
    | cons r' rr =>
      cases rr
      cases r
      cases r'
      obtain ⟨its, n1, g1, p1⟩ := hqx.get I1
      obtain ⟨its2, n2, g2, p2⟩ := hqy.get I1
      refine call_zipM b1 b2 p1 p2 fun h' hz hTI hTO h1 h2 hk => wpAny_pyIter_zip hz ?_
      have I2 : Inv X pins σ H1 { s1 with heap := h' } := I1.kept (t' := s1.toks) hk
      refine ⟨s1.heap.objs.size + 4, [s1.heap.objs.size + 4, s1.heap.objs.size + 2, s1.heap.objs.size + 3, s1.heap.objs.size, s1.heap.objs.size + 1], _, _, H1, rfl, I2, turn_zipM b1 b2 (PySem.W.ktu_apart s1.heap.objs.size a b p1.lt p2.lt), ⟨hz, hTI, ⟨_, _, hTO⟩, h1, h2⟩, fun c hcm => ?_, q⟩
      have hle : s1.heap.objs.size ≤ c := by
        have e' : c = s1.heap.objs.size + 4 ∨ c = s1.heap.objs.size + 2 ∨ c = s1.heap.objs.size + 3 ∨ c = s1.heap.objs.size ∨ c = s1.heap.objs.size + 1 := by simpa using hcm
        rcases e' with z | z | z | z | z
        · rw [z]; exact Nat.le_add_right _ _
        · rw [z]; exact Nat.le_add_right _ _
        · rw [z]; exact Nat.le_add_right _ _
        · rw [z]; exact Nat.le_refl _
        · rw [z]; exact Nat.le_add_right _ _
      exact I1.fpOk hle (I1.hok.fresh hle)
/-- pairs -/
def zipDs : List PyData → List PyData → List PyData
  | x :: xs, y :: ys => .tuple [x, y] :: zipDs xs ys
  | _, _ => []
theorem zipDs_get : ∀ {xs ys : List PyData} {i : Nat}, i < (zipDs xs ys).length → ∃ x y, xs[i]? = some x ∧ ys[i]? = some y ∧ (zipDs xs ys)[i]? = some (.tuple [x, y])
  | [], ys, i, h => by simp [zipDs] at h
  | _ :: _, [], i, h => by simp [zipDs] at h
  | x :: xs, y :: ys, 0, h => ⟨x, y, rfl, rfl, rfl⟩
  | x :: xs, y :: ys, i + 1, h => by
    obtain ⟨a, b, e1, e2, e3⟩ := zipDs_get (xs := xs) (ys := ys) (i := i) (by simpa [zipDs] using h)
    exact ⟨a, b, by simpa using e1, by simpa using e2, by simpa [zipDs] using e3⟩
theorem zipDs_len : ∀ (xs ys : List PyData), (zipDs xs ys).length ≤ xs.length ∧ (zipDs xs ys).length ≤ ys.length ∧ (xs.length ≤ (zipDs xs ys).length ∨ ys.length ≤ (zipDs xs ys).length)
  | [], ys => by simp [zipDs]
  | _ :: _, [] => by simp [zipDs]
  | x :: xs, y :: ys => by
    obtain ⟨a, b, c⟩ := zipDs_len xs ys
    refine ⟨?_, ?_, ?_⟩
    · simp [zipDs]; omega
    · simp [zipDs]; omega
    · simp only [zipDs, List.length_cons]; omega
def dZip (da : DA) : DI := fun ρ Q => da ρ fun rs ρ1 => match stoAll rs with
  | some [x, y] => ∃ ds es, itemsD x = some ds ∧ itemsD y = some es ∧ Q (zipDs ds es) ρ1
  | _ => False
/-- the list or the tuple at a holds ds, also later -/
structure Hs (b : Bool) (K : PySem.W.Frag) (σ : L2.St) (ρ : DEnv) (A0 : Av) (H' : Hp) (a : Addr) (ds : List PyData) : Prop where
  all : ∃ xs : List V, xs.length = ds.length ∧ RpAll A0 H' xs ds ∧ ∀ H, (∀ b o, H' b = some o → ¬ Ow σ ρ b → H b = some o) → (∀ b xs, H' b = some (.tup xs) → H b = some (.tup xs)) → Qs b K H a xs
theorem Rp.hs {K : PySem.W.Frag} {B : Av} {σ : L2.St} {ρ : DEnv} {H1 : Hp} {v : V} {d : PyData} {ds : List PyData} (h : Rp (Al B σ ρ) H1 v d) (e : itemsD d = some ds) : ∃ a b, v = .ref a ∧ Hs b K σ ρ (Al B σ ρ) H1 a ds := by
  cases h with
  | @lst a xs _ na ea ra =>
    cases e
    exact ⟨a, true, rfl, ⟨xs, ra.len, ra, fun H kp kt => SqL.of (kp a _ ea fun z => na (.inr z))⟩⟩
  | @tup a xs _ ea ra =>
    cases e
    exact ⟨a, false, rfl, ⟨xs, ra.len, ra, fun H kp kt => SqT.of (kt a _ ea)⟩⟩
  | _ => cases e
theorem walk_zip {K : PySem.W.Frag} {B : Av} {σ : L2.St} {ρ : DEnv} {H1 : Hp} {a b : Addr} {b1 b2 : Bool} {ds es : List PyData} (h1 : Hs b1 K σ ρ (Al B σ ρ) H1 a ds) (h2 : Hs b2 K σ ρ (Al B σ ρ) H1 b es) :
    WalkD σ ρ (Al B σ ρ) H1 (ItzM b1 b2 K a b) (zipDs ds es) := by
  obtain ⟨xs, l1, r1, k1⟩ := h1.all
  obtain ⟨ys, l2, r2, k2⟩ := h2.all
  have hz := zipDs_len ds es
  refine ⟨fun i H' kp kt hi => ?_, fun H' kp kt => ?_, fun i H' A x Hx ps kp hi y => ?_⟩
  · have i1 : i < xs.length := by omega
    have i2 : i < ys.length := by omega
    exact ⟨xs, ys, xs[i], ys[i], k1 H' kp kt, k2 H' kp kt, by simp [i1], by simp [i2]⟩
  · exact ⟨xs, ys, k1 H' kp kt, k2 H' kp kt, by omega, by omega, by omega⟩
  · obtain ⟨T, u, v, e1, e2, e3, e4, e5⟩ := y
    subst e1 e3
    obtain ⟨d, e, c1, c2, c3⟩ := zipDs_get hi
    obtain ⟨u', w1, w2⟩ := r1.get c1
    obtain ⟨v', w3, w4⟩ := r2.get c2
    have g1 := e4 xs (k1 H' kp fun b xs q => ps.t b xs q)
    have g2 := e5 ys (k2 H' kp fun b xs q => ps.t b xs q)
    rw [w1] at g1
    rw [w3] at g2
    cases g1
    cases g2
    have g : Grow H' (upd H' T (.tup [u, v])) := .new e2
    refine ⟨g, _, c3, .tup upd_same ?_⟩
    have pq : Pass A A H' (upd H' T (.tup [u, v])) := g.pass fun _ z => .inl z
    exact .cons (Rp.pass pq _ _ (Rp.pass ps _ _ w2)) (.cons (Rp.pass pq _ _ (Rp.pass ps _ _ w4)) .nil)
theorem simI_zip {K : PySem.W.Frag} {ta : TA} {da : DA} (h : SimA ta da) : SimI (iZipU K ta) (dZip da) := fun H0 B σ H ρ R QD Rl q k =>
  h H0 B σ H ρ _ _ Rl q fun rs ρ1 vs H1 R1 S1 K1 o1 q1 => by
    split at q1
    · rename_i x y e
      obtain ⟨ds, es, m1, m2, q1⟩ := q1
      have r := o1.sto e
      cases r with
      | cons ra rb =>
        cases rb with
        | cons rb rc =>
          cases rc
          obtain ⟨a, b1, e1, s1⟩ := ra.hs (K := K) m1
          obtain ⟨b, b2, e2, s2⟩ := rb.hs (K := K) m2
          subst e1 e2
          obtain ⟨xs, _, _, w1⟩ := s1.all
          obtain ⟨ys, _, _, w2⟩ := s2.all
          exact ⟨a, b, xs, ys, b1, b2, rfl, w1 H1 (fun _ _ z _ => z) (fun _ _ z => z), w2 H1 (fun _ _ z _ => z) (fun _ _ z => z), k _ _ ρ1 H1 R1 S1 K1 (walk_zip s1 s2) q1⟩
    · exact q1.elim
end Dl
set_option Elab.async false
set_option linter.all false
set_option maxRecDepth 100000
set_option maxHeartbeats 4000000
/-! The data layer, part 13: enumerate over lists and tuples alike; range with a step. -/
namespace Dl
open PySem L2 RZ PyProof.Rows
open AutoSeq1 (wpAny_loadPart')
theorem meets_enumT (l : Addr) (items : Array Value) :
    Meets (Builtin.«enumerate.__new__» ⟨[.type "enumerate", .ref l], []⟩) (fun _ R s => s.heap.IsTuple l items ∧
      R (.ok (.ret (.ref (s.heap.push { cls := .type "tuple_iterator", data := .fields #[.ref l, .int 0 0] }).objs.size)))
        { s with heap := (s.heap.push { cls := .type "tuple_iterator", data := .fields #[.ref l, .int 0 0] }).push { cls := .type "enumerate", data := .fields #[.none, .bool false, .ref s.heap.objs.size, rawInt 0, .none, .none] } }) :=
  .of_wp fun prog w A R s h => by
    obtain ⟨hp, g, d, tk, os⟩ := s; obtain ⟨hl, h⟩ := h
    have hsub := sub_enumerate
    have hL : Heap.IsTuple (Shared.heap ⟨hp, g, d, tk, os⟩) l items := hl
    wp_walk
    refine wpAny_stack_any fun st => wpAny_pure ?_
    split
    · rename_i c _ _ _ _ _
      cases (c == Value.type "enumerate")
      · wp_walk using wpAny_pyIter_tuple hL
        exact ⟨_, rfl, h⟩
      · wp_walk using wpAny_pyIter_tuple hL
        exact ⟨_, rfl, h⟩
    · wp_walk using wpAny_pyIter_tuple hL
      exact ⟨_, rfl, h⟩
theorem call_enumM {prog : Program} {w : World} {A : Around} {E : Value → Shared → Prop} {s : Shared} (b : Bool) {l : Addr} {items : Array Value} {Q : Value → Shared → Prop} (hL : Qh b s.heap l items)
    (h : ∀ h', IsEnum h' (s.heap.objs.size + 1) s.heap.objs.size 0 .none → Qi b h' s.heap.objs.size l 0 →
      (∀ b o, s.heap.get? b = some o → h'.get? b = some o) → Q (.ref (s.heap.objs.size + 1)) { s with heap := h' }) :
    wpAny (model prog w) A (call (.type "enumerate") [.ref l]) Q E s := by
  cases b
  · refine callType_new F.called_enumerate (by decide) (F.typeCall_enumerate_1 _) (F.newCall_enumerate_1 _) (fun obj => F.args_object_init_2 obj _) F.entry_enumerate_new
      (meets_enumT l items) ⟨hL, ?_⟩
    have hz : (s.heap.push { cls := .type "tuple_iterator", data := .fields #[.ref l, .int 0 0] }).objs.size = s.heap.objs.size + 1 := Heap.size_push ..
    show _ ∧ _
    rw [hz]
    have he : IsEnum ((s.heap.push { cls := .type "tuple_iterator", data := .fields #[.ref l, .int 0 0] }).push
        { cls := .type "enumerate", data := .fields #[.none, .bool false, .ref s.heap.objs.size, rawInt 0, .none, .none] }) (s.heap.objs.size + 1) s.heap.objs.size 0 .none := by
      have := Heap.get?_push_size (s.heap.push { cls := .type "tuple_iterator", data := .fields #[.ref l, .int 0 0] })
        (o := { cls := .type "enumerate", data := .fields #[.none, .bool false, .ref s.heap.objs.size, rawInt 0, .none, .none] }) rfl
      rw [hz] at this; exact this
    exact ⟨⟨_, he, rfl⟩, h _ he ⟨_, Heap.get?_push_of_some _ (Heap.get?_push_size _ rfl), rfl, rfl⟩ fun b o x => Heap.get?_push_of_some _ (Heap.get?_push_of_some _ x)⟩
  · exact call_enumerate_list hL fun h' he hi _ hk => h h' he hi hk
def IteM (b : Bool) (K : PySem.W.Frag) (a : Addr) : It :=
  ⟨fun i H => ∃ (xs : List V) (x : V), Qs b K H a xs ∧ xs[i]? = some x, fun i H v H' => ∃ T x, v = .ref T ∧ H T = none ∧ H' = upd H T (.tup [.int (i : Nat), x]) ∧ ∀ xs, Qs b K H a xs → xs[i]? = some x, fun i H => ∃ xs : List V, Qs b K H a xs ∧ xs.length = i⟩
theorem turn_enumM (b : Bool) {P : Program} {w : World} {K : PySem.W.Frag} {elts : List Expr} {kk : Nat} {tpos : Pos} {a e it : Addr} (hae : a ≠ e) (hai : a ≠ it) :
    Turn P w K (.Tuple elts kk tpos) (IteM b K a) [e, it] e (fun i h => (∃ old, IsEnum h e it ((i : Nat) : Int) old) ∧ Qi b h it a i ∧ e ≠ it) where
  mem := by simp
  obj := fun i h st b hb => by
    obtain ⟨⟨old, he⟩, hi, _⟩ := st
    have e' : b = e ∨ b = it := by simpa using hb
    rcases e' with z | z
    · rw [z]; exact ⟨_, he, fun v q => nomatch q⟩
    · rw [z]; exact hi.obj
  keep := fun i h h' st k => let ⟨⟨old, he⟩, hi, hne⟩ := st; ⟨⟨old, k e (by simp) _ he⟩, hi.at' fun o q => k it (by simp) o q, hne⟩
  item := by
    intro X hP hw hK hc i pins s σ H E I hf st hg
    subst hP hw hK
    obtain ⟨⟨old, he⟩, hit, hne⟩ := st
    obtain ⟨xs, x, hq, hx⟩ := hg
    obtain ⟨its, n1, g1, p⟩ := hq.get I
    obtain ⟨u, hu, ru⟩ := g1 i x hx
    have l1 : i < its.toArray.size := by have := (List.getElem?_eq_some_iff.mp hu).1; simpa using this
    have hel : e < s.heap.objs.size := Heap.lt_size he
    have hil : it < s.heap.objs.size := by obtain ⟨_, q, _⟩ := hit.obj; exact Heap.lt_size q
    refine wpAny_pyNext_enum_itemD (draws_of b (A := X.A.in1) (show X.A.in1.handled = none from I.ok.hd hc) it a hai its.toArray) he ⟨hit, p⟩ l1 hne (by simp [hne, hae.symm]) fun v h' tk e1 ho st' hT hsz hk => ?_
    have e1 : v = u := by
      have : its[i]? = some v := by simpa using e1
      rw [hu] at this
      exact (Option.some.inj this).symm
    subst e1
    refine ⟨_, rfl, wpAny_letOwnedTupleGo_enum (s := { s with heap := h', toks := tk + 1 }) ho fun h'' he' sb => ?_⟩
    have hT2 : h''.get? s.heap.objs.size = some { cls := .type "tuple", data := .seq #[.int i tk, v] } := (sb.2 _ (Nat.ne_of_gt hel)).trans hT
    have new : ObjOk X.prog X.w (upd H s.heap.objs.size (.tup [.int (i : Nat), x])) h'' s.heap.objs.size (.tup [.int (i : Nat), x]) :=
      ⟨by show 2 ≤ sizeLine; decide, [.int i tk, v], .cons ⟨_, rfl⟩ (.cons ru .nil), ⟨_, hT2, rfl, _, rfl⟩⟩
    have I1 : Inv X pins σ (upd H s.heap.objs.size (.tup [.int (i : Nat), x])) { s with heap := h'', toks := tk + 1 } :=
      I.turnedNew (t' := tk + 1) (ch := [e, it]) (fun b ob hb q => (sb.2 b (fun z => hb (by simp [z]))).trans (hk b ob (fun z => hb (by simp [z])) (fun z => hb (by simp [z])) q)) hf (Nat.le_refl _) new
    refine ⟨.ref s.heap.objs.size, _, I1, rfl, ⟨_, x, rfl, I.hok.fresh (Nat.le_refl _), rfl, fun ys hy => by rw [hy.inj I hq]; exact hx⟩, ⟨⟨v, ?_⟩, st'.1.at' fun o q => (sb.2 it (Ne.symm hne)).trans q, hne⟩, fun b hb => ?_⟩
    · have e1 : ((i + 1 : Nat) : Int) = (i : Int) + 1 := by omega
      rw [e1]; exact he'
    · have hb' : b < s.heap.objs.size := by
        have e' : b = e ∨ b = it := by simpa using hb
        rcases e' with z | z
        · rw [z]; exact hel
        · rw [z]; exact hil
      rw [upd_ne (Nat.ne_of_lt hb')]
      exact (hf b hb).1
  done := by
    intro X hP hw hK hc i pins s σ H E I hf st hg
    subst hP hw hK
    obtain ⟨⟨old, he⟩, hit, hne⟩ := st
    obtain ⟨xs, hq, hx⟩ := hg
    obtain ⟨its, n1, g1, p⟩ := hq.get I
    obtain ⟨f0, f1, f2, f3, f4, f5⟩ := hf it (by simp)
    have en : i = its.toArray.size := by simp; omega
    subst en
    exact wpAny_pyNext_enum_endD (draws_of b (A := X.A.in1) (show X.A.in1.handled = none from I.ok.hd hc) it a hai its.toArray) he ⟨hit, p⟩ fun h' eb => ⟨rfl, I.turned (t' := s.toks) (fun b o hb q => eb b o hb q) f0 f1 f3 f4 f5⟩
  self := fun A i s Q E st h => let ⟨⟨_, he⟩, _⟩ := st; wpAny_pyIter_enum he h
def iEnumU (K : PySem.W.Frag) (ta : TA) : TI := fun σ H R => ta σ H fun vs H1 => ∃ a xs b, vs = [.ref a] ∧ Qs b K H1 a xs ∧ R (IteM b K a) H1
theorem pi_enumU {X : Cx} {e : Expr} {ta : TA} {p pos tpos : Pos} {elts : List Expr} {kk : Nat} (hg : Gl X "enumerate") (hm : X.mg "enumerate" = none) (ha : PA X [e] ta) (hs : starEach [e] X.env = [(false, eval e X.env)] := by rfl) :
    PI X (.Tuple elts kk tpos) (.Call (.Name "enumerate" p) [e] [] pos) (iEnumU X.K ta) := by
  refine ⟨fun pins s σ H R I h => ?_⟩
  refine Call_ (ld_blt I hg hm boot_enumerate (PyProof.Rows.callWith_type1 (thn (ha.run pos pins s σ H _ I h) fun us s1 ⟨vs, H1, I1, r1, q1⟩ => ?_) hs rfl))
  obtain ⟨a, xs, b, ex, hq, q⟩ := q1
  subst ex
  cases r1 with
  | cons r rr =>
    cases rr
    cases r
    obtain ⟨its, n1, g1, p'⟩ := hq.get I1
    have hlt := p'.lt
    refine call_enumM b p' fun h' he hit hk => wpAny_pyIter_enum he ?_
    have I2 : Inv X pins σ H1 { s1 with heap := h' } := I1.kept (t' := s1.toks) hk
    refine ⟨s1.heap.objs.size + 1, [s1.heap.objs.size + 1, s1.heap.objs.size], _, _, H1, rfl, I2, turn_enumM b (e := s1.heap.objs.size + 1) (it := s1.heap.objs.size) (Nat.ne_of_lt (Nat.lt_succ_of_lt hlt)) (Nat.ne_of_lt hlt), ⟨⟨.none, he⟩, hit, Nat.succ_ne_self _⟩, fun b hb => ?_, q⟩
    have hle : s1.heap.objs.size ≤ b := by
      have e' : b = s1.heap.objs.size + 1 ∨ b = s1.heap.objs.size := by simpa using hb
      rcases e' with z | z
      · rw [z]; exact Nat.le_add_right _ _
      · rw [z]; exact Nat.le_refl _
    exact I1.fpOk hle (I1.hok.fresh hle)
/-- numbered from k on -/
def enumDs : Nat → List PyData → List PyData
  | k, x :: xs => .tuple [.int (k : Int), x] :: enumDs (k + 1) xs
  | _, [] => []
theorem enumDs_get : ∀ {xs : List PyData} {k i : Nat} {x : PyData}, xs[i]? = some x → (enumDs k xs)[i]? = some (.tuple [.int ((k + i : Nat) : Int), x])
  | [], k, i, x, h => by simp at h
  | y :: ys, k, 0, x, h => by
    have : y = x := by simpa using h
    subst this
    rfl
  | y :: ys, k, i + 1, x, h => by
    have := enumDs_get (xs := ys) (k := k + 1) (i := i) (x := x) (by simpa using h)
    have e : k + 1 + i = k + (i + 1) := by omega
    rw [e] at this
    simpa [enumDs] using this
theorem enumDs_len : ∀ (xs : List PyData) (k : Nat), (enumDs k xs).length = xs.length
  | [], k => rfl
  | x :: xs, k => by simp [enumDs, enumDs_len xs]
def dEnum (da : DA) : DI := fun ρ Q => da ρ fun rs ρ1 => match stoAll rs with
  | some [x] => ∃ ds, itemsD x = some ds ∧ Q (enumDs 0 ds) ρ1
  | _ => False
theorem walk_enum {K : PySem.W.Frag} {B : Av} {σ : L2.St} {ρ : DEnv} {H1 : Hp} {a : Addr} {b : Bool} {ds : List PyData} (h1 : Hs b K σ ρ (Al B σ ρ) H1 a ds) :
    WalkD σ ρ (Al B σ ρ) H1 (IteM b K a) (enumDs 0 ds) := by
  obtain ⟨xs, l1, r1, k1⟩ := h1.all
  have hz := enumDs_len ds 0
  refine ⟨fun i H' kp kt hi => ?_, fun H' kp kt => ?_, fun i H' A x Hx ps kp hi y => ?_⟩
  · have i1 : i < xs.length := by omega
    exact ⟨xs, xs[i], k1 H' kp kt, by simp [i1]⟩
  · exact ⟨xs, k1 H' kp kt, by omega⟩
  · obtain ⟨T, u, e1, e2, e3, e4⟩ := y
    subst e1 e3
    have hi2 : i < ds.length := by omega
    obtain ⟨u', w1, w2⟩ := r1.get (d := ds[i]) (i := i) (by simp [hi2])
    have g1 := e4 xs (k1 H' kp fun b xs q => ps.t b xs q)
    rw [w1] at g1
    cases g1
    have g : Grow H' (upd H' T (.tup [.int (i : Nat), u])) := .new e2
    refine ⟨g, _, enumDs_get (x := ds[i]) (by simp [hi2]), .tup upd_same ?_⟩
    have pq : Pass A A H' (upd H' T (.tup [.int (i : Nat), u])) := g.pass fun _ z => .inl z
    have e0 : ((0 + i : Nat) : Int) = (i : Int) := by omega
    rw [e0]
    exact .cons (.int _) (.cons (Rp.pass pq _ _ (Rp.pass ps _ _ w2)) .nil)
theorem simI_enum {K : PySem.W.Frag} {ta : TA} {da : DA} (h : SimA ta da) : SimI (iEnumU K ta) (dEnum da) := fun H0 B σ H ρ R QD Rl q k =>
  h H0 B σ H ρ _ _ Rl q fun rs ρ1 vs H1 R1 S1 K1 o1 q1 => by
    split at q1
    · rename_i x e
      obtain ⟨ds, m1, q1⟩ := q1
      have r := o1.sto e
      cases r with
      | cons ra rb =>
        cases rb
        obtain ⟨a, b, e1, s1⟩ := ra.hs (K := K) m1
        subst e1
        obtain ⟨xs, _, _, w1⟩ := s1.all
        exact ⟨a, xs, b, rfl, w1 H1 (fun _ _ z _ => z) (fun _ _ z => z), k _ _ ρ1 H1 R1 S1 K1 (walk_enum s1) q1⟩
    · exact q1.elim

/-! ### range with a step -/
def rngC (lo c : Int) (n : Nat) : List PyData := (List.range n).map fun (i : Nat) => PyData.int (lo + (i : Int) * c)
theorem rngC_len (lo c : Int) (n : Nat) : (rngC lo c n).length = n := by simp [rngC]
def dRng3 (da : DA) : DI := fun ρ Q => da ρ fun rs ρ1 => match rs.map (Rs.dat ρ1) with
  | [.int i, .int j, .int c] => ∃ n, RgC i j c n ∧ Q (rngC i c n) ρ1
  | _ => False
theorem walk_rngC {σ : L2.St} {ρ : DEnv} {A0 : Av} {H' : Hp} {lo c : Int} {n : Nat} : WalkD σ ρ A0 H' (Itc lo c n) (rngC lo c n) :=
  ⟨fun i H _ _ hi => by rw [rngC_len] at hi; exact hi, fun H _ _ => by rw [rngC_len]; exact Nat.le_refl _, fun i H A x Hx _ _ hi y => by
    rw [rngC_len] at hi
    obtain ⟨e1, e2⟩ := y
    subst e1 e2
    exact ⟨.refl, _, by simp [rngC, hi], .int _⟩⟩
theorem VwAll.three {A : Av} {H : Hp} {vs : List V} {d e f : PyData} (h : VwAll A H vs [d, e, f]) : ∃ u v w, vs = [u, v, w] ∧ Vw A H u d ∧ Vw A H v e ∧ Vw A H w f := by
  match vs, h with
  | [u, v, w], h => exact ⟨u, v, w, rfl, h.1, h.2.1, h.2.2.1⟩
theorem simI_rng3 {ta : TA} {da : DA} (h : SimA ta da) : SimI (iRng3 ta) (dRng3 da) := fun H0 B σ H ρ R QD Rl q k =>
  h H0 B σ H ρ _ _ Rl q fun rs ρ1 vs H1 R1 S1 K1 o1 q1 => by
    have vw := o1.vw R1
    split at q1
    · rename_i i j c e
      rw [e] at vw
      obtain ⟨u, v, w, e1, h1, h2, h3⟩ := VwAll.three vw
      cases h1.int
      cases h2.int
      cases h3.int
      obtain ⟨n, hr, q1⟩ := q1
      exact ⟨i, j, c, n, e1, hr, k _ _ ρ1 H1 R1 S1 K1 walk_rngC q1⟩
    · exact q1.elim
/-- a block in a block -/
theorem blk_in {N : List Str} {sc0 S sc : Scope} {own : List (Str × Nat)} {e : Env} (h : e.scope = S) (q : blkC N (relabel sc0 (envOfC "" S 0 0 .none)) sc own = true) : BlkOk N (relabel sc0 e) sc own := by
  subst h
  exact blkOk_by q
end Dl
set_option Elab.async false
set_option linter.all false
set_option maxRecDepth 100000
set_option maxHeartbeats 4000000
/-! The data layer, part 14: dicts by ints and by tuples of ints (these with a mark ahead of their pairs). -/
namespace Dl
open PySem L2 RZ PyProof.Rows
def isI (i : Int) : PyData → Bool
  | .int j => decide (j = i)
  | _ => false
def isT (is : List Int) : PyData → Bool
  | .tuple ds => decide (intsOf ds = some is)
  | _ => false
def lookD (τ : PyData → Bool) (kvs : List (PyData × PyData)) : Option PyData := (kvs.find? fun p => τ p.1).map (·.2)
def putD (τ : PyData → Bool) (kvs : List (PyData × PyData)) (k v : PyData) : List (PyData × PyData) :=
  if (kvs.any fun p => τ p.1) = true then kvs.map (fun p => if τ p.1 = true then (p.1, v) else p) else kvs ++ [(k, v)]
abbrev mark : PyData × PyData := (.none, .none)
def noMark (kvs : List (PyData × PyData)) : Prop := ∀ r, kvs ≠ mark :: r
section
variable {κ : Type} [DecidableEq κ] {A : Av} {H : Hp} {f : κ → PyData} {τ : PyData → Bool} {k : κ}
theorem pair_len {F : κ × V → PyData × PyData → Prop} : ∀ {kv : List (κ × V)} {ds : List (PyData × PyData)}, Paired F kv ds → kv.length = ds.length
  | _, _, .nil => rfl
  | _, _, .cons _ t => congrArg (· + 1) (pair_len t)
theorem pair_look (hτ : ∀ a, τ (f a) = decide (a = k)) : ∀ {kv : List (κ × V)} {ds : List (PyData × PyData)}, Paired (fun (q : κ × V) (r : PyData × PyData) => r.1 = f q.1 ∧ Rp A H q.2 r.2) kv ds →
    (valV kv k = none ∧ lookD τ ds = none) ∨ ∃ v d, valV kv k = some v ∧ lookD τ ds = some d ∧ Rp A H v d
  | _, _, .nil => .inl ⟨rfl, rfl⟩
  | q :: kv, r :: ds, .cons h t => by
    have e : τ r.1 = decide (q.1 = k) := by rw [h.1, hτ]
    by_cases c : q.1 = k
    · refine .inr ⟨q.2, r.2, valV_pos c, ?_, h.2⟩
      unfold lookD
      rw [List.find?_cons_of_pos (by rw [e, decide_eq_true c])]
      rfl
    · have l : lookD τ (r :: ds) = lookD τ ds := by
        unfold lookD
        rw [List.find?_cons_of_neg (by rw [e, decide_eq_false c]; exact Bool.false_ne_true)]
      rw [valV_neg c, l]
      exact pair_look hτ t
theorem pair_any (hτ : ∀ a, τ (f a) = decide (a = k)) : ∀ {kv : List (κ × V)} {ds : List (PyData × PyData)}, Paired (fun (q : κ × V) (r : PyData × PyData) => r.1 = f q.1 ∧ Rp A H q.2 r.2) kv ds →
    (kv.any fun q => decide (q.1 = k)) = ds.any fun r => τ r.1
  | _, _, .nil => rfl
  | q :: kv, r :: ds, .cons h t => by
    rw [List.any_cons, List.any_cons, pair_any hτ t, h.1, hτ]
theorem pair_map (hτ : ∀ a, τ (f a) = decide (a = k)) {v : V} {d : PyData} (hv : Rp A H v d) : ∀ {kv : List (κ × V)} {ds : List (PyData × PyData)}, Paired (fun (q : κ × V) (r : PyData × PyData) => r.1 = f q.1 ∧ Rp A H q.2 r.2) kv ds →
    Paired (fun (q : κ × V) (r : PyData × PyData) => r.1 = f q.1 ∧ Rp A H q.2 r.2) (kv.map fun q => if q.1 = k then (q.1, v) else q) (ds.map fun r => if τ r.1 = true then (r.1, d) else r)
  | _, _, .nil => .nil
  | q :: kv, r :: ds, .cons h t => by
    refine .cons ?_ (pair_map hτ hv t)
    have e : τ r.1 = decide (q.1 = k) := by rw [h.1, hτ]
    show (if τ r.1 = true then (r.1, d) else r).1 = f (if q.1 = k then (q.1, v) else q).1 ∧ Rp A H (if q.1 = k then (q.1, v) else q).2 (if τ r.1 = true then (r.1, d) else r).2
    by_cases c : q.1 = k
    · rw [if_pos c, if_pos (by rw [e, decide_eq_true c])]
      exact ⟨h.1, hv⟩
    · rw [if_neg c, if_neg (by rw [e, decide_eq_false c]; exact Bool.false_ne_true)]
      exact h
theorem pair_app {F : κ × V → PyData × PyData → Prop} {q : κ × V} {r : PyData × PyData} (h : F q r) : ∀ {kv : List (κ × V)} {ds : List (PyData × PyData)}, Paired F kv ds → Paired F (kv ++ [q]) (ds ++ [r])
  | _, _, .nil => .cons h .nil
  | _, _, .cons a t => .cons a (pair_app h t)
theorem pair_put (hτ : ∀ a, τ (f a) = decide (a = k)) {v : V} {d : PyData} (hv : Rp A H v d) {kv : List (κ × V)} {ds : List (PyData × PyData)} (h : Paired (fun (q : κ × V) (r : PyData × PyData) => r.1 = f q.1 ∧ Rp A H q.2 r.2) kv ds) :
    Paired (fun (q : κ × V) (r : PyData × PyData) => r.1 = f q.1 ∧ Rp A H q.2 r.2) (putK kv k v) (putD τ ds (f k) d) := by
  unfold putK putD
  rw [pair_any hτ h]
  by_cases c : (ds.any fun r => τ r.1) = true
  · rw [if_pos c, if_pos c]
    exact pair_map hτ hv h
  · rw [if_neg c, if_neg c]
    exact pair_app ⟨rfl, hv⟩ h
end
theorem isI_key (i : Int) (a : Key) : isI i (keyD a) = decide (a = Sum.inl i) := by
  cases a with
  | inl j => simp [isI, keyD]
  | inr x => simp [isI, keyD]
theorem intsOf_key : ∀ (q : List Key) (is : List Int), intsOf (q.map keyD) = some is ↔ q = is.map Sum.inl
  | [], is => by
    constructor
    · intro h; cases h; rfl
    · intro h
      cases is with
      | nil => rfl
      | cons _ _ => cases h
  | .inl j :: q, is => by
    have ih := intsOf_key q
    show (match intsOf (q.map keyD) with | some ns => some (j :: ns) | none => none) = some is ↔ _
    cases e : intsOf (q.map keyD) with
    | none =>
      constructor
      · intro h; cases h
      · intro h
        cases is with
        | nil => cases h
        | cons b bs =>
          rw [List.map_cons] at h
          injection h with h1 h2
          have := (ih bs).mpr h2
          rw [e] at this
          cases this
    | some ns =>
      have h0 := (ih ns).mp e
      subst h0
      constructor
      · intro h
        injection h with h
        subst h
        rfl
      · intro h
        cases is with
        | nil => cases h
        | cons b bs =>
          rw [List.map_cons] at h
          injection h with h1 h2
          injection h1 with h1
          have := (List.map_inj_right (fun a b e => by injection e)).mp h2
          rw [h1, this]
  | .inr x :: q, is => by
    constructor
    · intro h; cases h
    · intro h
      cases is with
      | nil => cases h
      | cons b bs =>
        rw [List.map_cons] at h
        injection h with h1 h2
        cases h1
theorem isT_key (is : List Int) (q : List Key) : isT is (.tuple (q.map keyD)) = decide (q = is.map Sum.inl) := by
  show decide (intsOf (q.map keyD) = some is) = _
  by_cases h : q = is.map Sum.inl
  · rw [decide_eq_true h, decide_eq_true ((intsOf_key q is).mpr h)]
  · rw [decide_eq_false h, decide_eq_false (fun z => h ((intsOf_key q is).mp z))]
/-- what a dict holds at a key -/
def atD (d e : PyData) (Z : Option PyData → Prop) : Prop :=
  (∃ kvs j, d = .dict kvs ∧ noMark kvs ∧ e = .int j ∧ Z (lookD (isI j) kvs)) ∨ ∃ r ds is, d = .dict (mark :: r) ∧ e = .tuple ds ∧ intsOf ds = some is ∧ Z (lookD (isT is) r)
theorem key_ints {A : Av} {H : Hp} {y : V} {ds : List PyData} {is : List Int} (h : Vw A H y (.tuple ds)) (e : intsOf ds = some is) : ∃ b, y = .ref b ∧ H b = some (.tup ((is.map Sum.inl : List Key).map kV)) := by
  have e := intsOf_some e
  subst e
  obtain ⟨p, xs, e1, e2, r⟩ := h.tup
  rw [r.ints] at e2
  refine ⟨p, e1, ?_⟩
  rw [e2, List.map_map]
  rfl
theorem at_get {A : Av} {H : Hp} {x y : V} {d e : PyData} {Z : Option PyData → Prop} (vx : Vw A H x d) (vy : Vw A H y e) (q : atD d e Z) :
    ∃ a o, x = .ref a ∧ DGet H a y o ∧ IsD H a ∧ ((o = none ∧ Z none) ∨ ∃ v d', o = some v ∧ Rp A H v d' ∧ Z (some d')) := by
  rcases q with ⟨kvs, j, rfl, nm, rfl, z⟩ | ⟨r, ds, is, rfl, rfl, ei, z⟩
  · cases vy.int
    rcases vx with h | ⟨p, rfl, h⟩
    · cases h
    rcases h with ⟨kv, e1, pr⟩ | ⟨kv, r, er, _⟩
    · refine ⟨p, _, rfl, .k (k := Sum.inl j) e1, .inl ⟨kv, .inl e1⟩, ?_⟩
      rcases pair_look (f := keyD) (k := Sum.inl j) (isI_key j) pr with ⟨h1, h2⟩ | ⟨v, d, h1, h2, h3⟩
      · exact .inl ⟨h1, by rw [← h2]; exact z⟩
      · exact .inr ⟨v, d, h1, h3, by rw [← h2]; exact z⟩
    · exact (nm r er).elim
  · obtain ⟨b, rfl, eb⟩ := key_ints vy ei
    rcases vx with h | ⟨p, rfl, h⟩
    · cases h
    rcases h with ⟨kv, e1, pr⟩ | ⟨kv, r', er, e1, pr⟩
    · cases pr with
      | @cons a _ _ _ h t =>
        have h1 := h.1
        cases a with
        | mk k v => cases k <;> cases h1
    · injection er with _ er
      subst er
      refine ⟨p, _, rfl, .t e1 eb, .inr ⟨kv, .inl e1⟩, ?_⟩
      rcases pair_look (f := fun q : List Key => PyData.tuple (q.map keyD)) (k := is.map Sum.inl) (isT_key is) pr with ⟨h1, h2⟩ | ⟨v, d, h1, h2, h3⟩
      · exact .inl ⟨h1, by rw [← h2]; exact z⟩
      · exact .inr ⟨v, d, h1, h3, by rw [← h2]; exact z⟩
/-! ### reading -/
def oDGet : Op2 := fun d e Z => atD d e fun o => ∃ v, o = some v ∧ Z (.fz v)
def dDGet (da db : DE) : DE := dOp2 oDGet da db
theorem simE_dget {ta tb : TE} {da db : DE} (ha : SimE ta da) (hb : SimE tb db) : SimE (tDGet ta tb) (dDGet da db) := by
  refine simE_op2 (r := fun x y H Q => ∃ a v, x = .ref a ∧ DGet H a y (some v) ∧ Q v H) (fun A H x y d e Q Z ad vx vy q k => ?_) ha hb
  obtain ⟨a, o, ex, g, _, q⟩ := at_get vx vy q
  rcases q with ⟨_, v, z, _⟩ | ⟨v, d', eo, rp, w, z, q⟩
  · cases z
  · cases z
    subst eo
    exact ⟨a, v, ex, g, k (.fz _) _ H .refl rp q⟩
def rDIn : R2 := fun y x H Q => ∃ a o, x = .ref a ∧ DGet H a y o ∧ Q (.bl o.isSome) H
def rDNotIn : R2 := fun y x H Q => ∃ a o, x = .ref a ∧ DGet H a y o ∧ Q (.bl (!o.isSome)) H
theorem op_dinU {X : Cx} (hu : X.A.units + 1 < cLine) : OpR X (compareOp .In) rDIn := by
  intro pins s σ H x y v u Q I rx ry h
  obtain ⟨a, o, rfl, g, q⟩ := h
  cases ry
  exact d_in hu I g rx fun s3 I3 => ⟨.bl o.isSome, H, I3, rfl, q⟩
theorem op_dnotinU {X : Cx} (hu : X.A.units + 1 < cLine) : OpR X (compareOp .NotIn) rDNotIn := by
  intro pins s σ H x y v u Q I rx ry h
  obtain ⟨a, o, rfl, g, q⟩ := h
  cases ry
  exact d_notIn hu I g rx fun s3 I3 => ⟨.bl (!o.isSome), H, I3, rfl, q⟩
def oDIn (neg : Bool) : Op2 := fun e d Z => atD d e fun o => Z (.fz (.bool (neg ^^ o.isSome)))
theorem simR2_din : SimR2 rDIn (oDIn false) := fun A H y x e d Q Z ad vy vx q k => by
  obtain ⟨a, o, ex, g, _, q⟩ := at_get vx vy q
  rcases q with ⟨eo, q⟩ | ⟨v, d', eo, rp, q⟩
  · subst eo
    exact ⟨a, _, ex, g, k (.fz _) _ H .refl (.bl _) q⟩
  · subst eo
    exact ⟨a, _, ex, g, k (.fz _) _ H .refl (.bl _) q⟩
theorem simR2_dnotin : SimR2 rDNotIn (oDIn true) := fun A H y x e d Q Z ad vy vx q k => by
  obtain ⟨a, o, ex, g, _, q⟩ := at_get vx vy q
  rcases q with ⟨eo, q⟩ | ⟨v, d', eo, rp, q⟩
  · subst eo
    exact ⟨a, _, ex, g, k (.fz _) _ H .refl (.bl _) q⟩
  · subst eo
    exact ⟨a, _, ex, g, k (.fz _) _ H .refl (.bl _) q⟩
/-- d.get(k, x), d in slot i, x an int or so -/
def dDGet2 (i : Nat) (dk dx : DE) : DE := fun ρ Q => (∃ kvs, ρ[i]? = some (some (.ow (.dict kvs)))) ∧ dk ρ fun rk ρ1 => dx ρ1 fun rx ρ2 => ∃ d, rx.sto = some d ∧ ∃ s, ρ2[i]? = some (some s) ∧ s.own = true ∧ atD s.dat (rk.dat ρ2) fun o => Q (.fz (o.getD d)) ρ2
theorem simE_dget2 {i : Nat} {ty tx : TE} {dk dx : DE} (hk : SimE ty dk) (hx : SimE tx dx) : SimE (tDGet2 (tVar i) ty tx) (dDGet2 i dk dx) := fun H0 B σ H ρ Q QD R q k => by
  obtain ⟨⟨kvs, es⟩, q⟩ := q
  obtain ⟨p, h1, h2⟩ := R.own i _ es rfl
  refine ⟨_, h1, p, rfl, ?_, ?_⟩
  · rcases h2 with ⟨kv, e1, _⟩ | ⟨kv, r, _, e1, _⟩
    · exact .inl ⟨kv, .inl e1⟩
    · exact .inr ⟨kv, .inl e1⟩
  · refine hk H0 B σ H ρ _ _ R q fun rk ρ1 v1 H1 R1 S1 K1 o1 q1 => ?_
    refine hx H0 B σ H1 ρ1 _ _ R1 q1 fun rx ρ2 v2 H2 R2 S2 K2 o2 q2 => ?_
    obtain ⟨d, hd, s, e3, e4, q2⟩ := q2
    obtain ⟨p', c1, c2⟩ := R2.own i s e3 e4
    rw [h1] at c1
    cases c1
    have vk := ((o1.cv.step S2 K2)).vw R2
    obtain ⟨a, o, ex, g, _, q3⟩ := at_get (.inr ⟨p, rfl, c2⟩) vk q2
    cases ex
    refine ⟨o, g, ?_⟩
    rcases q3 with ⟨eo, z⟩ | ⟨v, d', eo, rp, z⟩
    · subst eo
      exact k (.fz d) ρ2 _ H2 R2 (S1.trans S2) (K1.trans K2) (o2.cv.sto hd) z
    · subst eo
      exact k (.fz d') ρ2 _ H2 R2 (S1.trans S2) (K1.trans K2) rp z
/-! ### writing -/
def putsD (d e v : PyData) (Z : List (PyData × PyData) → Prop) : Prop :=
  (∃ kvs j, d = .dict kvs ∧ noMark kvs ∧ e = .int j ∧ kvs.length < 100000 ∧ Z (putD (isI j) kvs (.int j) v)) ∨ ∃ r ds is, d = .dict (mark :: r) ∧ e = .tuple ds ∧ intsOf ds = some is ∧ r.length < 100000 ∧ Z (mark :: putD (isT is) r (.tuple ds) v)
def dDPut (i : Nat) (dk dv : DE) : DS := fun DD ρ => (∃ s, ρ[i]? = some (some s) ∧ s.own = true) ∧ dv ρ fun r ρ1 => ∃ d, r.sto = some d ∧ dk ρ1 fun rk ρ2 => ∃ s, ρ2[i]? = some (some s) ∧ s.own = true ∧ putsD s.dat (rk.dat ρ2) d fun kvs => DD.nx (ρ2.set i (some (s.with (.dict kvs))))
theorem simS_dput {i : Nat} {ty tv : TE} {dk dv : DE} (hk : SimE ty dk) (hv : SimE tv dv) : SimS (sDPut (tVar i) ty tv) (dDPut i dk dv) := fun H0 B σ H ρ D DD R q E => by
  obtain ⟨⟨s, e1, e2⟩, q⟩ := q
  obtain ⟨p, h1, h2⟩ := R.own i s e1 e2
  refine hv H0 B σ H ρ _ _ R q fun r ρ1 v H1 R1 S1 K1 o1 q1 => ?_
  obtain ⟨d, hd, q1⟩ := q1
  refine ⟨_, h1, ?_⟩
  refine hk H0 B σ H1 ρ1 _ _ R1 q1 fun rk ρ2 vk H2 R2 S2 K2 o2 q2 => ?_
  have vw := o2.cv.vw R2
  have rp := (o1.cv.step S2 K2).sto hd
  obtain ⟨s1, es1, hs1, q2⟩ := q2
  obtain ⟨p1, c1, c2⟩ := R2.own i s1 es1 hs1
  rw [h1] at c1
  cases c1
  have psO : ∀ {o' : HO} {o0 : HO}, H2 p = some o0 → (∀ xs, o0 ≠ .tup xs) → Pass (Al B σ ρ2) (Al B σ ρ2) H2 (upd H2 p o') := fun {o' o0} e0 nt => ⟨fun a zs n e => by
    have ne : a ≠ p := fun z => n (by rw [z]; exact .inr ⟨i, s1, es1, hs1, h1⟩)
    exact ⟨n, by rw [upd_ne ne]; exact e⟩, fun a zs e => by
    have ne : a ≠ p := fun z => by
      rw [z, e0] at e
      cases e
      exact nt _ rfl
    rw [upd_ne ne]
    exact e⟩
  rcases q2 with ⟨kvs, j, ed, nm, ek, hl, z⟩ | ⟨r', ds, is, ed, ek, ei, hl, z⟩
  · rw [ed] at c2
    rw [ek] at vw
    cases vw.int
    rcases c2 with ⟨kv, c3, pr⟩ | ⟨kv, r, er, _⟩
    · have ps := psO (o' := .dK (putK kv (Sum.inl j) v)) c3 (fun _ z => nomatch z)
      refine ⟨p, _, rfl, .k (k := Sum.inl j) c3 (by rw [pair_len pr]; exact sz5' hl), ?_⟩
      have pr2 : PairK (Al B σ ρ2) (upd H2 p (.dK (putK kv (Sum.inl j) v))) kv kvs := Paired.map2 pr fun a b z => ⟨z.1, Rp.pass ps _ _ z.2⟩
      obtain ⟨R3, S3⟩ := R2.write (o := .dK (putK kv (Sum.inl j) v)) (d' := .dict (putD (isI j) kvs (.int j) d)) es1 hs1 h1 (.inl ⟨_, upd_same, pair_put (f := keyD) (k := Sum.inl j) (isI_key j) (Rp.pass ps _ _ rp) pr2⟩)
      exact E.nx σ _ _ R3 ((S1.trans S2).trans S3) z
    · exact (nm r er).elim
  · rw [ed] at c2
    rw [ek] at vw
    obtain ⟨b, rfl, eb⟩ := key_ints vw ei
    rcases c2 with ⟨kv, c3, pr⟩ | ⟨kv, r'', er, c3, pr⟩
    · cases pr with
      | @cons a _ _ _ h t =>
        have h1 := h.1
        cases a with
        | mk k v => cases k <;> cases h1
    · injection er with _ er
      subst er
      have ps := psO (o' := .dT (putK kv (is.map Sum.inl) v)) c3 (fun _ z => nomatch z)
      refine ⟨p, _, rfl, .t c3 eb (by rw [pair_len pr]; exact sz5' hl), ?_⟩
      have pr2 : PairT (Al B σ ρ2) (upd H2 p (.dT (putK kv (is.map Sum.inl) v))) kv r' := Paired.map2 pr fun a b z => ⟨z.1, Rp.pass ps _ _ z.2⟩
      have ek2 : PyData.tuple ds = .tuple ((is.map Sum.inl : List Key).map keyD) := by
        rw [intsOf_some ei, List.map_map]
        rfl
      obtain ⟨R3, S3⟩ := R2.write (o := .dT (putK kv (is.map Sum.inl) v)) (d' := .dict (mark :: putD (isT is) r' (.tuple ds) d)) es1 hs1 h1 (.inr ⟨_, _, rfl, upd_same, by
        rw [ek2]
        exact pair_put (f := fun q : List Key => PyData.tuple (q.map keyD)) (k := is.map Sum.inl) (isT_key is) (Rp.pass ps _ _ rp) pr2⟩)
      exact E.nx σ _ _ R3 ((S1.trans S2).trans S3) z
/-! ### a new dict -/
def dDNewK : DE := fun ρ Q => Q (.nw (.dict [])) ρ
def dDNewT : DE := fun ρ Q => Q (.nw (.dict [mark])) ρ
theorem simE_dnewK : SimE tDNewK dDNewK := fun H0 B σ H ρ Q QD R q k => fun p hp => by
  have g : Grow H (upd H p (.dK [])) := .new hp
  exact k (.nw (.dict [])) ρ _ _ (R.grow g) g.stp .refl ((resOk_of R g (r := .nw (.dict [])) ⟨p, rfl, hp, by rw [upd_same]; exact fun z => (nomatch z), .inl ⟨[], upd_same, .nil⟩⟩)) q
theorem simE_dnewT : SimE tDNewT dDNewT := fun H0 B σ H ρ Q QD R q k => fun p hp => by
  have g : Grow H (upd H p (.dT [])) := .new hp
  exact k (.nw (.dict [mark])) ρ _ _ (R.grow g) g.stp .refl ((resOk_of R g (r := .nw (.dict [mark])) ⟨p, rfl, hp, by rw [upd_same]; exact fun z => (nomatch z), .inr ⟨[], [], rfl, upd_same, .nil⟩⟩)) q
theorem pi_zipK {X : Cx} {K : PySem.W.Frag} {e e2 : Expr} {ta : TA} {p pos tpos : Pos} {elts : List Expr} {kk : Nat} (hg : Gl X "zip") (hm : X.mg "zip" = none) (ha : PA X [e, e2] ta)
    (hs : starEach [e, e2] X.env = (false, eval e X.env) :: starEach [e2] X.env := by rfl) (hpl : (backTo pos (starEach [e2] X.env)).any (·.1) = false := by rfl) (hK : X.K = K := by rfl) :
    PI X (.Tuple elts kk tpos) (.Call (.Name "zip" p) [e, e2] [] pos) (iZipU K ta) := by
  subst hK
  exact pi_zipU hg hm ha hs hpl
theorem pi_enumK {X : Cx} {K : PySem.W.Frag} {e : Expr} {ta : TA} {p pos tpos : Pos} {elts : List Expr} {kk : Nat} (hg : Gl X "enumerate") (hm : X.mg "enumerate" = none) (ha : PA X [e] ta) (hs : starEach [e] X.env = [(false, eval e X.env)] := by rfl) (hK : X.K = K := by rfl) :
    PI X (.Tuple elts kk tpos) (.Call (.Name "enumerate" p) [e] [] pos) (iEnumU K ta) := by
  subst hK
  exact pi_enumU hg hm ha hs
theorem pg_tupK {X : Cx} {K : PySem.W.Frag} {pos : Pos} {es : List Expr} {k : Nat} {t : TGs} {n : Nat} (hc : X.calm = true) (h : PGs X es t)
    (hn : (assignEach es X.env).length = n := by rfl) (hst : (assignEach es X.env).findIdx? (·.1) = none := by rfl) (hK : X.K = K := by rfl) : PG X (.Tuple es k pos) (gTup K n t) := by
  subst hK
  exact pg_tup hc h hn hst
theorem ind_dnewK {i : Nat} : Ind tDNewK i := fun _ _ => rfl
theorem ind_dnewT {i : Nat} : Ind tDNewT i := fun _ _ => rfl
theorem hu1 {k : Nat} {A : Around} (r : Room k A) : A.units + 1 < cLine := by
  have := r.un
  omega
end Dl
set_option Elab.async false
set_option linter.all false
set_option maxRecDepth 100000
set_option maxHeartbeats 4000000
/-! The data layer, part 20: next of a zip whose last tuple may still be there. -/
namespace Dl
open PySem L2 RZ PyProof.Rows
/-- a zip's record: its last tuple f0, b: that it is known to be held -/
abbrev IsZ4 (h : Heap) (z TI TO : Addr) (f0 : Value) (b : Bool) : Prop :=
  h.get? z = some { cls := .type "zip", dict := none, data := .fields #[f0, .bool b, .bool false, .ref TI, .ref TO], slots := #[] }
def Z0 (f0 : Value) : Prop := f0 = .none ∨ ∃ T : Addr, f0 = rawInt (T : Int)
def ZA (h : Heap) (z TI TO : Addr) : Prop := ∃ f0 b, IsZ4 h z TI TO f0 b ∧ Z0 f0
section
variable {prog : Program} {w : World} {A : Around} {E : Value → Shared → Prop} {s : Shared} {z TI TO i1 i2 : Addr} {fp1 fp2 : List Addr} {n1 n2 i : Nat} {P1 P2 : Nat → Value → Prop} {St1 St2 : Nat → Heap → Prop} {a1 a2 : Value} {f0 : Value} {b : Bool}
theorem loadDead {a : Addr} {Q : Option Obj → Shared → Prop} (ho : s.heap.get? a = none) (h : Q none s) : wpAny (model prog w) A (loadIfAlive a) Q E s := by
  have h' : Q (s.heap.get? a) s := by rw [ho]; exact h
  exact fun _ _ _ => h'
theorem loadAlive {a : Addr} {o : Obj} {Q : Option Obj → Shared → Prop} (ho : s.heap.get? a = some o) (h : Q (some o) s) : wpAny (model prog w) A (loadIfAlive a) Q E s := by
  have h' : Q (s.heap.get? a) s := by rw [ho]; exact h
  exact fun _ _ _ => h'
theorem owned_any {Q : Bool → Shared → Prop} (hz : IsZ4 s.heap z TI TO f0 b) (hf : Z0 f0) (ht : Q true s) (hh : ∀ h', IsZ4 h' z TI TO f0 true → Heap.SameBut z s.heap h' → Q false { s with heap := h' }) :
    wpAny (model prog w) A (Builtin.SmallTypes.ownedTupleIsFree (.ref z)) Q E s := by
  unfold Builtin.SmallTypes.ownedTupleIsFree
  rcases hf with rfl | ⟨T, rfl⟩
  · exact wpAny_bind (wpAny_field hz rfl (x := .none) rfl (wpAny_pure ht))
  · refine wpAny_bind (wpAny_field hz rfl (x := rawInt (T : Int)) rfl ?_)
    show wpAny _ _ (loadIfAlive ((T : Int).toNat) >>= _) _ _ _
    rw [Int.toNat_natCast]
    cases hT : s.heap.get? T with
    | none =>
      refine wpAny_bind (loadDead hT ?_)
      simp only [Option.isNone_none, if_true]
      exact wpAny_pure ht
    | some o =>
      refine wpAny_bind (loadAlive hT ?_)
      simp only [Option.isNone_some, Bool.false_eq_true, if_false]
      refine wpAny_bind (wpAny_field hz rfl (x := .bool b) rfl ?_)
      cases b with
      | true =>
        rw [if_neg (show ¬ ((Value.bool true != Value.bool true) = true) from Bool.false_ne_true)]
        exact wpAny_pure (hh s.heap hz (Heap.SameBut.refl _ _))
      | false =>
        rw [if_pos (show (Value.bool false != Value.bool true) = true from rfl)]
        exact wpAny_bind (wpAny_setField_rec hz (by simp) fun h₁ hz₁ hs₁ => wpAny_pure (hh h₁ hz₁ hs₁))
theorem zipA_next_item {Q : Value → Shared → Prop} (S : ZipSep2 z TI TO i1 i2 fp1 fp2) (D1 : Draws prog w A i1 fp1 n1 P1 St1) (D2 : Draws prog w A i2 fp2 n2 P2 St2)
    (hz : IsZ4 s.heap z TI TO f0 b) (hf : Z0 f0) (hTI : IsTupOf2 s.heap TI (.ref i1) (.ref i2)) (hTO : IsTupOf2 s.heap TO a1 a2) (st1 : St1 i s.heap) (st2 : St2 i s.heap) (hlt1 : i < n1) (hlt2 : i < n2)
    (hQ : ∀ x1 x2 h' tk, P1 i x1 → P2 i x2 → ZA h' z TI TO → IsTupOf2 h' TI (.ref i1) (.ref i2) → (∃ a1 a2, IsTupOf2 h' TO a1 a2) → St1 (i + 1) h' → St2 (i + 1) h' → IsTupOf2 h' s.heap.objs.size x1 x2 → h'.objs.size = s.heap.objs.size + 1 →
      (∀ c o, c ≠ z → c ≠ TO → c ≠ i1 → c ≠ i2 → s.heap.get? c = some o → h'.get? c = some o) → Q (.ref s.heap.objs.size) { s with heap := h', toks := tk }) :
    wpAny (model prog w) A (Builtin.«zip.__next__» ⟨[.ref z], []⟩) (fun fin s' => ∃ v, fin = .done (.ret v) ∧ Q v s') E s := by
  obtain ⟨hp, g, d, tk0, os⟩ := s
  show wpAny _ _ (field (.ref z) 2 >>= _) _ _ _
  refine wpAny_bind (wpAny_field hz rfl (x := .bool false) rfl ?_)
  show wpAny _ _ (field (.ref z) 3 >>= _) _ _ _
  refine wpAny_bind (wpAny_field hz rfl (x := .ref TI) rfl ?_)
  refine wpAny_bind (wpAny_seqItems hTI rfl ?_)
  show wpAny _ _ (Builtin.SmallTypes.ownedTupleIsFree (.ref z) >>= _) _ _ _
  refine wpAny_bind (owned_any hz hf ?free fun g0 hz0 hs0 => ?held)
  case free =>
    simp only [if_true]
    refine wpAny_bind (wpAny_rule ?_)
    refine wpAny_bind (wpAny_field hz rfl (x := .ref TO) rfl ?_)
    refine wpAny_bind (wpAny_setField_rec hz (by simp) fun g0 hz0 hs0 => ?_)
    replace hz0 : IsZ4 g0 z TI TO .ellipsis b := hz0
    replace hs0 : Heap.SameBut z hp g0 := hs0
    refine wpAny_bind ?_
    simp only [List.zipIdx_cons, List.zipIdx_nil, List.forIn_cons, List.forIn_nil]
    refine wpAny_bind (wpAny_bind (wpAny_onRaise ?_))
    show wpAny _ _ (Builtin.SmallTypes.nextOf (.ref i1) >>= _) _ _ ⟨g0, g, d, tk0, os⟩
    refine wpAny_bind (D1.item i _ _ _ hlt1 (D1.over st1 hs0 S.zf1) fun x1 p1 tk1 hx1 sn1 hp1 => wpAny_pure ?_)
    replace hp1 : Heap.SameBut i1 g0 p1 := hp1
    have hU1 : IsTupOf2 p1 TO a1 a2 := hp1.extBut _ _ S.Ti1 (hs0.extBut _ _ S.TOz hTO)
    refine wpAny_bind (wpAny_seqItems (s := ⟨p1, g, d, tk1, os⟩) hU1 rfl ?_)
    refine wpAny_bind (updateSeq_IsTupOf2 (s := ⟨p1, g, d, tk1, os⟩) hU1 fun g1 hT1 hs1 => ?_)
    replace hT1 : IsTupOf2 g1 TO x1 a2 := hT1
    replace hs1 : Heap.SameBut TO p1 g1 := hs1
    refine wpAny_bind (wpAny_letGo (wpAny_pure ?_))
    refine wpAny_bind (wpAny_bind (wpAny_onRaise ?_))
    show wpAny _ _ (Builtin.SmallTypes.nextOf (.ref i2) >>= _) _ _ ⟨g1, g, d, tk1, os⟩
    refine wpAny_bind (D2.item i _ _ _ hlt2 (D2.over (D2.over (D2.over st2 hs0 S.zf2) hp1 S.sep1_2) hs1 S.Tf2) fun x2 p2 tk2 hx2 sn2 hp2 => wpAny_pure ?_)
    replace hp2 : Heap.SameBut i2 g1 p2 := hp2
    have hU2 : IsTupOf2 p2 TO x1 a2 := hp2.extBut _ _ S.Ti2 hT1
    refine wpAny_bind (wpAny_seqItems (s := ⟨p2, g, d, tk2, os⟩) hU2 rfl ?_)
    refine wpAny_bind (updateSeq_IsTupOf2 (s := ⟨p2, g, d, tk2, os⟩) hU2 fun g2 hT2 hs2 => ?_)
    replace hT2 : IsTupOf2 g2 TO x1 x2 := hT2
    replace hs2 : Heap.SameBut TO p2 g2 := hs2
    refine wpAny_bind (wpAny_letGo (wpAny_pure (wpAny_pure ?_)))
    refine wpAny_bind (wpAny_seqItems (s := ⟨g2, g, d, tk2, os⟩) hT2 rfl ?_)
    refine wpAny_bind (wpAny_newTuple ?_)
    have hsz : g2.objs.size = hp.objs.size := by rw [hs2.1, hp2.1, hs1.1, hp1.1, hs0.1]
    have hzz : IsZ4 g2 z TI TO .ellipsis b := (hs2.extBut _ _ S.TOz.symm (hp2.extBut _ _ S.zi2 (hs1.extBut _ _ S.TOz.symm (hp1.extBut _ _ S.zi1 hz0))))
    have hkk : ∀ c o, c ≠ z → c ≠ TO → c ≠ i1 → c ≠ i2 → hp.get? c = some o → g2.get? c = some o := fun c o cz cT c1 c2 e =>
      (hs2.extBut _ _ cT (hp2.extBut _ _ c2 (hs1.extBut _ _ cT (hp1.extBut _ _ c1 (hs0.extBut _ _ cz e)))))
    have hj1 : St1 (i + 1) g2 := (D1.over (D1.over (D1.over sn1 hs1 S.Tf1) hp2 S.sep2_1) hs2 S.Tf1)
    have hj2 : St2 (i + 1) g2 := (D2.over sn2 hs2 S.Tf2)
    have hTI2 : IsTupOf2 g2 TI (.ref i1) (.ref i2) := hkk _ _ S.TIz S.TITO S.TIi1 S.TIi2 hTI
    have hzlt : z < g2.objs.size := Heap.lt_size hzz
    show wpAny _ _ (Builtin.SmallTypes.ownedTupleHandOut (.ref z) (.ref g2.objs.size) >>= _) _ _ ⟨g2.push { cls := .type "tuple", data := .seq #[x1, x2] }, g, d, tk2, os⟩
    refine wpAny_bind ?_
    unfold Builtin.SmallTypes.ownedTupleHandOut
    have hz₆ : IsZ4 (g2.push { cls := .type "tuple", data := .seq #[x1, x2] }) z TI TO .ellipsis b := Heap.get?_push_of_some _ hzz
    refine wpAny_bind (wpAny_setField_rec hz₆ (by simp) fun h₇ hz₇ hs₇ => ?_)
    replace hz₇ : IsZ4 h₇ z TI TO (rawInt g2.objs.size) b := hz₇
    refine wpAny_setField_rec hz₇ (by simp) fun h₈ hz₈ hs₈ => ?_
    replace hz₈ : IsZ4 h₈ z TI TO (rawInt g2.objs.size) false := hz₈
    replace hs₇ : Heap.SameBut z (g2.push { cls := .type "tuple", data := .seq #[x1, x2] }) h₇ := hs₇
    replace hs₈ : Heap.SameBut z h₇ h₈ := hs₈
    have up : ∀ c o, c ≠ z → g2.get? c = some o → h₈.get? c = some o := fun c o c1 e => hs₈.extBut _ _ c1 (hs₇.extBut _ _ c1 (Heap.get?_push_of_some _ e))
    have hT₈ : IsTupOf2 h₈ g2.objs.size x1 x2 := hs₈.extBut _ _ (Nat.ne_of_gt hzlt) (hs₇.extBut _ _ (Nat.ne_of_gt hzlt) (Heap.get?_push_size _ rfl))
    have hz8 : h₈.objs.size = g2.objs.size + 1 := by rw [hs₈.1, hs₇.1, Heap.size_push]
    rw [hsz] at hz₈ hT₈ hz8
    refine wpAny_pure ⟨_, rfl, ?_⟩
    show Q (.ref g2.objs.size) ⟨h₈, g, d, tk2, os⟩
    rw [hsz]
    exact hQ x1 x2 h₈ tk2 hx1 hx2 ⟨_, _, hz₈, .inr ⟨_, rfl⟩⟩ (up _ _ S.TIz hTI2) ⟨_, _, up _ _ S.TOz hT2⟩ (D1.frame _ _ _ hj1 fun b hb o e => up b o (fun q => S.zf1 (q ▸ hb)) e) (D2.frame _ _ _ hj2 fun b hb o e => up b o (fun q => S.zf2 (q ▸ hb)) e) hT₈ hz8 fun c o cz cT c1 c2 e => up c o cz (hkk c o cz cT c1 c2 e)
  case held =>
    replace hs0 : Heap.SameBut z hp g0 := hs0
    simp only [Bool.false_eq_true, if_false]
    refine wpAny_bind ?_
    rw [← Array.forIn_toList]
    simp only [List.forIn_cons, List.forIn_nil]
    refine wpAny_bind (wpAny_bind (wpAny_holding ?_))
    show wpAny _ _ (Builtin.SmallTypes.nextOf (.ref i1) >>= _) _ _ ⟨g0, g, d, tk0, os⟩
    refine wpAny_bind (D1.item i _ _ _ hlt1 (D1.over st1 hs0 S.zf1) fun x1 p1 tk1 hx1 sn1 hp1 => wpAny_pure ?_)
    replace hp1 : Heap.SameBut i1 g0 p1 := hp1
    refine wpAny_pure ?_
    refine wpAny_bind (wpAny_bind (wpAny_holding ?_))
    show wpAny _ _ (Builtin.SmallTypes.nextOf (.ref i2) >>= _) _ _ ⟨p1, g, d, tk1, os⟩
    refine wpAny_bind (D2.item i _ _ _ hlt2 (D2.over (D2.over st2 hs0 S.zf2) hp1 S.sep1_2) fun x2 p2 tk2 hx2 sn2 hp2 => wpAny_pure ?_)
    replace hp2 : Heap.SameBut i2 p1 p2 := hp2
    refine wpAny_pure (wpAny_pure ?_)
    show wpAny _ _ (newTuple [x1, x2] >>= _) _ _ _
    refine wpAny_bind (wpAny_newTuple ?_)
    have hsz : p2.objs.size = hp.objs.size := by rw [hp2.1, hp1.1, hs0.1]
    have hk : ∀ c o, c ≠ z → c ≠ i1 → c ≠ i2 → hp.get? c = some o → p2.get? c = some o := fun c o c1 c2 c3 e => hp2.extBut _ _ c3 (hp1.extBut _ _ c2 (hs0.extBut _ _ c1 e))
    have hz₃ : IsZ4 p2 z TI TO f0 true := hp2.extBut _ _ S.zi2 (hp1.extBut _ _ S.zi1 hz0)
    have st1' : St1 (i + 1) p2 := D1.over sn1 hp2 S.sep2_1
    refine wpAny_pure ⟨_, rfl, ?_⟩
    show Q (.ref p2.objs.size) _
    have hpr : IsTupOf2 (p2.push { cls := .type "tuple", data := .seq #[x1, x2] }) p2.objs.size x1 x2 := Heap.get?_push_size _ rfl
    have hz4 : (p2.push { cls := .type "tuple", data := .seq #[x1, x2] }).objs.size = p2.objs.size + 1 := Heap.size_push ..
    have up : ∀ c o, p2.get? c = some o → (p2.push { cls := .type "tuple", data := .seq #[x1, x2] }).get? c = some o := fun c o e => Heap.get?_push_of_some _ e
    rw [hsz] at hpr hz4 ⊢
    exact hQ x1 x2 _ tk2 hx1 hx2 ⟨_, _, up _ _ hz₃, hf⟩ (up _ _ (hk _ _ S.TIz S.TIi1 S.TIi2 hTI)) ⟨_, _, up _ _ (hk _ _ S.TOz S.Ti1 S.Ti2 hTO)⟩ (D1.frame _ _ _ st1' fun b _ o e => up b o e) (D2.frame _ _ _ sn2 fun b _ o e => up b o e) hpr hz4 fun c o cz _ c1 c2 e => up c o (hk c o cz c1 c2 e)
theorem zipA_next_end {Q : Fin → Shared → Prop} (S : ZipSep2 z TI TO i1 i2 fp1 fp2) (D1 : Draws prog w A i1 fp1 n1 P1 St1) (D2 : Draws prog w A i2 fp2 n2 P2 St2)
    (hz : IsZ4 s.heap z TI TO f0 b) (hf : Z0 f0) (hTI : IsTupOf2 s.heap TI (.ref i1) (.ref i2)) (hTO : IsTupOf2 s.heap TO a1 a2) (st1 : St1 i s.heap) (st2 : St2 i s.heap) (hle1 : i ≤ n1) (hle2 : i ≤ n2) (hend : i = n1 ∨ i = n2)
    (hE : ∀ h' tk e, (∀ c o, c ≠ z → c ≠ TO → c ≠ i1 → c ≠ i2 → s.heap.get? c = some o → h'.get? c = some o) → (∃ o, h'.get? e = some o ∧ o.cls = .type "StopIteration") → E (.ref e) { s with heap := h', toks := tk }) :
    wpAny (model prog w) A (Builtin.«zip.__next__» ⟨[.ref z], []⟩) Q E s := by
  obtain ⟨hp, g, d, tk0, os⟩ := s
  show wpAny _ _ (field (.ref z) 2 >>= _) _ _ _
  refine wpAny_bind (wpAny_field hz rfl (x := .bool false) rfl ?_)
  show wpAny _ _ (field (.ref z) 3 >>= _) _ _ _
  refine wpAny_bind (wpAny_field hz rfl (x := .ref TI) rfl ?_)
  refine wpAny_bind (wpAny_seqItems hTI rfl ?_)
  show wpAny _ _ (Builtin.SmallTypes.ownedTupleIsFree (.ref z) >>= _) _ _ _
  refine wpAny_bind (owned_any hz hf ?free fun g0 hz0 hs0 => ?held)
  case free =>
    simp only [if_true]
    refine wpAny_bind (wpAny_rule ?_)
    refine wpAny_bind (wpAny_field hz rfl (x := .ref TO) rfl ?_)
    refine wpAny_bind (wpAny_setField_rec hz (by simp) fun g0 hz0 hs0 => ?_)
    replace hz0 : IsZ4 g0 z TI TO .ellipsis b := hz0
    replace hs0 : Heap.SameBut z hp g0 := hs0
    refine wpAny_bind ?_
    simp only [List.zipIdx_cons, List.zipIdx_nil, List.forIn_cons, List.forIn_nil]
    refine wpAny_bind (wpAny_bind (wpAny_onRaise ?_))
    show wpAny _ _ (Builtin.SmallTypes.nextOf (.ref i1) >>= _) _ _ ⟨g0, g, d, tk0, os⟩
    by_cases hlt1 : i < n1
    · refine wpAny_bind (D1.item i _ _ _ hlt1 (D1.over st1 hs0 S.zf1) fun x1 p1 tk1 hx1 sn1 hp1 => wpAny_pure ?_)
      replace hp1 : Heap.SameBut i1 g0 p1 := hp1
      have hU1 : IsTupOf2 p1 TO a1 a2 := hp1.extBut _ _ S.Ti1 (hs0.extBut _ _ S.TOz hTO)
      refine wpAny_bind (wpAny_seqItems (s := ⟨p1, g, d, tk1, os⟩) hU1 rfl ?_)
      refine wpAny_bind (updateSeq_IsTupOf2 (s := ⟨p1, g, d, tk1, os⟩) hU1 fun g1 hT1 hs1 => ?_)
      replace hT1 : IsTupOf2 g1 TO x1 a2 := hT1
      replace hs1 : Heap.SameBut TO p1 g1 := hs1
      refine wpAny_bind (wpAny_letGo (wpAny_pure ?_))
      have hi2 : i = n2 := by omega
      refine wpAny_bind (wpAny_bind (wpAny_onRaise ?_))
      show wpAny _ _ (Builtin.SmallTypes.nextOf (.ref i2) >>= _) _ _ ⟨g1, g, d, tk1, os⟩
      refine wpAny_bind (D2.done ⟨g1, g, d, tk1, os⟩ _ _ (by rw [← hi2]; exact (D2.over (D2.over (D2.over st2 hs0 S.zf2) hp1 S.sep1_2) hs1 S.Tf2)) fun q e hq he => ?_)
      replace hq : Heap.ExtBut i2 g1 q := hq
      obtain ⟨oe, hoe, hce⟩ := he
      replace hoe : q.get? e = some oe := hoe
      have hzq : IsZ4 q z TI TO .ellipsis b := hq _ _ S.zi2 (hs1.extBut _ _ S.TOz.symm (hp1.extBut _ _ S.zi1 hz0))
      have hez : e ≠ z := fun x => by subst x; rw [hzq] at hoe; cases hoe; simp at hce
      refine wpAny_setField_rec (s := ⟨q, g, d, tk1, os⟩) hzq (by simp) fun q' _ hq' => ?_
      replace hq' : Heap.SameBut z q q' := hq'
      exact hE q' tk1 e (fun c o cz cT c1 c2 x => hq'.extBut _ _ cz (hq _ _ c2 (hs1.extBut _ _ cT (hp1.extBut _ _ c1 (hs0.extBut _ _ cz x))))) ⟨oe, hq'.extBut _ _ hez hoe, hce⟩
    · have hi1 : i = n1 := by omega
      refine wpAny_bind (D1.done ⟨g0, g, d, tk0, os⟩ _ _ (by rw [← hi1]; exact (D1.over st1 hs0 S.zf1)) fun q e hq he => ?_)
      replace hq : Heap.ExtBut i1 g0 q := hq
      obtain ⟨oe, hoe, hce⟩ := he
      replace hoe : q.get? e = some oe := hoe
      have hzq : IsZ4 q z TI TO .ellipsis b := hq _ _ S.zi1 hz0
      have hez : e ≠ z := fun x => by subst x; rw [hzq] at hoe; cases hoe; simp at hce
      refine wpAny_setField_rec (s := ⟨q, g, d, tk0, os⟩) hzq (by simp) fun q' _ hq' => ?_
      replace hq' : Heap.SameBut z q q' := hq'
      exact hE q' tk0 e (fun c o cz cT c1 c2 x => hq'.extBut _ _ cz (hq _ _ c1 (hs0.extBut _ _ cz x))) ⟨oe, hq'.extBut _ _ hez hoe, hce⟩
  case held =>
    replace hs0 : Heap.SameBut z hp g0 := hs0
    simp only [Bool.false_eq_true, if_false]
    refine wpAny_bind ?_
    rw [← Array.forIn_toList]
    simp only [List.forIn_cons, List.forIn_nil]
    refine wpAny_bind (wpAny_bind (wpAny_holding ?_))
    show wpAny _ _ (Builtin.SmallTypes.nextOf (.ref i1) >>= _) _ _ ⟨g0, g, d, tk0, os⟩
    by_cases hlt1 : i < n1
    · refine wpAny_bind (D1.item i _ _ _ hlt1 (D1.over st1 hs0 S.zf1) fun x1 p1 tk1 hx1 sn1 hp1 => wpAny_pure ?_)
      replace hp1 : Heap.SameBut i1 g0 p1 := hp1
      refine wpAny_pure ?_
      have hi2 : i = n2 := by omega
      refine wpAny_bind (wpAny_bind (wpAny_holding ?_))
      show wpAny _ _ (Builtin.SmallTypes.nextOf (.ref i2) >>= _) _ _ ⟨p1, g, d, tk1, os⟩
      refine wpAny_bind (D2.done ⟨p1, g, d, tk1, os⟩ _ _ (by rw [← hi2]; exact (D2.over (D2.over st2 hs0 S.zf2) hp1 S.sep1_2)) fun q e hq he => ?_)
      replace hq : Heap.ExtBut i2 p1 q := hq
      exact hE q tk1 e (fun c o cz cT c1 c2 x => hq _ _ c2 (hp1.extBut _ _ c1 (hs0.extBut _ _ cz x))) he
    · have hi1 : i = n1 := by omega
      refine wpAny_bind (D1.done ⟨g0, g, d, tk0, os⟩ _ _ (by rw [← hi1]; exact (D1.over st1 hs0 S.zf1)) fun q e hq he => ?_)
      replace hq : Heap.ExtBut i1 g0 q := hq
      exact hE q tk0 e (fun c o cz cT c1 c2 x => hq _ _ c1 (hs0.extBut _ _ cz x)) he
end
end Dl
set_option Elab.async false
set_option linter.all false
set_option maxRecDepth 100000
set_option maxHeartbeats 4000000
/-! The data layer, part 21: enumerate over a zip. -/
namespace Dl
open PySem L2 RZ PyProof.Rows
section
variable {prog : Program} {w : World} {A : Around} {E : Value → Shared → Prop} {s : Shared} {e z TI TO i1 i2 : Addr} {fp1 fp2 : List Addr} {n1 n2 i : Nat} {P1 P2 : Nat → Value → Prop} {St1 St2 : Nat → Heap → Prop}
/-- what stands behind a zip -/
structure ZS (h : Heap) (z TI TO i1 i2 : Addr) (i : Nat) (St1 St2 : Nat → Heap → Prop) : Prop where
  z : ZA h z TI TO
  ti : IsTupOf2 h TI (.ref i1) (.ref i2)
  to : ∃ a1 a2, IsTupOf2 h TO a1 a2
  s1 : St1 i h
  s2 : St2 i h
theorem nextOf_zip_item {Q : Value → Shared → Prop} (S : ZipSep2 z TI TO i1 i2 fp1 fp2) (D1 : Draws prog w A.in1 i1 fp1 n1 P1 St1) (D2 : Draws prog w A.in1 i2 fp2 n2 P2 St2) (hz : ZS s.heap z TI TO i1 i2 i St1 St2) (hlt1 : i < n1) (hlt2 : i < n2)
    (hQ : ∀ x1 x2 h' tk, P1 i x1 → P2 i x2 → ZS h' z TI TO i1 i2 (i + 1) St1 St2 → IsTupOf2 h' s.heap.objs.size x1 x2 → h'.objs.size = s.heap.objs.size + 1 →
      (∀ c o, c ≠ z → c ≠ TO → c ≠ i1 → c ≠ i2 → s.heap.get? c = some o → h'.get? c = some o) → Q (.ref s.heap.objs.size) { s with heap := h', toks := tk }) :
    wpAny (model prog w) A (Builtin.SmallTypes.nextOf (.ref z)) Q E s := by
  obtain ⟨⟨f0, b, hz4, hf⟩, hTI, ⟨a1, a2, hTO⟩, st1, st2⟩ := hz
  have hT : s.TypeIs (.ref z) "zip" := ⟨_, hz4, rfl⟩
  unfold Builtin.SmallTypes.nextOf
  exact wpAny_bind (wpAny_callSpecial?_slot (name := Str.ofString "__next__") hT F.slot_zip_next
    (wpAny_call_entry F.slot_zip_next hT F.entry_zip_next
      (zipA_next_item S D1 D2 hz4 hf hTI hTO st1 st2 hlt1 hlt2 fun x1 x2 h' tk y1 y2 b1 b2 b3 d1 d2 b5 b6 b7 => wpAny_pure (hQ x1 x2 h' tk y1 y2 ⟨b1, b2, b3, d1, d2⟩ b5 b6 b7)) (F.args_zip_next_1 _)))
theorem nextOf_zip_end {Q : Value → Shared → Prop} (S : ZipSep2 z TI TO i1 i2 fp1 fp2) (D1 : Draws prog w A.in1 i1 fp1 n1 P1 St1) (D2 : Draws prog w A.in1 i2 fp2 n2 P2 St2) (hz : ZS s.heap z TI TO i1 i2 i St1 St2) (hle1 : i ≤ n1) (hle2 : i ≤ n2) (hend : i = n1 ∨ i = n2)
    (hE : ∀ h' tk e, (∀ c o, c ≠ z → c ≠ TO → c ≠ i1 → c ≠ i2 → s.heap.get? c = some o → h'.get? c = some o) → (∃ o, h'.get? e = some o ∧ o.cls = .type "StopIteration") → E (.ref e) { s with heap := h', toks := tk }) :
    wpAny (model prog w) A (Builtin.SmallTypes.nextOf (.ref z)) Q E s := by
  obtain ⟨⟨f0, b, hz4, hf⟩, hTI, ⟨a1, a2, hTO⟩, st1, st2⟩ := hz
  have hT : s.TypeIs (.ref z) "zip" := ⟨_, hz4, rfl⟩
  unfold Builtin.SmallTypes.nextOf
  exact wpAny_bind (wpAny_callSpecial?_slot (name := Str.ofString "__next__") hT F.slot_zip_next
    (wpAny_call_entry F.slot_zip_next hT F.entry_zip_next
      (zipA_next_end S D1 D2 hz4 hf hTI hTO st1 st2 hle1 hle2 hend hE) (F.args_zip_next_1 _)))
/-- enumerate's turn over any inner iterator: c, what the inner one does -/
theorem enum_next_any {it : Addr} {old : Value} {Q : Value → Shared → Prop} (he : IsEnum s.heap e it ((i : Nat) : Int) old)
    (hc : ∀ Q' : Value → Shared → Prop, (∀ x h' tk, IsEnum h' e it ((i : Nat) : Int) old → (∀ h'' tk', h''.get? h'.objs.size = some { cls := .type "tuple", data := .seq #[.int (i : Nat) tk, x] } → IsEnumOut h'' e it ((i : Int) + 1) x h'.objs.size → h''.objs.size = h'.objs.size + 1 →
        (∀ b o, b ≠ e → h'.get? b = some o → h''.get? b = some o) → tk' = tk + 1 → Q (.ref h'.objs.size) { s with heap := h'', toks := tk' }) → Q' x { s with heap := h', toks := tk }) → wpAny (model prog w) A (Builtin.SmallTypes.nextOf (.ref it)) Q' E s) :
    wpAny (model prog w) A (Builtin.«enumerate.__next__» ⟨[.ref e], []⟩) (fun fin s' => ∃ v, fin = .done (.ret v) ∧ Q v s') E s := by
  obtain ⟨hp, g, d, tk₀, os⟩ := s
  show wpAny _ _ (field (.ref e) 2 >>= _) _ _ _
  refine wpAny_bind (wpAny_field he rfl (x := .ref it) rfl ?_)
  refine wpAny_bind (hc _ fun x h₁ tk he₁ hfin => ?_)
  show wpAny _ _ (field (.ref e) 3 >>= _) _ _ ⟨h₁, g, d, tk, os⟩
  refine wpAny_bind (wpAny_field he₁ rfl (x := rawInt i) rfl ?_)
  show wpAny _ _ (field (.ref e) 4 >>= _) _ _ ⟨h₁, g, d, tk, os⟩
  refine wpAny_bind (wpAny_field he₁ rfl (x := .none) rfl ?_)
  show wpAny _ _ (mkInt i >>= _) _ _ ⟨h₁, g, d, tk, os⟩
  refine wpAny_bind (wpAny_mkInt ?_)
  show wpAny _ _ (setField (.ref e) 3 (rawInt ((i : Int) + 1)) >>= _) _ _ ⟨h₁, g, d, tk + 1, os⟩
  refine wpAny_bind (wpAny_setField_rec he₁ (by simp) fun h₂ he₂ hs₂ => ?_)
  replace hs₂ : Heap.SameBut e h₁ h₂ := hs₂
  replace he₂ : IsEnum h₂ e it ((i : Int) + 1) old := he₂
  show wpAny _ _ (setField (.ref e) 4 .none >>= _) _ _ ⟨h₂, g, d, tk + 1, os⟩
  refine wpAny_bind (wpAny_setField_rec he₂ (by simp) fun h₃ he₃ hs₃ => ?_)
  replace hs₃ : Heap.SameBut e h₂ h₃ := hs₃
  replace he₃ : IsEnum h₃ e it ((i : Int) + 1) old := he₃
  show wpAny _ _ (newTuple [.int i tk, x] >>= _) _ _ ⟨h₃, g, d, tk + 1, os⟩
  refine wpAny_bind (wpAny_newTuple ?_)
  have he₄ : IsEnum (h₃.push { cls := .type "tuple", data := .seq #[.int i tk, x] }) e it ((i : Int) + 1) old := Heap.get?_push_of_some _ he₃
  generalize hh₄ : h₃.push { cls := .type "tuple", data := .seq #[.int i tk, x] } = h₄ at he₄
  have hsz : h₃.objs.size = h₁.objs.size := by rw [hs₃.1, hs₂.1]
  have hel : e < h₁.objs.size := Heap.lt_size he₁
  have ht₄ : h₄.get? h₁.objs.size = some { cls := .type "tuple", data := .seq #[.int i tk, x] } := by rw [← hh₄, ← hsz]; exact Heap.get?_push_size _ rfl
  have hz₄ : h₄.objs.size = h₁.objs.size + 1 := by rw [← hh₄, Heap.size_push, hsz]
  have hk₄ : ∀ b o, b ≠ e → h₁.get? b = some o → h₄.get? b = some o := fun b o hbe hb => by
    rw [← hh₄]; exact Heap.get?_push_of_some _ (hs₃.extBut b o hbe (hs₂.extBut b o hbe hb))
  show wpAny _ _ (Builtin.SmallTypes.ownedTupleIsFree (.ref e) >>= _) _ _ ⟨h₄, g, d, tk + 1, os⟩
  rw [hsz]
  clear hh₄ he₃ hs₃ he₂ hs₂ hsz h₃ h₂
  refine wpAny_bind ?_
  unfold Builtin.SmallTypes.ownedTupleIsFree
  refine wpAny_bind (wpAny_field he₄ rfl (x := .none) rfl (wpAny_pure ?_))
  simp only [if_true]
  refine wpAny_bind (wpAny_rule ?_)
  refine wpAny_bind (wpAny_field he₄ rfl (x := old) rfl ?_)
  refine wpAny_bind (wpAny_setField_rec he₄ (by simp) fun h₅ he₅ hs₅ => ?_)
  replace hs₅ : Heap.SameBut e h₄ h₅ := hs₅
  replace he₅ : IsEnum h₅ e it ((i : Int) + 1) x := he₅
  show wpAny _ _ (Builtin.SmallTypes.ownedTupleHandOut (.ref e) (.ref h₁.objs.size) >>= _) _ _ ⟨h₅, g, d, tk + 1, os⟩
  refine wpAny_bind ?_
  unfold Builtin.SmallTypes.ownedTupleHandOut
  refine wpAny_bind (wpAny_setField_rec he₅ (by simp) fun h₆ he₆ hs₆ => ?_)
  replace hs₆ : Heap.SameBut e h₅ h₆ := hs₆
  replace he₆ : IsEnumOut h₆ e it ((i : Int) + 1) x h₁.objs.size := he₆
  refine wpAny_setField_rec he₆ (by simp) fun h₇ he₇ hs₇ => ?_
  replace hs₇ : Heap.SameBut e h₆ h₇ := hs₇
  replace he₇ : IsEnumOut h₇ e it ((i : Int) + 1) x h₁.objs.size := he₇
  refine wpAny_bind (wpAny_letGo (wpAny_pure ⟨_, rfl, hfin h₇ _ ?_ he₇ ?_ ?_ rfl⟩))
  · exact hs₇.extBut _ _ (Nat.ne_of_gt hel) (hs₆.extBut _ _ (Nat.ne_of_gt hel) (hs₅.extBut _ _ (Nat.ne_of_gt hel) ht₄))
  · rw [hs₇.1, hs₆.1, hs₅.1, hz₄]
  · exact fun b o hbe hb => hs₇.extBut b o hbe (hs₆.extBut b o hbe (hs₅.extBut b o hbe (hk₄ b o hbe hb)))
theorem pyNext_enumZ_item {old : Value} {Q : Option Value → Shared → Prop} (S : ZipSep2 z TI TO i1 i2 fp1 fp2) (D1 : Draws prog w A.in1.in1 i1 fp1 n1 P1 St1) (D2 : Draws prog w A.in1.in1 i2 fp2 n2 P2 St2)
    (he : IsEnum s.heap e z ((i : Nat) : Int) old) (hne : e ≠ z ∧ e ≠ TO ∧ e ≠ i1 ∧ e ≠ i2) (hz : ZS s.heap z TI TO i1 i2 i St1 St2) (hlt1 : i < n1) (hlt2 : i < n2)
    (hQ : ∀ x1 x2 hm tk, P1 i x1 → P2 i x2 → ZS hm z TI TO i1 i2 (i + 1) St1 St2 → IsTupOf2 hm s.heap.objs.size x1 x2 → hm.objs.size = s.heap.objs.size + 1 →
      (∀ c o, c ≠ z → c ≠ TO → c ≠ i1 → c ≠ i2 → s.heap.get? c = some o → hm.get? c = some o) →
      ∀ h'', h''.get? hm.objs.size = some { cls := .type "tuple", data := .seq #[.int (i : Nat) tk, .ref s.heap.objs.size] } → IsEnumOut h'' e z ((i : Int) + 1) (.ref s.heap.objs.size) hm.objs.size → h''.objs.size = hm.objs.size + 1 →
      (∀ b o, b ≠ e → hm.get? b = some o → h''.get? b = some o) → Q (some (.ref hm.objs.size)) { s with heap := h'', toks := tk + 1 }) :
    wpAny (model prog w) A (pyNext (.ref e)) Q E s := by
  have hT : s.TypeIs (.ref e) "enumerate" := ⟨_, he, rfl⟩
  unfold pyNext
  refine wpAny_bind (wpAny_attempt (wpAny_callSpecial?_slot (name := Str.ofString "__next__") hT F.slot_enumerate_next
    (wpAny_call_entry F.slot_enumerate_next hT F.entry_enumerate_next (enum_next_any he fun Q' hQ' => ?_) (F.args_enumerate_next_1 _))))
  refine nextOf_zip_item S D1 D2 hz hlt1 hlt2 fun x1 x2 hm tk y1 y2 hz' ht hsz hk => ?_
  refine hQ' _ hm tk (hk e _ hne.1 hne.2.1 hne.2.2.1 hne.2.2.2 he) fun h'' tk' b1 b2 b3 b4 etk => ?_
  subst etk
  exact wpAny_pure (hQ x1 x2 hm tk y1 y2 hz' ht hsz hk h'' b1 b2 b3 b4)
theorem pyNext_enumZ_end {it : Int} {old : Value} {Q : Option Value → Shared → Prop} (S : ZipSep2 z TI TO i1 i2 fp1 fp2) (D1 : Draws prog w A.in1.in1 i1 fp1 n1 P1 St1) (D2 : Draws prog w A.in1.in1 i2 fp2 n2 P2 St2)
    (he : IsEnum s.heap e z it old) (hz : ZS s.heap z TI TO i1 i2 i St1 St2) (hle1 : i ≤ n1) (hle2 : i ≤ n2) (hend : i = n1 ∨ i = n2)
    (hQ : ∀ h' tk, (∀ c o, c ≠ z → c ≠ TO → c ≠ i1 → c ≠ i2 → s.heap.get? c = some o → h'.get? c = some o) → Q none { s with heap := h', toks := tk }) : wpAny (model prog w) A (pyNext (.ref e)) Q E s := by
  have hT : s.TypeIs (.ref e) "enumerate" := ⟨_, he, rfl⟩
  unfold pyNext
  refine wpAny_bind (wpAny_attempt (wpAny_callSpecial?_slot (name := Str.ofString "__next__") hT F.slot_enumerate_next
    (wpAny_call_entry F.slot_enumerate_next hT F.entry_enumerate_next ?_ (F.args_enumerate_next_1 _))))
  show wpAny _ _ (field (.ref e) 2 >>= _) _ _ _
  refine wpAny_bind (wpAny_field he rfl (x := .ref z) rfl ?_)
  refine wpAny_bind (nextOf_zip_end S D1 D2 hz hle1 hle2 hend fun h' tk x hk hx => ?_)
  obtain ⟨o, ho, hc⟩ := hx
  refine wpAny_bind (wpAny_isInstance (T := "StopIteration") (b := true) ⟨o, ho, hc⟩ isSubtype_stop ?_)
  exact wpAny_pure (hQ _ _ hk)
end
end Dl
set_option Elab.async false
set_option linter.all false
set_option maxRecDepth 100000
set_option maxHeartbeats 4000000
/-! The data layer, part 22: for i, (x, y) in enumerate(zip(a, b)). -/
namespace Dl
open PySem L2 RZ PyProof.Rows
theorem ZA.keep {h h' : Heap} {z TI TO : Addr} (q : ZA h z TI TO) (k : ∀ o, h.get? z = some o → h'.get? z = some o) : ZA h' z TI TO := by
  obtain ⟨f0, b, e, r⟩ := q
  exact ⟨f0, b, k _ e, r⟩
def IteZ (b1 b2 : Bool) (K : PySem.W.Frag) (a b : Addr) : It :=
  ⟨fun i H => ∃ (xs ys : List V) (x y : V), Qs b1 K H a xs ∧ Qs b2 K H b ys ∧ xs[i]? = some x ∧ ys[i]? = some y,
    fun i H v H' => ∃ T U x y, v = .ref U ∧ H T = none ∧ U ≠ T ∧ H U = none ∧ H' = upd (upd H T (.tup [x, y])) U (.tup [.int (i : Nat), .ref T]) ∧ (∀ xs, Qs b1 K H a xs → xs[i]? = some x) ∧ ∀ ys, Qs b2 K H b ys → ys[i]? = some y,
    fun i H => ∃ xs ys : List V, Qs b1 K H a xs ∧ Qs b2 K H b ys ∧ i ≤ xs.length ∧ i ≤ ys.length ∧ (xs.length ≤ i ∨ ys.length ≤ i)⟩
theorem turn_enumZ (b1 b2 : Bool) {P : Program} {w : World} {K : PySem.W.Frag} {elts : List Expr} {kk : Nat} {tpos : Pos} {a b e z TI TO i1 i2 : Addr} (D : ZipApart z TI TO i1 i2 a b) (ne : e ≠ z ∧ e ≠ TI ∧ e ≠ TO ∧ e ≠ i1 ∧ e ≠ i2) :
    Turn P w K (.Tuple elts kk tpos) (IteZ b1 b2 K a b) [e, z, TI, TO, i1, i2] e (fun i h => (∃ old, IsEnum h e z ((i : Nat) : Int) old) ∧ ZA h z TI TO ∧ IsTupOf2 h TI (.ref i1) (.ref i2) ∧ (∃ x y, IsTupOf2 h TO x y) ∧ Qi b1 h i1 a i ∧ Qi b2 h i2 b i) where
  mem := by simp
  obj := fun i h st c hc => by
    obtain ⟨⟨old, he⟩, ⟨f0, fb, hz, _⟩, hTI, ⟨x, y, hTO⟩, q1, q2⟩ := st
    have e' : c = e ∨ c = z ∨ c = TI ∨ c = TO ∨ c = i1 ∨ c = i2 := by simpa using hc
    rcases e' with q | q | q | q | q | q
    · rw [q]; exact ⟨_, he, fun v q => nomatch q⟩
    · rw [q]; exact ⟨_, hz, fun v q => nomatch q⟩
    · rw [q]; exact ⟨_, hTI, fun v q => nomatch q⟩
    · rw [q]; exact ⟨_, hTO, fun v q => nomatch q⟩
    · rw [q]; exact q1.obj
    · rw [q]; exact q2.obj
  keep := fun i h h' st k => by
    obtain ⟨⟨old, he⟩, hz, hTI, ⟨x, y, hTO⟩, h1, h2⟩ := st
    exact ⟨⟨old, k e (by simp) _ he⟩, hz.keep (k z (by simp)), k TI (by simp) _ hTI, ⟨x, y, k TO (by simp) _ hTO⟩, h1.at' fun o q => k i1 (by simp) o q, h2.at' fun o q => k i2 (by simp) o q⟩
  item := by
    intro X hP hw hK hc i pins s σ H E I hf st hg
    subst hP hw hK
    obtain ⟨⟨old, he⟩, hz, hTI, hTO, h1, h2⟩ := st
    obtain ⟨xs, ys, x, y, hqx, hqy, hx, hy⟩ := hg
    obtain ⟨its, n1, g1, p⟩ := hqx.get I
    obtain ⟨its2, n2, g2, p2⟩ := hqy.get I
    obtain ⟨u, hu, ru⟩ := g1 i x hx
    obtain ⟨u2, hu2, ru2⟩ := g2 i y hy
    have l1 : i < its.toArray.size := by have := (List.getElem?_eq_some_iff.mp hu).1; simpa using this
    have l2 : i < its2.toArray.size := by have := (List.getElem?_eq_some_iff.mp hu2).1; simpa using this
    have hel : e < s.heap.objs.size := Heap.lt_size he
    refine pyNext_enumZ_item (sep_of D) (draws_of b1 (A := X.A.in1.in1) (show X.A.in1.in1.handled = none from I.ok.hd hc) i1 a D.l1i1 its.toArray) (draws_of b2 (A := X.A.in1.in1) (show X.A.in1.in1.handled = none from I.ok.hd hc) i2 b D.l2i2 its2.toArray)
      he ⟨ne.1, ne.2.2.1, ne.2.2.2.1, ne.2.2.2.2⟩ ⟨hz, hTI, hTO, ⟨h1, p⟩, ⟨h2, p2⟩⟩ l1 l2 fun v1 v2 hm tk e1 e2 zs ht hsz hk h'' ht2 ho hsz2 hk2 => ?_
    have e1 : v1 = u := by
      have : its[i]? = some v1 := by simpa using e1
      rw [hu] at this
      exact (Option.some.inj this).symm
    have e2 : v2 = u2 := by
      have : its2[i]? = some v2 := by simpa using e2
      rw [hu2] at this
      exact (Option.some.inj this).symm
    subst e1 e2
    refine ⟨_, rfl, wpAny_letOwnedTupleGo_enum (s := { s with heap := h'', toks := tk + 1 }) ho fun h3 he3 sb => ?_⟩
    replace sb : Heap.SameBut e h'' h3 := sb
    have hUe : hm.objs.size ≠ e := by rw [hsz]; exact Nat.ne_of_gt (Nat.lt_succ_of_lt hel)
    have hk3 : ∀ c o, c ≠ e → hm.get? c = some o → h3.get? c = some o := fun c o hce q => sb.extBut _ _ hce (hk2 c o hce q)
    have hT3 : h3.get? hm.objs.size = some { cls := .type "tuple", data := .seq #[.int (i : Nat) tk, .ref s.heap.objs.size] } := sb.extBut _ _ hUe ht2
    have new1 : ObjOk X.prog X.w (upd H s.heap.objs.size (.tup [x, y])) hm s.heap.objs.size (.tup [x, y]) :=
      ⟨by show 2 ≤ sizeLine; decide, [v1, v2], .cons ru (.cons ru2 .nil), ⟨_, ht, rfl, _, rfl⟩⟩
    have I1 : Inv X pins σ (upd H s.heap.objs.size (.tup [x, y])) { s with heap := hm, toks := tk } :=
      I.turnedNew (t' := tk) (ch := [z, TO, i1, i2]) (fun c o hb q => hk c o (fun q' => hb (by simp [q'])) (fun q' => hb (by simp [q'])) (fun q' => hb (by simp [q'])) (fun q' => hb (by simp [q'])) q)
        (fun c hc => hf c (by
          have e' : c = z ∨ c = TO ∨ c = i1 ∨ c = i2 := by simpa using hc
          rcases e' with q | q | q | q <;> simp [q])) (Nat.le_refl _) new1
    have new2 : ObjOk X.prog X.w (upd (upd H s.heap.objs.size (.tup [x, y])) hm.objs.size (.tup [.int (i : Nat), .ref s.heap.objs.size])) h3 hm.objs.size (.tup [.int (i : Nat), .ref s.heap.objs.size]) :=
      ⟨by show 2 ≤ sizeLine; decide, [.int i tk, .ref s.heap.objs.size], .cons ⟨_, rfl⟩ (.cons rfl .nil), ⟨_, hT3, rfl, _, rfl⟩⟩
    have fe := hf e (by simp)
    have fe2 : FpOk X pins (upd H s.heap.objs.size (.tup [x, y])) e := ⟨by rw [upd_ne (Nat.ne_of_lt hel)]; exact fe.1, fe.2⟩
    have I2 : Inv X pins σ (upd (upd H s.heap.objs.size (.tup [x, y])) hm.objs.size (.tup [.int (i : Nat), .ref s.heap.objs.size])) { s with heap := h3, toks := tk + 1 } :=
      I1.turnedNew (s := { s with heap := hm, toks := tk }) (h' := h3) (t' := tk + 1) (ch := [e]) (fun c o hb q => hk3 c o (fun q' => hb (by simp [q'])) q) (fun c hc => by
        have : c = e := by simpa using hc
        rw [this]; exact fe2) (Nat.le_refl _) new2
    have hUT : hm.objs.size ≠ s.heap.objs.size := by rw [hsz]; exact Nat.succ_ne_self _
    refine ⟨.ref hm.objs.size, _, I2, rfl, ⟨s.heap.objs.size, hm.objs.size, x, y, rfl, I.hok.fresh (Nat.le_refl _), hUT, I.hok.fresh (by rw [hsz]; exact Nat.le_succ _), rfl, fun l hl => by rw [hl.inj I hqx]; exact hx, fun l hl => by rw [hl.inj I hqy]; exact hy⟩,
      ⟨⟨.ref s.heap.objs.size, ?_⟩, zs.z.keep fun o q => hk3 _ _ ne.1.symm q, hk3 _ _ ne.2.1.symm zs.ti, ?_, zs.s1.1.at' fun o q => hk3 _ _ ne.2.2.2.1.symm q, zs.s2.1.at' fun o q => hk3 _ _ ne.2.2.2.2.symm q⟩, fun c hcm => ?_⟩
    · have e1 : ((i + 1 : Nat) : Int) = (i : Int) + 1 := by omega
      rw [e1]; exact he3
    · obtain ⟨x0, y0, q⟩ := zs.to
      exact ⟨x0, y0, hk3 _ _ ne.2.2.1.symm q⟩
    · have hlt : c < s.heap.objs.size := by
        obtain ⟨f0, fb, hz4, _⟩ := hz
        obtain ⟨x0, y0, hTO⟩ := hTO
        have e' : c = e ∨ c = z ∨ c = TI ∨ c = TO ∨ c = i1 ∨ c = i2 := by simpa using hcm
        rcases e' with q | q | q | q | q | q
        · rw [q]; exact hel
        · rw [q]; exact Heap.lt_size hz4
        · rw [q]; exact Heap.lt_size hTI
        · rw [q]; exact Heap.lt_size hTO
        · rw [q]; obtain ⟨_, e1, _⟩ := h1.obj; exact Heap.lt_size e1
        · rw [q]; obtain ⟨_, e2, _⟩ := h2.obj; exact Heap.lt_size e2
      rw [upd_ne (by rw [hsz]; exact Nat.ne_of_lt (Nat.lt_succ_of_lt hlt)), upd_ne (Nat.ne_of_lt hlt)]
      exact (hf c hcm).1
  done := by
    intro X hP hw hK hc i pins s σ H E I hf st hg
    subst hP hw hK
    obtain ⟨⟨old, he⟩, hz, hTI, hTO, h1, h2⟩ := st
    obtain ⟨xs, ys, hqx, hqy, m1, m2, hend⟩ := hg
    obtain ⟨its, n1, g1, p⟩ := hqx.get I
    obtain ⟨its2, n2, g2, p2⟩ := hqy.get I
    refine pyNext_enumZ_end (sep_of D) (draws_of b1 (A := X.A.in1.in1) (show X.A.in1.in1.handled = none from I.ok.hd hc) i1 a D.l1i1 its.toArray) (draws_of b2 (A := X.A.in1.in1) (show X.A.in1.in1.handled = none from I.ok.hd hc) i2 b D.l2i2 its2.toArray)
      he ⟨hz, hTI, hTO, ⟨h1, p⟩, ⟨h2, p2⟩⟩ (by simp; omega) (by simp; omega) (by simp; omega) fun h' tk hk => ⟨rfl, I.turnedL (t' := tk) (ch := [z, TI, TO, i1, i2]) (fun c o hb q =>
      hk c o (fun q' => hb (by simp [q'])) (fun q' => hb (by simp [q'])) (fun q' => hb (by simp [q'])) (fun q' => hb (by simp [q'])) q) fun c hc => hf c (by simp at hc ⊢; exact .inr hc)⟩
  self := fun A i s Q E st h => let ⟨⟨_, he⟩, _⟩ := st; wpAny_pyIter_enum he h
theorem meets_enumZ (z TI TO : Addr) :
    Meets (Builtin.«enumerate.__new__» ⟨[.type "enumerate", .ref z], []⟩) (fun _ R s => IsZip s.heap z TI TO .none ∧
      R (.ok (.ret (.ref s.heap.objs.size))) { s with heap := s.heap.push { cls := .type "enumerate", data := .fields #[.none, .bool false, .ref z, rawInt 0, .none, .none] } }) :=
  .of_wp fun prog w A R s h => by
    obtain ⟨hp, g, d, tk, os⟩ := s; obtain ⟨hl, h⟩ := h
    have hsub := sub_enumerate
    have hL : IsZip (Shared.heap ⟨hp, g, d, tk, os⟩) z TI TO .none := hl
    wp_walk
    refine wpAny_stack_any fun st => wpAny_pure ?_
    split
    · rename_i c _ _ _ _ _
      cases (c == Value.type "enumerate")
      · wp_walk using wpAny_pyIter_zip hL
        exact ⟨_, rfl, h⟩
      · wp_walk using wpAny_pyIter_zip hL
        exact ⟨_, rfl, h⟩
    · wp_walk using wpAny_pyIter_zip hL
      exact ⟨_, rfl, h⟩
theorem call_enumZ {prog : Program} {w : World} {A : Around} {E : Value → Shared → Prop} {s : Shared} {z TI TO : Addr} {Q : Value → Shared → Prop} (hz : IsZip s.heap z TI TO .none)
    (h : ∀ h', IsEnum h' s.heap.objs.size z 0 .none → (∀ b o, s.heap.get? b = some o → h'.get? b = some o) → Q (.ref s.heap.objs.size) { s with heap := h' }) :
    wpAny (model prog w) A (call (.type "enumerate") [.ref z]) Q E s := by
  refine callType_new F.called_enumerate (by decide) (F.typeCall_enumerate_1 _) (F.newCall_enumerate_1 _) (fun obj => F.args_object_init_2 obj _) F.entry_enumerate_new
    (meets_enumZ z TI TO) ⟨hz, ?_⟩
  have he : IsEnum (s.heap.push { cls := .type "enumerate", data := .fields #[.none, .bool false, .ref z, rawInt 0, .none, .none] }) s.heap.objs.size z 0 .none := Heap.get?_push_size _ rfl
  exact ⟨⟨_, he, rfl⟩, h _ he fun b o x => Heap.get?_push_of_some _ x⟩
def iEnumZip (K : PySem.W.Frag) (ta : TA) : TI := fun σ H R => ta σ H fun vs H1 => ∃ a b xs ys b1 b2, vs = [.ref a, .ref b] ∧ Qs b1 K H1 a xs ∧ Qs b2 K H1 b ys ∧ R (IteZ b1 b2 K a b) H1
theorem pi_enumZip {X : Cx} {e e2 : Expr} {ta : TA} {p pos p2 pos2 tpos : Pos} {elts : List Expr} {kk : Nat} (hc : X.calm = true) (hg : Gl X "enumerate") (hm : X.mg "enumerate" = none) (hg2 : Gl X "zip") (hm2 : X.mg "zip" = none) (ha : PA X [e, e2] ta)
    (hs : starEach [e, e2] X.env = (false, eval e X.env) :: starEach [e2] X.env := by rfl) (hpl : (backTo pos2 (starEach [e2] X.env)).any (·.1) = false := by rfl)
    (na : starEach [Expr.Call (.Name "zip" p2) [e, e2] [] pos2] X.env = (false, eval (Expr.Call (.Name "zip" p2) [e, e2] [] pos2) X.env) :: starEach [] X.env := by rfl) :
    PI X (.Tuple elts kk tpos) (.Call (.Name "enumerate" p) [.Call (.Name "zip" p2) [e, e2] [] pos2] [] pos) (iEnumZip X.K ta) := by
  refine ⟨fun pins s σ H R I h => ?_⟩
  refine Call_ (ld_blt I hg hm boot_enumerate (PyProof.Rows.callWith_type1 (args_cons (?_ : wpAny (model X.prog X.w) X.A (eval (Expr.Call (.Name "zip" p2) [e, e2] [] pos2) X.env) _ X.xe s) na) na))
  refine Call_ (ld_blt I hg2 hm2 PyProof.Rows.boot_zip (PyProof.Rows.callWith_type1 (thn (ha.run pos2 pins s σ H _ I h) fun us s1 ⟨vs, H1, I1, r1, q1⟩ => ?_) hs hpl))
  obtain ⟨a, b, xs, ys, b1, b2, ex, hqx, hqy, q⟩ := q1
  subst ex
  cases r1 with
  | cons r rr =>
    cases rr with
    | cons r' rr =>
      cases rr
      cases r
      cases r'
      obtain ⟨its, n1, g1, pp1⟩ := hqx.get I1
      obtain ⟨its2, n2, g2, pp2⟩ := hqy.get I1
      refine call_zipM b1 b2 pp1 pp2 fun h' hz hTI hTO h1 h2 hk => args_nil ?_
      have I2 : Inv X pins σ H1 { s1 with heap := h' } := I1.kept (t' := s1.toks) hk
      have hzl : s1.heap.objs.size + 4 < h'.objs.size := Heap.lt_size hz
      refine call_enumZ (s := { s1 with heap := h' }) hz fun h'' he hk2 => wpAny_pyIter_enum he ?_
      have I3 : Inv X pins σ H1 { s1 with heap := h'' } := I2.kept (t' := s1.toks) hk2
      refine ⟨h'.objs.size, [h'.objs.size, s1.heap.objs.size + 4, s1.heap.objs.size + 2, s1.heap.objs.size + 3, s1.heap.objs.size, s1.heap.objs.size + 1], _, _, H1, rfl, I3,
        turn_enumZ b1 b2 (e := h'.objs.size) (z := s1.heap.objs.size + 4) (TI := s1.heap.objs.size + 2) (TO := s1.heap.objs.size + 3) (i1 := s1.heap.objs.size) (i2 := s1.heap.objs.size + 1) (PySem.W.ktu_apart s1.heap.objs.size a b pp1.lt pp2.lt) ⟨Nat.ne_of_gt (by omega), Nat.ne_of_gt (by omega), Nat.ne_of_gt (by omega), Nat.ne_of_gt (by omega), Nat.ne_of_gt (by omega)⟩,
        ⟨⟨_, he⟩, ⟨_, _, hk2 _ _ hz, .inl rfl⟩, hk2 _ _ hTI, ⟨_, _, hk2 _ _ hTO⟩, h1.at' fun o q => hk2 _ _ q, h2.at' fun o q => hk2 _ _ q⟩, fun c hcm => ?_, q⟩
      have hle : s1.heap.objs.size ≤ c := by
        have e' : c = h'.objs.size ∨ c = s1.heap.objs.size + 4 ∨ c = s1.heap.objs.size + 2 ∨ c = s1.heap.objs.size + 3 ∨ c = s1.heap.objs.size ∨ c = s1.heap.objs.size + 1 := by simpa using hcm
        rcases e' with z | z | z | z | z | z <;> (rw [z]; omega)
      exact I1.fpOk hle (I1.hok.fresh hle)
theorem walk_enumZ {K : PySem.W.Frag} {B : Av} {σ : L2.St} {ρ : DEnv} {H1 : Hp} {a b : Addr} {b1 b2 : Bool} {ds es : List PyData} (h1 : Hs b1 K σ ρ (Al B σ ρ) H1 a ds) (h2 : Hs b2 K σ ρ (Al B σ ρ) H1 b es) :
    WalkD σ ρ (Al B σ ρ) H1 (IteZ b1 b2 K a b) (enumDs 0 (zipDs ds es)) := by
  obtain ⟨xs, l1, r1, k1⟩ := h1.all
  obtain ⟨ys, l2, r2, k2⟩ := h2.all
  have hz := zipDs_len ds es
  have hle := enumDs_len (zipDs ds es) 0
  refine ⟨fun i H' kp kt hi => ?_, fun H' kp kt => ?_, fun i H' A x Hx ps kp hi y => ?_⟩
  · have i1 : i < xs.length := by omega
    have i2 : i < ys.length := by omega
    exact ⟨xs, ys, xs[i], ys[i], k1 H' kp kt, k2 H' kp kt, by simp [i1], by simp [i2]⟩
  · exact ⟨xs, ys, k1 H' kp kt, k2 H' kp kt, by omega, by omega, by omega⟩
  · obtain ⟨T, U, u, v, e1, e2, eu, eU, e3, e4, e5⟩ := y
    subst e1 e3
    rw [hle] at hi
    obtain ⟨d, e, c1, c2, c3⟩ := zipDs_get hi
    obtain ⟨u', w1, w2⟩ := r1.get c1
    obtain ⟨v', w3, w4⟩ := r2.get c2
    have g1 := e4 xs (k1 H' kp fun b xs q => ps.t b xs q)
    have g2 := e5 ys (k2 H' kp fun b xs q => ps.t b xs q)
    rw [w1] at g1
    rw [w3] at g2
    cases g1
    cases g2
    have gA : Grow H' (upd H' T (.tup [u, v])) := .new e2
    have gB : Grow (upd H' T (.tup [u, v])) (upd (upd H' T (.tup [u, v])) U (.tup [.int (i : Nat), .ref T])) := .new (by rw [upd_ne eu]; exact eU)
    have g := gA.trans gB
    have hcell := enumDs_get (k := 0) c3
    rw [Nat.zero_add] at hcell
    refine ⟨g, _, hcell, .tup upd_same ?_⟩
    have pq : Pass A A H' (upd (upd H' T (.tup [u, v])) U (.tup [.int (i : Nat), .ref T])) := g.pass fun _ z => .inl z
    refine .cons (.int _) (.cons (.tup (by rw [upd_ne eu.symm]; exact upd_same) ?_) .nil)
    exact .cons (Rp.pass pq _ _ (Rp.pass ps _ _ w2)) (.cons (Rp.pass pq _ _ (Rp.pass ps _ _ w4)) .nil)
def dEnumZip (da : DA) : DI := fun ρ Q => da ρ fun rs ρ1 => match stoAll rs with
  | some [x, y] => ∃ ds es, itemsD x = some ds ∧ itemsD y = some es ∧ Q (enumDs 0 (zipDs ds es)) ρ1
  | _ => False
theorem simI_enumZip {K : PySem.W.Frag} {ta : TA} {da : DA} (h : SimA ta da) : SimI (iEnumZip K ta) (dEnumZip da) := fun H0 B σ H ρ R QD Rl q k =>
  h H0 B σ H ρ _ _ Rl q fun rs ρ1 vs H1 R1 S1 K1 o1 q1 => by
    split at q1
    · rename_i x y e
      obtain ⟨ds, es, m1, m2, q1⟩ := q1
      have r := o1.sto e
      cases r with
      | cons ra rb =>
        cases rb with
        | cons rb rc =>
          cases rc
          obtain ⟨a, b1, e1, s1⟩ := ra.hs (K := K) m1
          obtain ⟨b, b2, e2, s2⟩ := rb.hs (K := K) m2
          subst e1 e2
          obtain ⟨xs, _, _, w1⟩ := s1.all
          obtain ⟨ys, _, _, w2⟩ := s2.all
          exact ⟨a, b, xs, ys, b1, b2, rfl, w1 H1 (fun _ _ z _ => z) (fun _ _ z => z), w2 H1 (fun _ _ z _ => z) (fun _ _ z => z), k _ _ ρ1 H1 R1 S1 K1 (walk_enumZ s1 s2) q1⟩
    · exact q1.elim
end Dl
set_option Elab.async false
set_option linter.all false
set_option maxRecDepth 100000
set_option maxHeartbeats 4000000
/-! The data layer: a list is extended by a new list. -/
namespace Dl
open PySem L2

/-- x.extend(e), x in slot i, e a list -/
def dExt (i : Nat) (de : DE) : DS := fun DD ρ => de ρ fun r ρ1 => ∃ es, r.sto = some (.list es) ∧ match ρ1[i]? with
  | some (some s) => match s.dat with
    | .list ds => s.own = true ∧ ds.length + es.length < 100000 ∧ DD.nx (ρ1.set i (some (s.with (.list (ds ++ es)))))
    | _ => False
  | _ => False
def dExtS (i : Nat) (de : DE) : DS := fun DD ρ => (∃ s ds, ρ[i]? = some (some s) ∧ s.own = true ∧ s.dat = .list ds) ∧ dExt i de DD ρ
theorem simS_ext {K : PySem.W.Frag} {i : Nat} {te : TE} {de : DE} (h : SimE te de) : SimS (tDrop (tBM K "list" rExtend (tVar i) (tCons te tNil)))
    (dExtS i de) := fun H0 B σ H ρ D DD R q E => by
  obtain ⟨⟨s, ds, e1, e2, e3⟩, q⟩ := q
  obtain ⟨p, h1, h2⟩ := R.own i s e1 e2
  rw [e3] at h2
  obtain ⟨xs, h3, _⟩ := h2
  refine ⟨_, h1, .inl ⟨rfl, _, SqL.of h3⟩, ?_⟩
  refine h H0 B σ H ρ _ _ R q fun r ρ1 v H1 R1 S1 K1 o1 q1 => ?_
  obtain ⟨es, hd, q1⟩ := q1
  split at q1
  · rename_i s1 es1
    split at q1
    · rename_i ds1 ed1
      obtain ⟨hs1, hl, q1⟩ := q1
      obtain ⟨p1, c1, c2⟩ := R1.own i s1 es1 hs1
      rw [h1] at c1
      cases c1
      rw [ed1] at c2
      obtain ⟨ys, c3, c4⟩ := c2
      have rp := o1.cv.sto hd
      cases rp with
      | lst na ea ra =>
      rename_i b zs
      refine ⟨p, b, ys, zs, rfl, rfl, c3, ea, Nat.le_of_lt (sz5' (by rw [c4.len, ra.len]; exact hl)), ?_⟩
      have ps : Pass (Al B σ ρ1) (Al B σ ρ1) H1 (upd H1 p (.lst (ys ++ zs))) := ⟨fun a zs n e => by
        have ne : a ≠ p := fun z => n (by rw [z]; exact .inr ⟨i, s1, es1, hs1, h1⟩)
        exact ⟨n, by rw [upd_ne ne]; exact e⟩, fun a zs e => by
        have ne : a ≠ p := fun z => by
          rw [z, c3] at e
          cases e
        rw [upd_ne ne]
        exact e⟩
      obtain ⟨R2, S2⟩ := R1.write (o := .lst (ys ++ zs)) (d' := .list (ds1 ++ es)) es1 hs1 h1 ⟨_, upd_same, (RpAll.pass ps _ _ c4).app (RpAll.pass ps _ _ ra)⟩
      exact E.nx σ _ _ R2 (S1.trans S2) q1
    · exact q1.elim
  · exact q1.elim
end Dl
set_option Elab.async false
set_option linter.all false
/-! Rows, schedules, entries as plain data; what a read does. -/
namespace St
open PySem
abbrev Ent := Option (Int × Int)
structure Row where
  ls : List Int
  ps : List Nat
abbrev Sch := List (Int × Nat)
def intsT (ns : List Int) : PyData := .tuple (ns.map PyData.int)
def natsT (ns : List Nat) : PyData := .tuple (ns.map fun (n : Nat) => PyData.int (n : Int))
def rowD (r : Row) : PyData := .tuple [intsT r.ls, natsT r.ps]
def tcD (x : Int × Nat) : PyData := .tuple [.int x.1, .int (x.2 : Int)]
def schD (s : Sch) : PyData := .tuple (s.map tcD)
def entD : Ent → PyData
  | none => .none
  | some (a, t) => .tuple [.int a, .int t]
/-- what a cache of lifetime l that holds h answers at t -/
def fresh (l : Int) (h : Ent) (t : Int) : Option Int := match h with
  | some (a, s) => if s + l ≤ t then none else some a
  | none => none
/-- the caches from the i-th on are asked at t: the answer, the index that gave it, and what they hold then -/
def askL : List Int → List Ent → Int → Nat → (Int × Nat) × List Ent
  | l :: ls, h :: hs, t, i => match fresh l h t with
    | some a => ((a, i), h :: hs)
    | none => ((askL ls hs t (i + 1)).1, some ((askL ls hs t (i + 1)).1.1, t) :: (askL ls hs t (i + 1)).2)
  | _, hs, t, i => ((t, i), hs)
def ask (ls : List Int) (hs : List Ent) (t : Int) (p : Nat) : (Int × Nat) × List Ent :=
  ((askL (ls.drop p) (hs.drop p) t p).1, hs.take p ++ (askL (ls.drop p) (hs.drop p) t p).2)
def walk (r : Row) : List Ent → Sch → List (Int × Nat) × List Ent
  | hs, [] => ([], hs)
  | hs, x :: s => ((ask r.ls hs x.1 (r.ps.getD x.2 0)).1 :: (walk r (ask r.ls hs x.1 (r.ps.getD x.2 0)).2 s).1, (walk r (ask r.ls hs x.1 (r.ps.getD x.2 0)).2 s).2)
def empt (r : Row) : List Ent := List.replicate r.ls.length none
def answers (r : Row) (s : Sch) : List Int := (walk r (empt r) s).1.map (·.1)
def sources (r : Row) (s : Sch) : List Nat := (walk r (empt r) s).1.map (·.2)
def entries (r : Row) (s : Sch) : List Ent := (walk r (empt r) s).2
theorem askL_len : ∀ (ls : List Int) (hs : List Ent) (t : Int) (i : Nat), (askL ls hs t i).2.length = hs.length
  | [], hs, t, i => by cases hs <;> rfl
  | l :: ls, [], t, i => rfl
  | l :: ls, h :: hs, t, i => by
    unfold askL
    split
    · rfl
    · simp [askL_len ls hs t (i + 1)]
theorem ask_len (ls : List Int) (hs : List Ent) (t : Int) (p : Nat) : (ask ls hs t p).2.length = hs.length := by
  unfold ask
  simp [askL_len]
  omega
/-- a row that a law may draw -/
structure Row.Ok (r : Row) : Prop where
  few : r.ls.length ≤ 8
  pos : ∀ l ∈ r.ls, 1 ≤ l
  some : r.ps ≠ []
  fewP : r.ps.length ≤ 5
  inn : ∀ p ∈ r.ps, p ≤ r.ls.length
  up : r.ps.Pairwise (· ≤ ·)
structure SchOk (r : Row) (s : Sch) : Prop where
  few : s.length ≤ 50
  cl : ∀ x ∈ s, x.2 < r.ps.length
  nn : ∀ x ∈ s, 0 ≤ x.1
  up : s.Pairwise (fun x y => x.1 ≤ y.1)
end St
set_option Elab.async false
set_option linter.all false
/-! Where an answer comes from. -/
namespace St
open PySem
theorem askL_src : ∀ (ls : List Int) (hs : List Ent) (t : Int) (i : Nat), ls.length = hs.length →
    i ≤ (askL ls hs t i).1.2 ∧ (askL ls hs t i).1.2 ≤ i + ls.length ∧
    (∀ k, i + k < (askL ls hs t i).1.2 → ∃ l h, ls[k]? = some l ∧ hs[k]? = some h ∧ fresh l h t = none) ∧
    ((askL ls hs t i).1.2 = i + ls.length → (askL ls hs t i).1.1 = t) ∧
    (∀ k, i + k = (askL ls hs t i).1.2 → k < ls.length → ∃ l h, ls[k]? = some l ∧ hs[k]? = some h ∧ fresh l h t = some (askL ls hs t i).1.1) ∧
    (askL ls hs t i).2 = List.replicate ((askL ls hs t i).1.2 - i) (some ((askL ls hs t i).1.1, t)) ++ hs.drop ((askL ls hs t i).1.2 - i)
  | [], [], t, i, _ => by
    refine ⟨Nat.le_refl _, Nat.le_refl _, fun k hk => ?_, fun _ => rfl, fun k _ hk => ?_, ?_⟩
    · have : i + k < i := hk
      omega
    · simp at hk
    · simp [askL]
  | [], _ :: _, _, _, h => by simp at h
  | _ :: _, [], _, _, h => by simp at h
  | l :: ls, h :: hs, t, i, hl => by
    have ih := askL_src ls hs t (i + 1) (by simpa using hl)
    unfold askL
    cases hf : fresh l h t with
    | some a =>
      refine ⟨Nat.le_refl _, Nat.le_add_right _ _, fun k hk => ?_, fun e => ?_, fun k e hk => ?_, ?_⟩
      · simp only at hk; omega
      · simp only [List.length_cons] at e; omega
      · simp only at e
        have : k = 0 := by omega
        subst this
        exact ⟨l, h, rfl, rfl, hf⟩
      · simp
    | none =>
      obtain ⟨h1, h2, h3, h4, h5, h6⟩ := ih
      refine ⟨by simp only; omega, by simp only [List.length_cons]; omega, fun k hk => ?_, fun e => ?_, fun k e hk => ?_, ?_⟩
      · cases k with
        | zero => exact ⟨l, h, rfl, rfl, hf⟩
        | succ k =>
          simp only at hk
          simpa using h3 k (by omega)
      · simp only [List.length_cons] at e
        exact h4 (by omega)
      · cases k with
        | zero => simp only at e; omega
        | succ k =>
          simp only at e
          simpa using h5 k (by omega) (by simpa using hk)
      · simp only
        have e : (askL ls hs t (i + 1)).1.2 - i = ((askL ls hs t (i + 1)).1.2 - (i + 1)) + 1 := by omega
        rw [e, List.replicate_succ, List.cons_append, List.drop_succ_cons, ← h6]
theorem ask_src {ls : List Int} {hs : List Ent} {t : Int} {p : Nat} (hl : ls.length = hs.length) (hp : p ≤ ls.length) :
    p ≤ (ask ls hs t p).1.2 ∧ (ask ls hs t p).1.2 ≤ ls.length ∧
    (∀ k, p ≤ k → k < (ask ls hs t p).1.2 → ∃ l h, ls[k]? = some l ∧ hs[k]? = some h ∧ fresh l h t = none) ∧
    ((ask ls hs t p).1.2 = ls.length → (ask ls hs t p).1.1 = t) ∧
    ((ask ls hs t p).1.2 < ls.length → ∃ l h, ls[(ask ls hs t p).1.2]? = some l ∧ hs[(ask ls hs t p).1.2]? = some h ∧ fresh l h t = some (ask ls hs t p).1.1) ∧
    (ask ls hs t p).2 = hs.take p ++ List.replicate ((ask ls hs t p).1.2 - p) (some ((ask ls hs t p).1.1, t)) ++ hs.drop (ask ls hs t p).1.2 := by
  obtain ⟨h1, h2, h3, h4, h5, h6⟩ := askL_src (ls.drop p) (hs.drop p) t p (by simp [hl])
  unfold ask
  simp only [List.length_drop] at h2 h4
  simp only
  refine ⟨h1, by omega, fun k hk hk2 => ?_, fun e => h4 (by omega), fun e => ?_, ?_⟩
  · obtain ⟨l, h, a, b, c⟩ := h3 (k - p) (by omega)
    rw [List.getElem?_drop] at a b
    exact ⟨l, h, by rw [← a]; congr 1; omega, by rw [← b]; congr 1; omega, c⟩
  · obtain ⟨l, h, a, b, c⟩ := h5 ((askL (ls.drop p) (hs.drop p) t p).1.2 - p) (by omega) (by simp; omega)
    rw [List.getElem?_drop] at a b
    exact ⟨l, h, by rw [← a]; congr 1; omega, by rw [← b]; congr 1; omega, c⟩
  · rw [h6, List.drop_drop, List.append_assoc]
    congr 3
    omega
theorem fresh_some {l : Int} {h : Ent} {t a : Int} (e : fresh l h t = some a) : ∃ s, h = some (a, s) ∧ t < s + l := by
  cases h with
  | none => cases e
  | some q =>
    obtain ⟨a', s⟩ := q
    unfold fresh at e
    simp only at e
    split at e
    · cases e
    · cases e
      exact ⟨s, rfl, by omega⟩
theorem fresh_none {l : Int} {h : Ent} {t : Int} (e : fresh l h t = none) : h = none ∨ ∃ a s, h = some (a, s) ∧ s + l ≤ t := by
  cases h with
  | none => exact .inl rfl
  | some q =>
    obtain ⟨a', s⟩ := q
    unfold fresh at e
    simp only at e
    split at e
    · exact .inr ⟨a', s, rfl, by assumption⟩
    · cases e
end St
set_option Elab.async false
set_option linter.all false
/-! A walk, read by read. -/
namespace St
open PySem
theorem walk_snoc (r : Row) : ∀ (s : Sch) (hs : List Ent) (x : Int × Nat), walk r hs (s ++ [x]) = ((walk r hs s).1 ++ [(ask r.ls (walk r hs s).2 x.1 (r.ps.getD x.2 0)).1], (ask r.ls (walk r hs s).2 x.1 (r.ps.getD x.2 0)).2)
  | [], hs, x => rfl
  | y :: s, hs, x => by
    rw [List.cons_append]
    unfold walk
    rw [walk_snoc r s]
    rfl
theorem walk_len (r : Row) : ∀ (s : Sch) (hs : List Ent), (walk r hs s).1.length = s.length ∧ (walk r hs s).2.length = hs.length
  | [], hs => ⟨rfl, rfl⟩
  | y :: s, hs => by
    obtain ⟨h1, h2⟩ := walk_len r s (ask r.ls hs y.1 (r.ps.getD y.2 0)).2
    unfold walk
    exact ⟨congrArg (· + 1) h1, h2.trans (ask_len _ _ _ _)⟩
theorem take_snoc {α : Type} {l : List α} {k : Nat} {x : α} (h : l[k]? = some x) : l.take (k + 1) = l.take k ++ [x] := by
  rw [List.take_add_one, h]
  rfl
theorem getD_of {α : Type} {l : List α} {k : Nat} {x d : α} (h : l[k]? = some x) : l.getD k d = x := by
  rw [List.getD_eq_getElem?_getD, h]
  rfl
theorem map_get {α β : Type} {l : List α} {f : α → β} {k : Nat} {y : β} (h : (l.map f)[k]? = some y) : ∃ x, l[k]? = some x ∧ y = f x := by
  rw [List.getElem?_map] at h
  cases hx : l[k]? with
  | none => rw [hx] at h; cases h
  | some x =>
    rw [hx] at h
    cases h
    exact ⟨x, rfl, rfl⟩
theorem tcD_mk (t : Int) (c : Nat) : tcD (t, c) = .tuple [.int t, .int (c : Int)] := rfl
theorem entD_some (a t : Int) : entD (some (a, t)) = .tuple [.int a, .int t] := rfl
theorem entD_none : entD none = .none := rfl
theorem get_lt {α : Type} {l : List α} {k : Nat} {x : α} (h : l[k]? = some x) : k < l.length := (List.getElem?_eq_some_iff.mp h).1
theorem get_at {α : Type} {l : List α} {k : Nat} (h : k < l.length) : ∃ x, l[k]? = some x := ⟨l[k], by simp [h]⟩
theorem get_mem {α : Type} {l : List α} {k : Nat} {x : α} (h : l[k]? = some x) : x ∈ l := List.mem_of_getElem? h
end St
set_option Elab.async false
set_option linter.all false
/-! Answers by one cache never go back; shifted times. -/
namespace St
open PySem
/-- what the caches hold up to T: times in order, the values growing upward -/
def Held (T : Int) (hs : List Ent) : Prop := ∀ (i : Nat) (a s : Int), hs[i]? = some (some (a, s)) → 0 ≤ a ∧ a ≤ s ∧ s ≤ T ∧ ∀ j : Nat, i ≤ j → j < hs.length → ∃ a' s', hs[j]? = some (some (a', s')) ∧ a ≤ a'
theorem held_empt (r : Row) : Held 0 (empt r) := fun i a s h => by
  unfold empt at h
  rw [List.getElem?_replicate] at h
  split at h <;> cases h
theorem ask_get {ls : List Int} {hs : List Ent} {t : Int} {p : Nat} (hl : ls.length = hs.length) (hp : p ≤ ls.length) (i : Nat) :
    (ask ls hs t p).2[i]? = if p ≤ i ∧ i < (ask ls hs t p).1.2 then some (some ((ask ls hs t p).1.1, t)) else hs[i]? := by
  obtain ⟨h1, h2, h3, h4, h5, h6⟩ := ask_src (t := t) hl hp
  rw [h6]
  have ht : (hs.take p).length = p := by simp; omega
  by_cases c1 : i < p
  · rw [if_neg (by omega), List.append_assoc, List.getElem?_append_left (by omega), List.getElem?_take_of_lt c1]
  · by_cases c2 : i < (ask ls hs t p).1.2
    · rw [if_pos ⟨by omega, c2⟩, List.getElem?_append_left (by simp; omega), List.getElem?_append_right (by omega), List.getElem?_replicate, if_pos (by omega)]
    · rw [if_neg (by omega), List.getElem?_append_right (by simp; omega), List.getElem?_drop]
      congr 1
      simp
      omega
theorem ask_held {ls : List Int} {hs : List Ent} {t T : Int} {p : Nat} (hl : ls.length = hs.length) (hp : p ≤ ls.length) (H : Held T hs) (hT : T ≤ t) (h0 : 0 ≤ t) :
    0 ≤ (ask ls hs t p).1.1 ∧ (ask ls hs t p).1.1 ≤ t ∧ (p = ls.length → (ask ls hs t p).1.1 = t) ∧ (p < ls.length → ∃ s, (ask ls hs t p).2[p]? = some (some ((ask ls hs t p).1.1, s))) ∧
    (∀ (i : Nat) (a s : Int), hs[i]? = some (some (a, s)) → ∃ a' s', (ask ls hs t p).2[i]? = some (some (a', s')) ∧ a ≤ a') ∧ Held t (ask ls hs t p).2 := by
  obtain ⟨h1, h2, h3, h4, h5, h6⟩ := ask_src (t := t) hl hp
  have hg := ask_get (t := t) hl hp
  have hlen := ask_len ls hs t p
  revert h1 h2 h3 h4 h5 hg hlen
  clear h6
  generalize ask ls hs t p = q
  obtain ⟨⟨ans, src⟩, hs'⟩ := q
  intro h1 h2 h3 h4 h5 hg hlen
  simp only at h1 h2 h3 h4 h5 hg hlen ⊢
  -- where the answer comes from
  have hsrc : (src = ls.length ∧ ans = t) ∨ (src < ls.length ∧ ∃ s, hs[src]? = some (some (ans, s))) := by
    by_cases c : src = ls.length
    · exact .inl ⟨c, h4 c⟩
    · obtain ⟨l, h, e1, e2, e3⟩ := h5 (by omega)
      obtain ⟨s, rfl, _⟩ := fresh_some e3
      exact .inr ⟨by omega, s, e2⟩
  have hans : 0 ≤ ans ∧ ans ≤ t := by
    rcases hsrc with ⟨_, rfl⟩ | ⟨_, s, e⟩
    · exact ⟨h0, Int.le_refl _⟩
    · obtain ⟨a, b, c, _⟩ := H _ _ _ e
      exact ⟨a, by omega⟩
  have up : ∀ (i : Nat) (a s : Int), hs[i]? = some (some (a, s)) → ∃ a' s', hs'[i]? = some (some (a', s')) ∧ a ≤ a' := fun i a s e => by
    rw [hg]
    by_cases c : p ≤ i ∧ i < src
    · rw [if_pos c]
      refine ⟨ans, t, rfl, ?_⟩
      obtain ⟨a0, a1, a2, a3⟩ := H _ _ _ e
      rcases hsrc with ⟨_, rfl⟩ | ⟨c2, s2, e2⟩
      · omega
      · obtain ⟨a', s', e3, e4⟩ := a3 src (by omega) (by omega)
        rw [e2] at e3
        cases e3
        exact e4
    · rw [if_neg c]
      exact ⟨a, s, e, Int.le_refl _⟩
  refine ⟨hans.1, hans.2, fun e => ?_, fun e => ?_, up, fun i a s e => ?_⟩
  · exact h4 (by omega)
  · rw [hg]
    by_cases c : p ≤ p ∧ p < src
    · rw [if_pos c]
      exact ⟨t, rfl⟩
    · rw [if_neg c]
      have : src = p := by omega
      subst this
      rcases hsrc with ⟨c2, _⟩ | ⟨_, s, e2⟩
      · omega
      · exact ⟨s, e2⟩
  · rw [hg] at e
    by_cases c : p ≤ i ∧ i < src
    · rw [if_pos c] at e
      cases e
      refine ⟨hans.1, hans.2, Int.le_refl _, fun j hj hj2 => ?_⟩
      by_cases c2 : j < src
      · rw [hg, if_pos ⟨by omega, c2⟩]
        exact ⟨_, _, rfl, Int.le_refl _⟩
      · rw [hg, if_neg (by omega)]
        rcases hsrc with ⟨c3, _⟩ | ⟨_, s2, e2⟩
        · omega
        · obtain ⟨_, _, _, a3⟩ := H _ _ _ e2
          exact a3 j (by omega) (by omega)
    · rw [if_neg c] at e
      obtain ⟨a0, a1, a2, a3⟩ := H _ _ _ e
      refine ⟨a0, a1, by omega, fun j hj hj2 => ?_⟩
      obtain ⟨a', s', e3, e4⟩ := a3 j hj (by omega)
      obtain ⟨a'', s'', e5, e6⟩ := up j a' s' e3
      exact ⟨a'', s'', e5, by omega⟩
theorem walk_get (r : Row) : ∀ (s : Sch) (hs : List Ent) (k : Nat) (x : Int × Nat), s[k]? = some x → (walk r hs s).1[k]? = some (ask r.ls (walk r hs (s.take k)).2 x.1 (r.ps.getD x.2 0)).1
  | [], _, _, _, h => by simp at h
  | y :: s, hs, 0, x, h => by
    have : y = x := by simpa using h
    subst this
    rfl
  | y :: s, hs, k + 1, x, h => by
    have ih := walk_get r s (ask r.ls hs y.1 (r.ps.getD y.2 0)).2 k x (by simpa using h)
    unfold walk
    rw [List.take_succ_cons]
    simpa using ih
/-! ### shifted times -/
def shE (m : Int) : Ent → Ent
  | some (a, t) => some (a + m, t + m)
  | none => none
def shift (m : Int) (s : Sch) : Sch := s.map fun x => (x.1 + m, x.2)
theorem fresh_sh (m l : Int) (h : Ent) (t : Int) : fresh l (shE m h) (t + m) = (fresh l h t).map (· + m) := by
  cases h with
  | none => rfl
  | some q =>
    obtain ⟨a, s⟩ := q
    unfold fresh shE
    simp only
    by_cases c : s + l ≤ t
    · rw [if_pos c, if_pos (by omega)]; rfl
    · rw [if_neg c, if_neg (by omega)]; rfl
theorem askL_sh (m : Int) : ∀ (ls : List Int) (hs : List Ent) (t : Int) (i : Nat), askL ls (hs.map (shE m)) (t + m) i = (((askL ls hs t i).1.1 + m, (askL ls hs t i).1.2), (askL ls hs t i).2.map (shE m))
  | [], hs, t, i => by cases hs <;> rfl
  | l :: ls, [], t, i => rfl
  | l :: ls, h :: hs, t, i => by
    rw [List.map_cons]
    unfold askL
    rw [fresh_sh]
    cases e : fresh l h t with
    | some a => simp
    | none =>
      simp only [Option.map_none]
      rw [askL_sh m ls hs t (i + 1)]
      simp [shE]
theorem ask_sh (m : Int) (ls : List Int) (hs : List Ent) (t : Int) (p : Nat) : ask ls (hs.map (shE m)) (t + m) p = (((ask ls hs t p).1.1 + m, (ask ls hs t p).1.2), (ask ls hs t p).2.map (shE m)) := by
  unfold ask
  rw [← List.map_drop, askL_sh, List.map_append, List.map_take]
theorem walk_sh (m : Int) (r : Row) : ∀ (s : Sch) (hs : List Ent), walk r (hs.map (shE m)) (shift m s) = ((walk r hs s).1.map fun x => (x.1 + m, x.2), (walk r hs s).2.map (shE m))
  | [], hs => rfl
  | x :: s, hs => by
    have e : shift m (x :: s) = (x.1 + m, x.2) :: shift m s := rfl
    rw [e]
    unfold walk
    simp only
    rw [ask_sh]
    simp only
    rw [walk_sh m r s]
    rfl
theorem empt_sh (m : Int) (r : Row) : (empt r).map (shE m) = empt r := by
  unfold empt
  rw [List.map_replicate]
  rfl
theorem answers_sh (m : Int) (r : Row) (s : Sch) : answers r (shift m s) = (answers r s).map (· + m) := by
  unfold answers
  rw [← empt_sh m r, walk_sh, empt_sh, List.map_map, List.map_map]
  rfl
theorem sources_sh (m : Int) (r : Row) (s : Sch) : sources r (shift m s) = sources r s := by
  unfold sources
  rw [← empt_sh m r, walk_sh, empt_sh, List.map_map]
  rfl
end St
set_option Elab.async false
set_option linter.all false
/-! Dicts from ints to ints. -/
namespace St
open PySem Dl
section
variable {κ β : Type} [DecidableEq κ]
def aget (m : List (κ × β)) (k : κ) : Option β := (m.find? fun p => decide (p.1 = k)).map (·.2)
def aput (m : List (κ × β)) (k : κ) (v : β) : List (κ × β) := if (m.any fun p => decide (p.1 = k)) = true then m.map (fun p => if p.1 = k then (p.1, v) else p) else m ++ [(k, v)]
theorem aget_pos {p : κ × β} {r : List (κ × β)} {k : κ} (e : p.1 = k) : aget (p :: r) k = some p.2 := by simp [aget, List.find?_cons, e]
theorem aget_neg {p : κ × β} {r : List (κ × β)} {k : κ} (e : ¬ p.1 = k) : aget (p :: r) k = aget r k := by simp [aget, List.find?_cons, e]
theorem aget_any (k : κ) : ∀ m : List (κ × β), (m.any fun p => decide (p.1 = k)) = (aget m k).isSome
  | [] => rfl
  | p :: r => by
    rw [List.any_cons]
    by_cases e : p.1 = k
    · simp only [aget_pos e, decide_eq_true e, Bool.true_or, Option.isSome_some]
    · rw [aget_neg e, decide_eq_false e, Bool.false_or]; exact aget_any k r
theorem aget_map (k j : κ) (v : β) : ∀ m : List (κ × β), aget (m.map fun p => if p.1 = k then (p.1, v) else p) j = (aget m j).map fun x => if j = k then v else x
  | [] => rfl
  | p :: r => by
    have ih := aget_map k j v r
    rw [List.map_cons]
    by_cases h : p.1 = k
    · rw [if_pos h]
      by_cases e : p.1 = j
      · rw [aget_pos (p := (p.1, v)) e, aget_pos e, Option.map_some, if_pos (e.symm.trans h)]
      · rw [aget_neg (p := (p.1, v)) e, aget_neg e, ih]
    · rw [if_neg h]
      by_cases e : p.1 = j
      · rw [aget_pos e, aget_pos e, Option.map_some, if_neg (fun z => h (e.trans z))]
      · rw [aget_neg e, aget_neg e, ih]
theorem aget_snoc (k j : κ) (v : β) : ∀ m : List (κ × β), aget (m ++ [(k, v)]) j = (aget m j).or (if k = j then some v else none)
  | [] => by
    by_cases e : k = j
    · simp [aget, e]
    · simp [aget, e]
  | p :: r => by
    rw [List.cons_append]
    by_cases e : p.1 = j
    · rw [aget_pos e, aget_pos e]; rfl
    · rw [aget_neg e, aget_neg e, aget_snoc k j v r]
theorem aget_aput (m : List (κ × β)) (k j : κ) (v : β) : aget (aput m k v) j = if k = j then some v else aget m j := by
  unfold aput
  rw [aget_any]
  by_cases c : (aget m k).isSome = true
  · rw [if_pos c, aget_map]
    by_cases e : k = j
    · subst e
      rw [if_pos rfl]
      obtain ⟨x, hx⟩ := Option.isSome_iff_exists.mp c
      rw [hx]
      simp
    · rw [if_neg e]
      have : ¬ j = k := fun z => e z.symm
      simp [this]
  · rw [if_neg c, aget_snoc]
    by_cases e : k = j
    · subst e
      have : aget m k = none := by simpa using c
      simp [this]
    · simp [e]
theorem aput_len (m : List (κ × β)) (k : κ) (v : β) : (aput m k v).length ≤ m.length + 1 := by
  unfold aput
  split <;> simp
end
def dkv (p : Int × Int) : PyData × PyData := (.int p.1, .int p.2)
theorem dm_look (j : Int) : ∀ m : List (Int × Int), lookD (isI j) (m.map dkv) = (aget m j).map PyData.int
  | [] => rfl
  | p :: r => by
    have ih := dm_look j r
    rw [List.map_cons]
    by_cases e : p.1 = j
    · rw [aget_pos e]
      unfold lookD
      rw [List.find?_cons_of_pos (by simp [dkv, isI, e])]
      rfl
    · rw [aget_neg e, ← ih]
      unfold lookD
      rw [List.find?_cons_of_neg (by simp [dkv, isI, e])]
theorem dm_put (j v : Int) (m : List (Int × Int)) : putD (isI j) (m.map dkv) (.int j) (.int v) = (aput m j v).map dkv := by
  unfold putD aput
  have h : ((m.map dkv).any fun p => isI j p.1) = m.any fun p => decide (p.1 = j) := by
    rw [List.any_map]
    rfl
  rw [h]
  by_cases c : (m.any fun p => decide (p.1 = j)) = true
  · rw [if_pos c, if_pos c, List.map_map, List.map_map]
    apply List.map_congr_left
    intro p hp
    by_cases e : p.1 = j
    · simp [dkv, isI, e]
    · simp [dkv, isI, e]
  · rw [if_neg c, if_neg c, List.map_append]
    rfl
theorem dm_noMark : ∀ m : List (Int × Int), noMark (m.map dkv)
  | [], r, h => by cases h
  | p :: q, r, h => by
    rw [List.map_cons] at h
    injection h with h1 h2
    cases h1
theorem atD_dm {m : List (Int × Int)} {j : Int} {Z : Option PyData → Prop} (q : Z ((aget m j).map PyData.int)) : atD (.dict (m.map dkv)) (.int j) Z :=
  .inl ⟨_, j, rfl, dm_noMark m, rfl, by rw [dm_look]; exact q⟩
theorem putsD_dm {m : List (Int × Int)} {j v : Int} {Z : List (PyData × PyData) → Prop} (hl : m.length < 100000) (q : Z ((aput m j v).map dkv)) : putsD (.dict (m.map dkv)) (.int j) (.int v) Z :=
  .inl ⟨_, j, rfl, dm_noMark m, rfl, by rw [List.length_map]; exact hl, by rw [dm_put]; exact q⟩
theorem getD_int (o : Option Int) (d : Int) : (o.map PyData.int).getD (.int d) = .int (o.getD d) := by cases o <;> rfl
end St
set_option Elab.async false
set_option linter.all false
/-! Caches that count; a row without others answers the same. -/
namespace St
open PySem
/-- the distance at the i-th cache -/
def dst (ls : List Int) (ps : List Nat) : Nat → Int
  | 0 => 1
  | i + 1 => if i + 1 ∈ ps then 1 else max (dst ls ps i) (ls.getD i 0)
def cnt (r : Row) (i : Nat) : Bool := decide (r.ps.getD 0 0 ≤ i) && decide (dst r.ls r.ps i < r.ls.getD i 0)
theorem dst_pos (ls : List Int) (ps : List Nat) : ∀ i, 1 ≤ dst ls ps i
  | 0 => Int.le_refl _
  | i + 1 => by
    have := dst_pos ls ps i
    unfold dst
    split
    · exact Int.le_refl _
    · omega
/-- no place behind j and up to i -/
def NoP (ps : List Nat) (j i : Nat) : Prop := ∀ q ∈ ps, q ≤ i → q ≤ j
theorem dst_ge {ls : List Int} {ps : List Nat} {j : Nat} : ∀ i, j < i → NoP ps j i → ls.getD j 0 ≤ dst ls ps i
  | 0, h, _ => absurd h (by omega)
  | i + 1, h, N => by
    unfold dst
    have hn : ¬ i + 1 ∈ ps := fun z => by have := N _ z (Nat.le_refl _); omega
    rw [if_neg hn]
    by_cases e : j = i
    · subst e; omega
    · have := dst_ge (ls := ls) i (by omega) fun q hq h2 => N q hq (by omega)
      omega
theorem dst_dom {ls : List Int} {ps : List Nat} {v : Int} (hv : 2 ≤ v) {p : Nat} (hp : p ∈ ps) : ∀ i, p ≤ i → v ≤ dst ls ps i → ∃ j, p ≤ j ∧ j < i ∧ NoP ps j i ∧ v ≤ ls.getD j 0
  | 0, _, h => by
    have : dst ls ps 0 = 1 := rfl
    omega
  | i + 1, hpi, h => by
    unfold dst at h
    by_cases hm : i + 1 ∈ ps
    · rw [if_pos hm] at h; omega
    · rw [if_neg hm] at h
      have hpi2 : p ≤ i := by
        rcases Nat.lt_or_eq_of_le hpi with z | z
        · omega
        · exact absurd (z ▸ hp) hm
      have hno : NoP ps i (i + 1) := fun q hq h2 => by
        rcases Nat.lt_or_eq_of_le h2 with z | z
        · omega
        · exact absurd (z ▸ hq) hm
      by_cases e : v ≤ ls.getD i 0
      · exact ⟨i, hpi2, by omega, hno, e⟩
      · obtain ⟨j, a, b, c, d⟩ := dst_dom (ls := ls) hv hp i hpi2 (by omega)
        exact ⟨j, a, by omega, fun q hq h2 => c q hq (hno q hq h2), d⟩
/-! ### what is kept of a list -/
section
variable {α β : Type}
def red (f : Nat → Bool) : Nat → List α → List α
  | _, [] => []
  | i, x :: xs => if f i = true then x :: red f (i + 1) xs else red f (i + 1) xs
theorem red_t {f : Nat → Bool} {i : Nat} (c : f i = true) (x : α) (xs : List α) : red f i (x :: xs) = x :: red f (i + 1) xs := by
  rw [red, if_pos c]
theorem red_f {f : Nat → Bool} {i : Nat} (c : f i = false) (x : α) (xs : List α) : red f i (x :: xs) = red f (i + 1) xs := by
  rw [red, c]
  rfl
theorem red_append (f : Nat → Bool) : ∀ (xs ys : List α) (i : Nat), red f i (xs ++ ys) = red f i xs ++ red f (i + xs.length) ys
  | [], ys, i => rfl
  | x :: xs, ys, i => by
    have := red_append f xs ys (i + 1)
    rw [List.cons_append, List.length_cons, show i + (xs.length + 1) = i + 1 + xs.length by omega]
    cases c : f i with
    | true => rw [red_t c, red_t c, this]; rfl
    | false => rw [red_f c, red_f c, this]
/-- how many are kept ahead of p -/
def kc (f : Nat → Bool) (p : Nat) : Nat := ((List.range p).filter f).length
theorem red_lenAt (f : Nat → Bool) : ∀ (xs : List α) (i : Nat), (red f i xs).length = ((List.range' i xs.length).filter f).length
  | [], i => rfl
  | x :: xs, i => by
    have := red_lenAt f xs (i + 1)
    rw [List.length_cons, List.range'_succ]
    cases c : f i with
    | true => rw [red_t c, List.filter_cons_of_pos c, List.length_cons, List.length_cons, this]
    | false => rw [red_f c, List.filter_cons_of_neg (by rw [c]; exact Bool.false_ne_true), this]
theorem red_len (f : Nat → Bool) (xs : List α) : (red f 0 xs).length = kc f xs.length := by
  unfold kc
  rw [red_lenAt, List.range_eq_range']
theorem red_take (f : Nat → Bool) (xs : List α) {p : Nat} (hp : p ≤ xs.length) : (red f 0 xs).take (kc f p) = red f 0 (xs.take p) ∧ (red f 0 xs).drop (kc f p) = red f p (xs.drop p) := by
  have e : red f 0 xs = red f 0 (xs.take p) ++ red f p (xs.drop p) := by
    conv => lhs; rw [← List.take_append_drop p xs, red_append]
    simp [hp]
  have hl : (red f 0 (xs.take p)).length = kc f p := by rw [red_len]; simp [hp]
  rw [e]
  exact ⟨by rw [← hl, List.take_left'] <;> rfl, by rw [← hl, List.drop_left'] <;> rfl⟩
theorem red_getAt (f : Nat → Bool) (d : α) : ∀ (xs : List α) (i : Nat), ((List.range' i xs.length).filter f).map (fun k => xs.getD (k - i) d) = red f i xs
  | [], i => rfl
  | x :: xs, i => by
    have ih := red_getAt f d xs (i + 1)
    have e : ((List.range' (i + 1) xs.length).filter f).map (fun k => (x :: xs).getD (k - i) d) = red f (i + 1) xs := by
      rw [← ih]
      refine List.map_congr_left fun k hk => ?_
      have : i + 1 ≤ k := (List.mem_range'_1.mp (List.mem_filter.mp hk).1).1
      rw [show k - i = (k - (i + 1)) + 1 by omega]
      rfl
    rw [List.length_cons, List.range'_succ]
    cases c : f i with
    | true =>
      rw [red_t c, List.filter_cons_of_pos c, List.map_cons, e, Nat.sub_self]
      rfl
    | false => rw [red_f c, List.filter_cons_of_neg (by rw [c]; exact Bool.false_ne_true), e]
theorem red_get (f : Nat → Bool) (d : α) (xs : List α) : ((List.range xs.length).filter f).map (fun i => xs.getD i d) = red f 0 xs := by
  rw [← red_getAt f d xs 0, List.range_eq_range']
  rfl
theorem red_map (f : Nat → Bool) (g : α → β) : ∀ (xs : List α) (i : Nat), (red f i xs).map g = red f i (xs.map g)
  | [], i => rfl
  | x :: xs, i => by
    have := red_map f g xs (i + 1)
    rw [List.map_cons]
    cases c : f i with
    | true => rw [red_t c, red_t c, List.map_cons, this]
    | false => rw [red_f c, red_f c, this]
end
/-- the row of the caches that are kept -/
def redR (f : Nat → Bool) (r : Row) : Row := ⟨red f 0 r.ls, r.ps.map (kc f)⟩
/-! ### what every run keeps -/
structure Run (r : Row) (T : Int) (hs : List Ent) : Prop where
  len : hs.length = r.ls.length
  old : ∀ (i : Nat) (a s : Int), hs[i]? = some (some (a, s)) → s ≤ T
  dom : ∀ (i j : Nat) (a s : Int), j < i → NoP r.ps j i → hs[i]? = some (some (a, s)) → ∃ a' s', hs[j]? = some (some (a', s')) ∧ s ≤ s'
  now : ∀ (i : Nat) (a : Int), hs[i]? = some (some (a, T)) → (i + 1 = r.ls.length ∧ a = T) ∨ (∃ l s, r.ls[i + 1]? = some l ∧ hs[i + 1]? = some (some (a, s)) ∧ T < s + l)
theorem run_empt (r : Row) (T : Int) : Run r T (empt r) := by
  have no : ∀ (i : Nat) (a s : Int), ¬ (empt r)[i]? = some (some (a, s)) := fun i a s h => by
    unfold empt at h
    rw [List.getElem?_replicate] at h
    split at h <;> cases h
  exact ⟨by simp [empt], fun i a s h => absurd h (no _ _ _), fun i j a s _ _ h => absurd h (no _ _ _), fun i a h => absurd h (no _ _ _)⟩
theorem run_ask {r : Row} {T t : Int} {hs : List Ent} {p : Nat} (R : Run r T hs) (ht : T ≤ t) (hp : p ∈ r.ps) (hpn : p ≤ r.ls.length) (lo : ∀ l ∈ r.ls, 1 ≤ l) : Run r t (ask r.ls hs t p).2 := by
  obtain ⟨h1, h2, h3, h4, h5, h6⟩ := ask_src (t := t) R.len.symm hpn
  have hg := ask_get (t := t) R.len.symm hpn
  have hlen := ask_len r.ls hs t p
  revert h1 h2 h3 h4 h5 hg hlen
  clear h6
  generalize ask r.ls hs t p = q
  obtain ⟨⟨ans, src⟩, hs'⟩ := q
  intro h1 h2 h3 h4 h5 hg hlen
  simp only at h1 h2 h3 h4 h5 hg hlen ⊢
  refine ⟨hlen.trans R.len, fun i a s e => ?_, fun i j a s hj N e => ?_, fun i a e => ?_⟩
  · rw [hg] at e
    split at e
    · cases e; exact Int.le_refl _
    · have := R.old _ _ _ e; omega
  · rw [hg] at e
    by_cases c : p ≤ i ∧ i < src
    · rw [if_pos c] at e
      cases e
      have : p ≤ j := N p hp c.1
      rw [hg, if_pos ⟨this, by omega⟩]
      exact ⟨_, _, rfl, Int.le_refl _⟩
    · rw [if_neg c] at e
      rw [hg]
      by_cases c2 : p ≤ j ∧ j < src
      · rw [if_pos c2]
        have := R.old _ _ _ e
        exact ⟨_, _, rfl, by omega⟩
      · rw [if_neg c2]
        exact R.dom i j a s hj N e
  · rw [hg] at e
    by_cases c : p ≤ i ∧ i < src
    · rw [if_pos c] at e
      cases e
      by_cases c2 : i + 1 = src
      · by_cases c3 : src = r.ls.length
        · exact .inl ⟨by omega, h4 c3⟩
        · obtain ⟨l, h, e1, e2, e3⟩ := h5 (by omega)
          obtain ⟨s, rfl, hs⟩ := fresh_some e3
          refine .inr ⟨l, s, by rw [c2]; exact e1, ?_, hs⟩
          rw [hg, if_neg (by omega), c2]
          exact e2
      · obtain ⟨l, el⟩ := get_at (show i + 1 < r.ls.length by omega)
        refine .inr ⟨l, t, el, ?_, ?_⟩
        · rw [hg, if_pos ⟨by omega, by omega⟩]
        · have := lo l (get_mem el); omega
    · rw [if_neg c] at e
      have hT : t = T := by have := R.old _ _ _ e; omega
      subst hT
      rcases R.now i a e with z | ⟨l, s, e1, e2, e3⟩
      · exact .inl z
      · refine .inr ⟨l, s, e1, ?_, e3⟩
        rw [hg]
        by_cases c2 : p ≤ i + 1 ∧ i + 1 < src
        · exfalso
          obtain ⟨l', h', f1, f2, f3⟩ := h3 (i + 1) c2.1 c2.2
          rw [e1] at f1; cases f1
          rw [e2] at f2; cases f2
          unfold fresh at f3
          simp only at f3
          rw [if_neg (by omega)] at f3
          cases f3
        · rw [if_neg c2]; exact e2
/-! ### the row without caches that do not count -/
theorem getD_get {α : Type} {l : List α} {i : Nat} {x d : α} (h : l[i]? = some x) : l.getD i d = x := getD_of h
/-- a cache that is left out and is fresh lives for 1 -/
theorem skip_one {r : Row} {T t : Int} {hs : List Ent} {p i : Nat} (R : Run r T hs) (hp : p ∈ r.ps) (hpi : p ≤ i) {l a : Int} {h : Ent} (el : r.ls[i]? = some l) (eh : hs[i]? = some h) (hf : fresh l h t = some a)
    (nc : ¬ dst r.ls r.ps i < l) (lo : ∀ l ∈ r.ls, 1 ≤ l)
    (H : ∀ j, p ≤ j → j < i → ∃ l h, r.ls[j]? = some l ∧ hs[j]? = some h ∧ (fresh l h t = none ∨ l = 1)) : l = 1 := by
  have hl := lo l (get_mem el)
  by_cases h2 : l = 1
  · exact h2
  exfalso
  obtain ⟨j, j1, j2, j3, j4⟩ := dst_dom (ls := r.ls) (v := l) (by omega) hp i hpi (by omega)
  obtain ⟨l', h', e1, e2, e3⟩ := H j j1 j2
  rw [getD_of e1] at j4
  obtain ⟨s, rfl, hs1⟩ := fresh_some hf
  obtain ⟨a', s', e4, e5⟩ := R.dom i j a s j2 j3 eh
  rw [e2] at e4
  cases e4
  rcases e3 with e3 | e3
  · rcases fresh_none e3 with z | ⟨a2, s2, z, hz⟩
    · cases z
    · cases z; omega
  · omega
theorem drop_get {α : Type} {l : List α} {i : Nat} {x : α} (h : l[i]? = some x) : l.drop i = x :: l.drop (i + 1) := by
  obtain ⟨a, b⟩ := List.getElem?_eq_some_iff.mp h
  rw [List.drop_eq_getElem_cons a, b]
theorem askL_f {l a t : Int} {h : Ent} (e : fresh l h t = some a) (ls : List Int) (hs : List Ent) (k : Nat) : askL (l :: ls) (h :: hs) t k = ((a, k), h :: hs) := by
  rw [askL, e]
theorem askL_s {l t : Int} {h : Ent} (e : fresh l h t = none) (ls : List Int) (hs : List Ent) (k : Nat) : askL (l :: ls) (h :: hs) t k = ((askL ls hs t (k + 1)).1, some ((askL ls hs t (k + 1)).1.1, t) :: (askL ls hs t (k + 1)).2) := by
  rw [askL, e]
section
variable {r : Row} {T t : Int} {hs : List Ent} {p : Nat} {f : Nat → Bool}
/-- the row has answered already: the caches above say the same -/
theorem red_said (R : Run r T hs) (ht : T ≤ t) (hp : p ∈ r.ps) (lo : ∀ l ∈ r.ls, 1 ≤ l) (hf : ∀ i, p ≤ i → i < r.ls.length → f i = false → ¬ dst r.ls r.ps i < r.ls.getD i 0) {a : Int} : ∀ (m i : Nat), i + m = r.ls.length → p ≤ i →
    (∀ j, p ≤ j → j < i → ∃ l h, r.ls[j]? = some l ∧ hs[j]? = some h ∧ (fresh l h t = none ∨ l = 1)) →
    ((i = r.ls.length ∧ a = t) ∨ ∃ l h, r.ls[i]? = some l ∧ hs[i]? = some h ∧ fresh l h t = some a) → ∀ k,
    (askL (red f i (r.ls.drop i)) (red f i (hs.drop i)) t k).1.1 = a ∧ (askL (red f i (r.ls.drop i)) (red f i (hs.drop i)) t k).2 = red f i (hs.drop i)
  | 0, i, e, hpi, H, hq, k => by
    rw [List.drop_eq_nil_of_le (by omega), List.drop_eq_nil_of_le (by rw [R.len]; omega)]
    rcases hq with ⟨_, rfl⟩ | ⟨l, h, e1, _⟩
    · exact ⟨rfl, rfl⟩
    · have := get_lt e1; omega
  | m + 1, i, e, hpi, H, hq, k => by
    rcases hq with ⟨z, _⟩ | ⟨l, h, e1, e2, e3⟩
    · omega
    rw [drop_get e1, drop_get e2]
    cases c : f i with
    | true =>
      rw [red_t c, red_t c, askL_f e3]
      exact ⟨rfl, rfl⟩
    | false =>
      rw [red_f c, red_f c]
      have hl := skip_one R hp hpi e1 e2 e3 (by have := hf i hpi (by omega) c; rwa [getD_of e1] at this) lo H
      subst hl
      obtain ⟨s, rfl, hs1⟩ := fresh_some e3
      have := R.old _ _ _ e2
      have e4 : s = T := by omega
      have e5 : t = T := by omega
      have e6 : hs[i]? = some (some (a, T)) := by rw [← e4]; exact e2
      refine red_said R ht hp lo hf m (i + 1) (by omega) (by omega) (fun j h1 h2 => ?_) ?_ k
      · by_cases z : j = i
        · subst z
          exact ⟨_, _, e1, e2, .inr rfl⟩
        · exact H j h1 (by omega)
      · rcases R.now i a e6 with z | ⟨l, s, f1, f2, f3⟩
        · exact .inl (by rw [e5]; exact z)
        · refine .inr ⟨l, _, f1, f2, ?_⟩
          unfold fresh
          simp only
          rw [if_neg (by omega)]
theorem red_askL (R : Run r T hs) (ht : T ≤ t) (hp : p ∈ r.ps) (lo : ∀ l ∈ r.ls, 1 ≤ l) (hf : ∀ i, p ≤ i → i < r.ls.length → f i = false → ¬ dst r.ls r.ps i < r.ls.getD i 0) : ∀ (m i : Nat), i + m = r.ls.length → p ≤ i →
    (∀ j, p ≤ j → j < i → ∃ l h, r.ls[j]? = some l ∧ hs[j]? = some h ∧ (fresh l h t = none ∨ l = 1)) → ∀ k k',
    (askL (red f i (r.ls.drop i)) (red f i (hs.drop i)) t k).1.1 = (askL (r.ls.drop i) (hs.drop i) t k').1.1 ∧ (askL (red f i (r.ls.drop i)) (red f i (hs.drop i)) t k).2 = red f i (askL (r.ls.drop i) (hs.drop i) t k').2
  | 0, i, e, hpi, H, k, k' => by
    rw [List.drop_eq_nil_of_le (by omega), List.drop_eq_nil_of_le (by rw [R.len]; omega)]
    exact ⟨rfl, rfl⟩
  | m + 1, i, e, hpi, H, k, k' => by
    obtain ⟨l, e1⟩ := get_at (show i < r.ls.length by omega)
    obtain ⟨h, e2⟩ := get_at (show i < hs.length by rw [R.len]; omega)
    have goOn : fresh l h t = none → ∀ j, p ≤ j → j < i + 1 → ∃ l h, r.ls[j]? = some l ∧ hs[j]? = some h ∧ (fresh l h t = none ∨ l = 1) := fun z j h1 h2 => by
      by_cases z2 : j = i
      · subst z2; exact ⟨_, _, e1, e2, .inl z⟩
      · exact H j h1 (by omega)
    rw [drop_get e1, drop_get e2]
    cases c : f i with
    | true =>
      cases e3 : fresh l h t with
      | some a =>
        rw [askL_f e3, red_t c, red_t c, askL_f e3]
        exact ⟨rfl, rfl⟩
      | none =>
        obtain ⟨x, y⟩ := red_askL R ht hp lo hf m (i + 1) (by omega) (by omega) (goOn e3) (k + 1) (k' + 1)
        rw [askL_s e3, red_t c, red_t c, askL_s e3, red_t c]
        exact ⟨x, by rw [x, y]⟩
    | false =>
      cases e3 : fresh l h t with
      | some a =>
        rw [askL_f e3, ← drop_get e1, ← drop_get e2]
        exact red_said R ht hp lo hf (m + 1) i (by omega) hpi H (.inr ⟨l, h, e1, e2, e3⟩) k
      | none =>
        obtain ⟨x, y⟩ := red_askL R ht hp lo hf m (i + 1) (by omega) (by omega) (goOn e3) k (k' + 1)
        rw [askL_s e3, red_f c, red_f c, red_f c]
        exact ⟨x, y⟩
theorem red_ask (R : Run r T hs) (ht : T ≤ t) (hp : p ∈ r.ps) (hpn : p ≤ r.ls.length) (lo : ∀ l ∈ r.ls, 1 ≤ l) (hf : ∀ i, p ≤ i → i < r.ls.length → f i = false → ¬ dst r.ls r.ps i < r.ls.getD i 0) :
    (ask (red f 0 r.ls) (red f 0 hs) t (kc f p)).1.1 = (ask r.ls hs t p).1.1 ∧ (ask (red f 0 r.ls) (red f 0 hs) t (kc f p)).2 = red f 0 (ask r.ls hs t p).2 := by
  obtain ⟨a1, a2⟩ := red_take f r.ls hpn
  obtain ⟨b1, b2⟩ := red_take f hs (show p ≤ hs.length by rw [R.len]; exact hpn)
  obtain ⟨x, y⟩ := red_askL R ht hp lo hf (r.ls.length - p) p (by omega) (Nat.le_refl _) (fun j h1 h2 => absurd h1 (by omega)) (kc f p) p
  unfold ask
  rw [a2, b2, b1]
  refine ⟨x, ?_⟩
  simp only
  rw [y, red_append]
  congr 2
  rw [List.length_take, R.len]
  omega
end
/-- left out: no cache that counts -/
def Keeps (r : Row) (f : Nat → Bool) : Prop := ∀ i, i < r.ls.length → f i = false → cnt r i = false
theorem least {r : Row} (up : r.ps.Pairwise (· ≤ ·)) {p : Nat} (hp : p ∈ r.ps) : r.ps.getD 0 0 ≤ p := by
  cases h : r.ps with
  | nil => rw [h] at hp; cases hp
  | cons q qs =>
    rw [h] at hp up
    show q ≤ p
    rcases List.mem_cons.mp hp with rfl | hp
    · exact Nat.le_refl _
    · exact List.rel_of_pairwise_cons up hp
structure Good (r : Row) : Prop where
  lo : ∀ x ∈ r.ls, 1 ≤ x
  p0 : r.ps ≠ []
  inn : ∀ p ∈ r.ps, p ≤ r.ls.length
  up : r.ps.Pairwise (· ≤ ·)
theorem red_walk {r : Row} (G : Good r) {f : Nat → Bool} (K : Keeps r f) : ∀ (s : Sch) (hs : List Ent) (T : Int), Run r T hs → (∀ x ∈ s, T ≤ x.1) → s.Pairwise (fun x y => x.1 ≤ y.1) → (∀ x ∈ s, x.2 < r.ps.length) →
    (walk (redR f r) (red f 0 hs) s).1.map (·.1) = (walk r hs s).1.map (·.1) ∧ (walk (redR f r) (red f 0 hs) s).2 = red f 0 (walk r hs s).2
  | [], hs, T, R, _, _, _ => ⟨rfl, rfl⟩
  | x :: s, hs, T, R, hT, up, cl => by
    obtain ⟨p, hp⟩ := get_at (cl x (List.mem_cons_self ..))
    have hT1 := hT x (List.mem_cons_self ..)
    have hpn := G.inn p (get_mem hp)
    obtain ⟨a, b⟩ := red_ask (f := f) R hT1 (get_mem hp) hpn G.lo fun i h1 h2 h3 => by
      have := K i h2 h3
      unfold cnt at this
      have h4 := least G.up (get_mem hp)
      rw [decide_eq_true (show r.ps.getD 0 0 ≤ i by omega), Bool.true_and] at this
      exact of_decide_eq_false this
    have R2 := run_ask R hT1 (get_mem hp) hpn G.lo
    obtain ⟨u1, u2⟩ := List.pairwise_cons.mp up
    obtain ⟨c, d⟩ := red_walk G K s _ _ R2 (fun y hy => u1 y hy) u2 fun y hy => cl y (List.mem_cons_of_mem _ hy)
    have e1 : r.ps.getD x.2 0 = p := getD_of hp
    have e2 : (redR f r).ps.getD x.2 0 = kc f p := getD_of (by unfold redR; simp [hp])
    unfold walk
    rw [e1, e2]
    show ((ask (red f 0 r.ls) (red f 0 hs) x.1 (kc f p)).1 :: (walk (redR f r) (ask (red f 0 r.ls) (red f 0 hs) x.1 (kc f p)).2 s).1).map (·.1) = _ ∧ (walk (redR f r) (ask (red f 0 r.ls) (red f 0 hs) x.1 (kc f p)).2 s).2 = _
    rw [b]
    refine ⟨?_, d⟩
    rw [List.map_cons, List.map_cons, a, c]
theorem red_empt (f : Nat → Bool) (r : Row) : red f 0 (empt r) = empt (redR f r) := by
  have h : ∀ (n i : Nat), red f i (List.replicate n (none : Ent)) = List.replicate (red f i (List.replicate n (0 : Int))).length none := by
    intro n
    induction n with
    | zero => intro i; rfl
    | succ n ih =>
      intro i
      rw [List.replicate_succ, List.replicate_succ]
      unfold red
      split
      · rw [ih, List.length_cons, List.replicate_succ]
      · exact ih _
  unfold empt redR
  rw [h, red_len, red_len]
  simp
/-- the row without caches that do not count answers the same -/
theorem red_answers {r : Row} (G : Good r) {f : Nat → Bool} (K : Keeps r f) {s : Sch} (up : s.Pairwise (fun x y => x.1 ≤ y.1)) (cl : ∀ x ∈ s, x.2 < r.ps.length) : answers (redR f r) s = answers r s := by
  unfold answers
  rw [← red_empt]
  cases s with
  | nil => rfl
  | cons x s =>
    refine (red_walk G K (x :: s) (empt r) x.1 (run_empt r _) (fun y hy => ?_) up cl).1
    rcases List.mem_cons.mp hy with rfl | hy
    · exact Int.le_refl _
    · exact (List.pairwise_cons.mp up).1 y hy
end St
set_option Elab.async false
set_option linter.all false
/-! The normal form; the greatest age, and reads that reach it. -/
namespace St
open PySem
/-! ### how many are kept -/
theorem kc_succ (f : Nat → Bool) (i : Nat) : kc f (i + 1) = kc f i + if f i = true then 1 else 0 := by
  unfold kc
  rw [List.range_succ, List.filter_append, List.length_append]
  cases h : f i with
  | true => simp [h]
  | false => simp [h]
theorem kc_mono (f : Nat → Bool) {i j : Nat} (h : i ≤ j) : kc f i ≤ kc f j := by
  obtain ⟨d, rfl⟩ := Nat.exists_eq_add_of_le h
  clear h
  induction d with
  | zero => exact Nat.le_refl _
  | succ d ih =>
    rw [← Nat.add_assoc, kc_succ]
    omega
theorem kc_lt {f : Nat → Bool} {i j : Nat} (h : i < j) (c : f i = true) : kc f i < kc f j := by
  have h1 := kc_succ f i
  rw [if_pos c] at h1
  have := kc_mono f (show i + 1 ≤ j from h)
  omega
theorem kc_zero {f : Nat → Bool} {p : Nat} (h : ∀ i, i < p → f i = false) : kc f p = 0 := by
  unfold kc
  rw [List.filter_eq_nil_iff.mpr fun i hi => by rw [h i (List.mem_range.mp hi)]; exact Bool.false_ne_true]
  rfl
theorem red_atAt {α : Type} (f : Nat → Bool) : ∀ (xs : List α) (i k : Nat) (x : α), (red f i xs)[k]? = some x → ∃ j, xs[j]? = some x ∧ f (i + j) = true ∧ ((List.range' i j).filter f).length = k
  | [], i, k, x, h => by simp [red] at h
  | y :: xs, i, k, x, h => by
    cases c : f i with
    | true =>
      rw [red_t c] at h
      cases k with
      | zero => exact ⟨0, by simpa using h, c, rfl⟩
      | succ k =>
        obtain ⟨j, a, b, d⟩ := red_atAt f xs (i + 1) k x (by simpa using h)
        refine ⟨j + 1, by simpa using a, by rw [← Nat.add_assoc, Nat.add_right_comm]; exact b, ?_⟩
        rw [List.range'_succ, List.filter_cons_of_pos c, List.length_cons, d]
    | false =>
      rw [red_f c] at h
      obtain ⟨j, a, b, d⟩ := red_atAt f xs (i + 1) k x h
      refine ⟨j + 1, by simpa using a, by rw [← Nat.add_assoc, Nat.add_right_comm]; exact b, ?_⟩
      rw [List.range'_succ, List.filter_cons_of_neg (by rw [c]; exact Bool.false_ne_true), d]
theorem red_at {α : Type} {f : Nat → Bool} {xs : List α} {k : Nat} {x : α} (h : (red f 0 xs)[k]? = some x) : ∃ j, xs[j]? = some x ∧ f j = true ∧ kc f j = k := by
  obtain ⟨j, a, b, c⟩ := red_atAt f xs 0 k x h
  refine ⟨j, a, by simpa using b, ?_⟩
  unfold kc
  rw [List.range_eq_range']
  exact c
theorem red_mem {α : Type} {f : Nat → Bool} {xs : List α} {x : α} (h : x ∈ red f 0 xs) : x ∈ xs := by
  obtain ⟨k, hk, e⟩ := List.getElem_of_mem h
  obtain ⟨j, a, _, _⟩ := red_at (List.getElem?_eq_some_iff.mpr ⟨hk, e⟩)
  exact get_mem a
/-! ### the normal form -/
def nf (r : Row) : Row := redR (cnt r) r
theorem redR_good {r : Row} (G : Good r) (f : Nat → Bool) : Good (redR f r) := by
  refine ⟨fun x hx => G.lo x (red_mem hx), ?_, fun p hp => ?_, ?_⟩
  · unfold redR
    simpa using G.p0
  · obtain ⟨q, hq, rfl⟩ := List.mem_map.mp hp
    show kc f q ≤ (red f 0 r.ls).length
    rw [red_len]
    exact kc_mono f (G.inn q hq)
  · exact G.up.map _ fun a b h => kc_mono f h
/-- lifetimes rise between two places, and are 2 at least -/
structure Rise (r : Row) : Prop where
  up : ∀ j i a b, j < i → NoP r.ps j i → r.ls[j]? = some a → r.ls[i]? = some b → a < b
  two : ∀ x ∈ r.ls, 2 ≤ x
  low : r.ps.getD 0 0 = 0
theorem nf_rise {r : Row} (G : Good r) : Rise (nf r) := by
  have cl : ∀ {i : Nat} {l : Int}, cnt r i = true → r.ls[i]? = some l → dst r.ls r.ps i < l := fun h e => by
    unfold cnt at h
    rw [Bool.and_eq_true] at h
    have := of_decide_eq_true h.2
    rwa [getD_of e] at this
  refine ⟨fun j' i' a b hji N ha hb => ?_, fun x hx => ?_, ?_⟩
  · obtain ⟨j, a1, a2, a3⟩ := red_at ha
    obtain ⟨i, b1, b2, b3⟩ := red_at hb
    have hlt : j < i := by
      rcases Nat.lt_or_ge j i with z | z
      · exact z
      · have := kc_mono (cnt r) z; omega
    have N2 : NoP r.ps j i := fun q hq h => by
      have h1 := kc_mono (cnt r) h
      have h2 := N (kc (cnt r) q) (List.mem_map.mpr ⟨q, hq, rfl⟩) (by omega)
      rcases Nat.lt_or_ge j q with z | z
      · have := kc_lt z a2; omega
      · exact z
    have h1 := dst_ge (ls := r.ls) i hlt N2
    rw [getD_of a1] at h1
    have := cl b2 b1
    omega
  · obtain ⟨k, hk, e⟩ := List.getElem_of_mem hx
    obtain ⟨j, a1, a2, _⟩ := red_at (List.getElem?_eq_some_iff.mpr ⟨hk, e⟩)
    have h1 := dst_pos r.ls r.ps j
    have := cl a2 a1
    omega
  · show (r.ps.map (kc (cnt r))).getD 0 0 = 0
    cases hps : r.ps with
    | nil => rfl
    | cons p ps =>
      show kc (cnt r) p = 0
      refine kc_zero fun i hi => ?_
      unfold cnt
      rw [hps]
      rw [decide_eq_false (show ¬ (p :: ps).getD 0 0 ≤ i by simpa using hi)]
      rfl
theorem rise_cnt {r : Row} (G : Good r) (R : Rise r) {i : Nat} (hi : i < r.ls.length) : cnt r i = true := by
  obtain ⟨l, e⟩ := get_at hi
  unfold cnt
  rw [R.low, Bool.and_eq_true]
  refine ⟨decide_eq_true (Nat.zero_le _), decide_eq_true ?_⟩
  rw [getD_of e]
  rcases Int.lt_or_le (dst r.ls r.ps i) l with h | h
  · exact h
  · exfalso
    have h0 : (0 : Nat) ∈ r.ps := by
      cases hps : r.ps with
      | nil => exact absurd hps G.p0
      | cons p ps =>
        have := R.low
        rw [hps] at this
        have : p = 0 := this
        subst this
        exact List.mem_cons_self ..
    obtain ⟨j, a, b, c, d⟩ := dst_dom (R.two l (get_mem e)) h0 i (Nat.zero_le _) h
    obtain ⟨l', e'⟩ := get_at (show j < r.ls.length by omega)
    rw [getD_of e'] at d
    have := R.up j i l' l b c e' e
    omega
theorem red_all {α : Type} {f : Nat → Bool} : ∀ (xs : List α) (i : Nat), (∀ j, i ≤ j → j < i + xs.length → f j = true) → red f i xs = xs
  | [], i, _ => rfl
  | x :: xs, i, h => by
    rw [red_t (h i (Nat.le_refl _) (by simp)), red_all xs (i + 1) fun j h1 h2 => h j (by omega) (by simp only [List.length_cons]; omega)]
theorem kc_all {f : Nat → Bool} {p : Nat} (h : ∀ i, i < p → f i = true) : kc f p = p := by
  unfold kc
  rw [List.filter_eq_self.mpr fun i hi => h i (List.mem_range.mp hi)]
  simp
theorem nf_rise_self {r : Row} (G : Good r) (R : Rise r) : nf r = r := by
  obtain ⟨ls, ps⟩ := r
  unfold nf redR
  congr 1
  · exact red_all _ 0 fun j _ h => rise_cnt G R (by simpa using h)
  · conv => rhs; rw [← List.map_id ps]
    refine List.map_congr_left fun p hp => ?_
    exact kc_all fun i hi => rise_cnt G R (Nat.lt_of_lt_of_le hi (G.inn p hp))
theorem nf_nf {r : Row} (G : Good r) : nf (nf r) = nf r := nf_rise_self (redR_good G _) (nf_rise G)
theorem keeps_cnt (r : Row) : Keeps r (cnt r) := fun _ _ h => h
/-! ### ages -/
def ageS (ls : List Int) (p : Nat) : Int := ((ls.drop p).map (· - 1)).sum
theorem ageS_get {ls : List Int} {i : Nat} {l : Int} (h : ls[i]? = some l) : ageS ls i = l - 1 + ageS ls (i + 1) := by
  unfold ageS
  rw [drop_get h, List.map_cons, List.sum_cons]
theorem ageS_end {ls : List Int} {i : Nat} (h : ls.length ≤ i) : ageS ls i = 0 := by
  unfold ageS
  rw [List.drop_eq_nil_of_le h]
  rfl
theorem ageS_nn {ls : List Int} (lo : ∀ l ∈ ls, 1 ≤ l) (i : Nat) : 0 ≤ ageS ls i ∧ ageS ls (i + 1) ≤ ageS ls i := by
  have key : ∀ m i, ls.length ≤ i + m → 0 ≤ ageS ls i := by
    intro m
    induction m with
    | zero => intro i h; rw [ageS_end (by omega)]; exact Int.le_refl _
    | succ m ih =>
      intro i h
      by_cases c : i < ls.length
      · obtain ⟨l, e⟩ := get_at c
        have := lo l (get_mem e)
        have := ih (i + 1) (by omega)
        rw [ageS_get e]
        omega
      · rw [ageS_end (by omega)]; exact Int.le_refl _
  refine ⟨key ls.length i (by omega), ?_⟩
  by_cases c : i < ls.length
  · obtain ⟨l, e⟩ := get_at c
    have := lo l (get_mem e)
    rw [ageS_get e]
    omega
  · rw [ageS_end (by omega), ageS_end (by omega)]; exact Int.le_refl _
theorem ageS_anti {ls : List Int} (lo : ∀ l ∈ ls, 1 ≤ l) {i j : Nat} (h : i ≤ j) : ageS ls j ≤ ageS ls i := by
  obtain ⟨d, rfl⟩ := Nat.exists_eq_add_of_le h
  clear h
  induction d with
  | zero => exact Int.le_refl _
  | succ d ih =>
    have := (ageS_nn lo (i + d)).2
    rw [← Nat.add_assoc]
    omega
theorem ageS_hi {ls : List Int} {w : Int} (hw : 0 ≤ w) (hi : ∀ l ∈ ls, l ≤ w + 1) (p : Nat) : ageS ls p ≤ w * ls.length := by
  have key : ∀ xs : List Int, (∀ l ∈ xs, l ≤ w + 1) → (xs.map (· - 1)).sum ≤ w * xs.length := by
    intro xs
    induction xs with
    | nil => intro _; simp
    | cons x xs ih =>
      intro h
      have h1 := h x (List.mem_cons_self ..)
      have h2 := ih fun l hl => h l (List.mem_cons_of_mem _ hl)
      rw [List.map_cons, List.sum_cons, List.length_cons]
      have : w * ((xs.length + 1 : Nat) : Int) = w * (xs.length : Int) + w := by
        rw [Int.natCast_add, Int.mul_add]; simp
      omega
  have h1 := key (ls.drop p) fun l hl => hi l (List.mem_of_mem_drop hl)
  have h2 : ((ls.drop p).length : Int) ≤ ls.length := by simp
  have h3 := Int.mul_le_mul_of_nonneg_left h2 hw
  unfold ageS
  omega
/-- no entry was older when it was stored -/
def Aged (ls : List Int) (hs : List Ent) : Prop := ∀ (i : Nat) (a s : Int), hs[i]? = some (some (a, s)) → s - a ≤ ageS ls (i + 1)
theorem aged_empt (r : Row) : Aged r.ls (empt r) := fun i a s h => by
  unfold empt at h
  rw [List.getElem?_replicate] at h
  split at h <;> cases h
theorem ask_aged {ls : List Int} {hs : List Ent} {t : Int} {p : Nat} (hl : ls.length = hs.length) (hp : p ≤ ls.length) (lo : ∀ l ∈ ls, 1 ≤ l) (A : Aged ls hs) :
    t - (ask ls hs t p).1.1 ≤ ageS ls p ∧ Aged ls (ask ls hs t p).2 := by
  obtain ⟨h1, h2, h3, h4, h5, h6⟩ := ask_src (t := t) hl hp
  have hg := ask_get (t := t) hl hp
  have key : t - (ask ls hs t p).1.1 ≤ ageS ls (ask ls hs t p).1.2 := by
    by_cases c : (ask ls hs t p).1.2 = ls.length
    · rw [h4 c, c, ageS_end (Nat.le_refl _)]; omega
    · obtain ⟨l, h, e1, e2, e3⟩ := h5 (by omega)
      obtain ⟨s, rfl, hs⟩ := fresh_some e3
      have := A _ _ _ e2
      rw [ageS_get e1]
      omega
  refine ⟨?_, fun i a s e => ?_⟩
  · have := ageS_anti lo h1
    omega
  · rw [hg] at e
    by_cases c : p ≤ i ∧ i < (ask ls hs t p).1.2
    · rw [if_pos c] at e
      cases e
      have := ageS_anti lo (show i + 1 ≤ (ask ls hs t p).1.2 from c.2)
      omega
    · rw [if_neg c] at e
      exact A i a s e
theorem walk_aged {r : Row} (G : Good r) : ∀ (s : Sch) (hs : List Ent), r.ls.length = hs.length → (∀ x ∈ s, x.2 < r.ps.length) → Aged r.ls hs → ∀ (k : Nat) (x : Int × Nat) (a : Int), s[k]? = some x → ((walk r hs s).1.map (·.1))[k]? = some a → x.1 - a ≤ ageS r.ls (r.ps.getD x.2 0)
  | [], hs, _, _, _, k, x, a, h, _ => by simp at h
  | y :: s, hs, hl, cl, A, k, x, a, h, h' => by
    obtain ⟨p, hp⟩ := get_at (cl y (List.mem_cons_self ..))
    obtain ⟨b, c⟩ := ask_aged (t := y.1) hl (G.inn p (get_mem hp)) G.lo A
    have e1 : r.ps.getD y.2 0 = p := getD_of hp
    unfold walk at h'
    rw [e1] at h'
    cases k with
    | zero =>
      have : y = x := by simpa using h
      subst this
      simp only [List.map_cons, List.getElem?_cons_zero, Option.some.injEq] at h'
      subst h'
      rw [e1]
      exact b
    | succ k =>
      exact walk_aged G s _ (by rw [ask_len]; exact hl) (fun z hz => cl z (List.mem_cons_of_mem _ hz)) c k x a (by simpa using h) (by simpa using h')
/-- no answer is older than the lifetimes of the caches that count allow -/
theorem answers_aged {r : Row} (G : Good r) {s : Sch} (up : s.Pairwise (fun x y => x.1 ≤ y.1)) (cl : ∀ x ∈ s, x.2 < r.ps.length) {k : Nat} {x : Int × Nat} {a : Int} (h : s[k]? = some x) (h' : (answers r s)[k]? = some a) :
    x.1 - a ≤ ageS (nf r).ls ((nf r).ps.getD x.2 0) := by
  rw [← red_answers G (keeps_cnt r) up cl] at h'
  exact walk_aged (redR_good G _) s _ (by simp [empt, nf]) (fun z hz => by show z.2 < (r.ps.map _).length; rw [List.length_map]; exact cl z hz) (aged_empt _) k x a h h'
/-! ### reads that reach it -/
def near (ps : List Nat) (i : Nat) : Nat := ((List.range ps.length).filter fun c => decide (ps.getD c 0 ≤ i)).foldl max 0
theorem foldl_max_ge (L : List Nat) : ∀ (b : Nat), b ≤ L.foldl max b ∧ ∀ x ∈ L, x ≤ L.foldl max b := by
  induction L with
  | nil => intro b; exact ⟨Nat.le_refl _, fun x hx => by cases hx⟩
  | cons y L ih =>
    intro b
    obtain ⟨h1, h2⟩ := ih (max b y)
    rw [List.foldl_cons]
    refine ⟨by omega, fun x hx => ?_⟩
    rcases List.mem_cons.mp hx with rfl | hx
    · omega
    · exact h2 x hx
theorem foldl_max_mem (L : List Nat) : ∀ (b : Nat), L.foldl max b = b ∨ L.foldl max b ∈ L := by
  induction L with
  | nil => intro b; exact .inl rfl
  | cons y L ih =>
    intro b
    rw [List.foldl_cons]
    rcases ih (max b y) with h | h
    · rw [h]
      rcases Nat.le_total b y with z | z
      · rw [Nat.max_eq_right z]; exact .inr (List.mem_cons_self ..)
      · rw [Nat.max_eq_left z]; exact .inl rfl
    · exact .inr (List.mem_cons_of_mem _ h)
theorem foldl_max_eq {L : List Nat} {m : Nat} (h1 : m ∈ L) (h2 : ∀ y ∈ L, y ≤ m) : L.foldl max 0 = m := by
  have a := (foldl_max_ge L 0).2 m h1
  rcases foldl_max_mem L 0 with z | z
  · rw [z] at a ⊢; omega
  · have := h2 _ z; omega
/-- the nearest place at or below i, and its client -/
theorem near_props {ps : List Nat} (up : ps.Pairwise (· ≤ ·)) {i q : Nat} (hq : q ∈ ps) (hqi : q ≤ i) :
    near ps i < ps.length ∧ ∃ p, ps[near ps i]? = some p ∧ p ≤ i ∧ ∀ q ∈ ps, q ≤ i → q ≤ p := by
  have hmem : ∀ q ∈ ps, q ≤ i → ∃ c, c ∈ (List.range ps.length).filter (fun c => decide (ps.getD c 0 ≤ i)) ∧ ps[c]? = some q := fun q hq hqi => by
    obtain ⟨c, hc, e⟩ := List.getElem_of_mem hq
    have e2 : ps[c]? = some q := List.getElem?_eq_some_iff.mpr ⟨hc, e⟩
    refine ⟨c, List.mem_filter.mpr ⟨List.mem_range.mpr hc, ?_⟩, e2⟩
    rw [getD_of e2]
    exact decide_eq_true hqi
  have hin : near ps i ∈ (List.range ps.length).filter (fun c => decide (ps.getD c 0 ≤ i)) := by
    unfold near
    obtain ⟨c, hc, _⟩ := hmem q hq hqi
    rcases foldl_max_mem ((List.range ps.length).filter fun c => decide (ps.getD c 0 ≤ i)) 0 with z | z
    · have := (foldl_max_ge _ 0).2 c hc
      rw [z] at this ⊢
      have : c = 0 := by omega
      subst this
      exact hc
    · exact z
  obtain ⟨h1, h2⟩ := List.mem_filter.mp hin
  have hlt := List.mem_range.mp h1
  refine ⟨hlt, ?_⟩
  obtain ⟨p, hp⟩ := get_at hlt
  have h2 := of_decide_eq_true h2
  rw [getD_of hp] at h2
  refine ⟨p, hp, h2, fun q hq hqi => ?_⟩
  obtain ⟨c, hc, e⟩ := hmem q hq hqi
  have hle : c ≤ near ps i := (foldl_max_ge _ 0).2 c hc
  rcases Nat.lt_or_eq_of_le hle with z | z
  · have hc2 := get_lt e
    have := List.pairwise_iff_getElem.mp up c (near ps i) hc2 hlt z
    obtain ⟨_, x1⟩ := List.getElem?_eq_some_iff.mp e
    obtain ⟨_, x2⟩ := List.getElem?_eq_some_iff.mp hp
    omega
  · subst z
    rw [e] at hp
    cases hp
    exact Nat.le_refl _
/-- k reads, from the top downward -/
def lastM (r : Row) : Nat → Sch
  | 0 => []
  | k + 1 => lastM r k ++ [(ageS r.ls (r.ls.length - k), near r.ps (r.ls.length - 1 - k))]
theorem lastM_len (r : Row) : ∀ k, (lastM r k).length = k
  | 0 => rfl
  | k + 1 => by simp [lastM, lastM_len r k]
/-- what the caches hold behind them -/
def lastS (r : Row) (k j : Nat) : Ent := if r.ls.length - k ≤ j then some (0, ageS r.ls (j + 1)) else if 0 < k ∧ r.ps.getD (near r.ps (r.ls.length - k)) 0 ≤ j then some (0, ageS r.ls (r.ls.length - k + 1)) else none
theorem lastM_run {r : Row} (G : Good r) (R : Rise r) {low : Nat} (hlow : low ∈ r.ps) : ∀ k, low + k ≤ r.ls.length →
    (walk r (empt r) (lastM r k)).1.map (·.1) = List.replicate k 0 ∧ ∀ j, j < r.ls.length → (walk r (empt r) (lastM r k)).2[j]? = some (lastS r k j)
  | 0, _ => by
    refine ⟨rfl, fun j hj => ?_⟩
    unfold lastM walk lastS empt
    simp [hj]
  | k + 1, hk => by
    obtain ⟨ih1, ih2⟩ := lastM_run G R hlow k (by omega)
    have hlen := (walk_len r (lastM r k) (empt r)).2
    have hl : r.ls.length = (walk r (empt r) (lastM r k)).2.length := by rw [hlen]; simp [empt]
    unfold lastM
    rw [walk_snoc]
    simp only
    revert ih2 hl ih1
    generalize (walk r (empt r) (lastM r k)).2 = hs
    intro ih1 ih2 hl
    -- the cache, and the place below it
    have hi : ∃ i, i + 1 + k = r.ls.length := ⟨r.ls.length - 1 - k, by omega⟩
    obtain ⟨i, hi⟩ := hi
    rw [show r.ls.length - 1 - k = i by omega, show r.ls.length - k = i + 1 by omega]
    obtain ⟨n1, p, n2, n3, n4⟩ := near_props G.up hlow (show low ≤ i by omega)
    rw [getD_of n2]
    have hpn : p ≤ r.ls.length := by omega
    obtain ⟨a1, a2, a3, a4, a5, a6⟩ := ask_src (t := ageS r.ls (i + 1)) hl hpn
    have hg := ask_get (t := ageS r.ls (i + 1)) hl hpn
    have S : ∀ j, j < r.ls.length → lastS r k j = if i + 1 ≤ j then some (0, ageS r.ls (j + 1)) else if 0 < k ∧ r.ps.getD (near r.ps (i + 1)) 0 ≤ j then some (0, ageS r.ls (i + 2)) else none := fun j hj => by
      unfold lastS
      rw [show r.ls.length - k = i + 1 by omega]
    have hsrc : (ask r.ls hs (ageS r.ls (i + 1)) p).1.2 = i + 1 := by
      generalize (ask r.ls hs (ageS r.ls (i + 1)) p).1.2 = src at a1 a2 a3 a4 a5 a6 hg ⊢
      rcases Nat.lt_trichotomy src (i + 1) with z | z | z
      · exfalso
        obtain ⟨l, h, e1, e2, e3⟩ := a5 (by omega)
        rw [ih2 _ (by omega), S _ (by omega), if_neg (by omega)] at e2
        by_cases c : 0 < k ∧ r.ps.getD (near r.ps (i + 1)) 0 ≤ src
        · rw [if_pos c] at e2
          cases e2
          obtain ⟨s, e4, e5⟩ := fresh_some e3
          have e6 : ageS r.ls (i + 1 + 1) = s := (Prod.mk.inj (Option.some.inj e4)).2
          obtain ⟨l2, f1⟩ := get_at (show i + 1 < r.ls.length by omega)
          obtain ⟨m1, p2, m2, m3, m4⟩ := near_props G.up hlow (show low ≤ i + 1 by omega)
          rw [getD_of m2] at c
          have := R.up src (i + 1) l l2 z (fun q hq h => by have := m4 q hq h; omega) e1 f1
          rw [ageS_get f1] at e5
          omega
        · rw [if_neg c] at e2
          cases e2
          cases e3
      · exact z
      · exfalso
        obtain ⟨l, h, e1, e2, e3⟩ := a3 (i + 1) (by omega) z
        rw [ih2 _ (by omega), S _ (by omega), if_pos (Nat.le_refl _)] at e2
        cases e2
        rcases fresh_none e3 with z | ⟨x, y, z, hz⟩
        · cases z
        · cases z
          rw [ageS_get e1] at hz
          omega
    have hans : (ask r.ls hs (ageS r.ls (i + 1)) p).1.1 = 0 := by
      rw [hsrc] at a4 a5
      by_cases c : i + 1 = r.ls.length
      · rw [a4 c, c, ageS_end (Nat.le_refl _)]
      · obtain ⟨l, h, e1, e2, e3⟩ := a5 (by omega)
        rw [ih2 _ (by omega), S _ (by omega), if_pos (Nat.le_refl _)] at e2
        cases e2
        obtain ⟨s, e4, e5⟩ := fresh_some e3
        exact (Prod.mk.inj (Option.some.inj e4)).1.symm
    rw [hsrc, hans] at hg
    refine ⟨?_, fun j hj => ?_⟩
    · rw [List.map_append, ih1, List.map_cons, List.map_nil, hans, List.replicate_succ']
    · rw [hg]
      unfold lastS
      rw [show r.ls.length - (k + 1) = i by omega, getD_of n2]
      by_cases c : p ≤ j ∧ j < i + 1
      · rw [if_pos c]
        by_cases c2 : i ≤ j
        · have : j = i := by omega
          subst this
          rw [if_pos (Nat.le_refl _)]
        · rw [if_neg c2, if_pos ⟨by omega, c.1⟩]
      · rw [if_neg c, ih2 j hj, S j hj]
        by_cases c2 : i ≤ j
        · rw [if_pos c2, if_pos (by omega)]
        · rw [if_neg c2, if_neg (show ¬ i + 1 ≤ j by omega), if_neg (show ¬ (0 < k + 1 ∧ p ≤ j) from fun z => c ⟨z.2, by omega⟩)]
          rw [if_neg]
          rintro ⟨z1, z2⟩
          obtain ⟨m1, p2, m2, m3, m4⟩ := near_props G.up hlow (show low ≤ i + 1 by omega)
          rw [getD_of m2] at z2
          have := m4 p (get_mem n2) (by omega)
          omega
/-- the reads that make the answer of a client as old as it can be -/
def oldS (r : Row) (c p : Nat) : Sch := lastM r (r.ls.length - p) ++ [(ageS r.ls p, c)]
theorem oldS_last {r : Row} (G : Good r) (R : Rise r) {c p : Nat} (hc : r.ps[c]? = some p) : answers r (oldS r c p) = List.replicate (r.ls.length - p + 1) 0 := by
  have hpn := G.inn p (get_mem hc)
  obtain ⟨h1, h2⟩ := lastM_run G R (get_mem hc) (r.ls.length - p) (by omega)
  unfold answers oldS
  rw [walk_snoc, List.map_append, h1]
  simp only
  rw [getD_of hc]
  have hlen := (walk_len r (lastM r (r.ls.length - p)) (empt r)).2
  have hl : r.ls.length = (walk r (empt r) (lastM r (r.ls.length - p))).2.length := by rw [hlen]; simp [empt]
  revert h2 hl
  generalize (walk r (empt r) (lastM r (r.ls.length - p))).2 = hs
  intro h2 hl
  obtain ⟨a1, a2, a3, a4, a5, a6⟩ := ask_src (t := ageS r.ls p) hl hpn
  have S : p < r.ls.length → hs[p]? = some (some (0, ageS r.ls (p + 1))) := fun hp => by
    rw [h2 p hp]
    unfold lastS
    rw [if_pos (by omega)]
  have hans : (ask r.ls hs (ageS r.ls p) p).1.1 = 0 := by
    by_cases c : p = r.ls.length
    · have : (ask r.ls hs (ageS r.ls p) p).1.2 = r.ls.length := by omega
      rw [a4 this, c, ageS_end (Nat.le_refl _)]
    · have S := S (by omega)
      rcases Nat.lt_or_eq_of_le a1 with z | z
      · exfalso
        obtain ⟨l, h, e1, e2, e3⟩ := a3 p (Nat.le_refl _) z
        rw [S] at e2
        cases e2
        rcases fresh_none e3 with z | ⟨x, y, z, hz⟩
        · cases z
        · cases z
          rw [ageS_get e1] at hz
          omega
      · rw [← z] at a5
        obtain ⟨l, h, e1, e2, e3⟩ := a5 (by omega)
        rw [S] at e2
        cases e2
        obtain ⟨s, e4, e5⟩ := fresh_some e3
        exact (Prod.mk.inj (Option.some.inj e4)).1.symm
  rw [List.map_cons, List.map_nil, hans, List.replicate_succ']
theorem lastM_props {r : Row} (G : Good r) {low : Nat} (hlow : low ∈ r.ps) : ∀ k, low + k ≤ r.ls.length →
    (∀ x ∈ lastM r k, x.2 < r.ps.length ∧ 0 ≤ x.1 ∧ x.1 ≤ ageS r.ls (r.ls.length - k)) ∧ (lastM r k).Pairwise (fun x y => x.1 ≤ y.1)
  | 0, _ => ⟨fun x hx => absurd hx (List.not_mem_nil), List.Pairwise.nil⟩
  | k + 1, hk => by
    obtain ⟨ih1, ih2⟩ := lastM_props G hlow k (by omega)
    obtain ⟨n1, _⟩ := near_props G.up hlow (show low ≤ r.ls.length - 1 - k by omega)
    have h1 := ageS_anti G.lo (show r.ls.length - (k + 1) ≤ r.ls.length - k by omega)
    unfold lastM
    refine ⟨fun x hx => ?_, ?_⟩
    · rcases List.mem_append.mp hx with hx | hx
      · obtain ⟨a, b, c⟩ := ih1 x hx
        exact ⟨a, b, by omega⟩
      · rw [List.mem_singleton] at hx
        subst hx
        exact ⟨n1, (ageS_nn G.lo _).1, h1⟩
    · refine List.pairwise_append.mpr ⟨ih2, List.pairwise_singleton .., fun x hx y hy => ?_⟩
      rw [List.mem_singleton] at hy
      subst hy
      exact (ih1 x hx).2.2
theorem oldS_props {r : Row} (G : Good r) {c p : Nat} (hc : r.ps[c]? = some p) :
    (∀ x ∈ oldS r c p, x.2 < r.ps.length ∧ 0 ≤ x.1 ∧ x.1 ≤ ageS r.ls p) ∧ (oldS r c p).Pairwise (fun x y => x.1 ≤ y.1) ∧ (oldS r c p).length = r.ls.length - p + 1 := by
  have hpn := G.inn p (get_mem hc)
  obtain ⟨h1, h2⟩ := lastM_props G (get_mem hc) (r.ls.length - p) (by omega)
  rw [show r.ls.length - (r.ls.length - p) = p by omega] at h1
  unfold oldS
  refine ⟨fun x hx => ?_, List.pairwise_append.mpr ⟨h2, List.pairwise_singleton .., fun x hx y hy => ?_⟩, by simp [lastM_len]⟩
  · rcases List.mem_append.mp hx with hx | hx
    · exact h1 x hx
    · rw [List.mem_singleton] at hx
      subst hx
      exact ⟨get_lt hc, (ageS_nn G.lo _).1, Int.le_refl _⟩
  · rw [List.mem_singleton] at hy
    subst hy
    exact (h1 x hx).2.2
/-- the sum as the law takes it -/
theorem due_sum (r : Row) {p : Nat} (hp : p ≤ r.ls.length) : (((((List.range r.ls.length).filter (cnt r)).filter fun i => decide (p ≤ i))).map fun i => r.ls.getD i 0 - 1).sum = ageS (nf r).ls (kc (cnt r) p) := by
  have e : (nf r).ls.drop (kc (cnt r) p) = red (cnt r) p (r.ls.drop p) := (red_take (cnt r) r.ls hp).2
  unfold ageS
  rw [e]
  have h := red_getAt (cnt r) 0 (r.ls.drop p) p
  rw [← h, List.map_map]
  congr 1
  have e2 : ((List.range r.ls.length).filter (cnt r)).filter (fun i => decide (p ≤ i)) = (List.range' p (r.ls.drop p).length).filter (cnt r) := by
    rw [List.length_drop, List.filter_filter]
    have e3 : List.range r.ls.length = List.range' 0 p ++ List.range' p (r.ls.length - p) := by
      have := List.range'_append_1 (s := 0) (m := p) (n := r.ls.length - p)
      rw [Nat.zero_add] at this
      rw [this, List.range_eq_range']
      congr 1
      omega
    rw [e3, List.filter_append, List.filter_eq_nil_iff.mpr, List.nil_append]
    · refine List.filter_congr fun i hi => ?_
      rw [decide_eq_true (List.mem_range'_1.mp hi).1, Bool.true_and]
    · intro i hi
      rw [decide_eq_false (by have := (List.mem_range'_1.mp hi).2; omega)]
      simp
  rw [e2]
  refine List.map_congr_left fun i hi => ?_
  have h1 := (List.mem_range'_1.mp (List.mem_filter.mp hi).1).1
  simp only [Function.comp]
  rw [List.getD_eq_getElem?_getD, List.getD_eq_getElem?_getD, List.getElem?_drop]
  rw [show p + (i - p) = i by omega]
end St
set_option Elab.async false
set_option linter.all false
/-! The items of a row from the top; where two rows differ first; reads that tell them apart. -/
namespace St
open PySem
/-- clients and lifetimes, k lifetimes passed, c clients left -/
def itm (r : Row) : Nat → Nat → Nat → List (Nat × Int)
  | 0, _, _ => []
  | _ + 1, _, 0 => []
  | f + 1, k, c + 1 => if r.ls.length ≤ r.ps.getD c 0 + k then (0, (c : Int)) :: itm r f k c else (1, r.ls.getD (r.ls.length - 1 - k) 0) :: itm r f (k + 1) (c + 1)
def nxI (r : Row) (k c : Nat) : Nat × Int := if r.ls.length ≤ r.ps.getD c 0 + k then (0, (c : Int)) else (1, r.ls.getD (r.ls.length - 1 - k) 0)
structure Sd (r : Row) (k c : Nat) : Prop where
  kn : k ≤ r.ls.length
  cm : c ≤ r.ps.length
  pas : ∀ q, c ≤ q → q < r.ps.length → r.ls.length ≤ r.ps.getD q 0 + k
  tod : ∀ q, q < c → r.ps.getD q 0 + k ≤ r.ls.length
theorem up_getD {ps : List Nat} (up : ps.Pairwise (· ≤ ·)) {a b : Nat} (h : a ≤ b) (hb : b < ps.length) : ps.getD a 0 ≤ ps.getD b 0 := by
  rcases Nat.lt_or_eq_of_le h with z | z
  · have := List.pairwise_iff_getElem.mp up a b (by omega) hb z
    rw [List.getD_eq_getElem?_getD, List.getD_eq_getElem?_getD, List.getElem?_eq_getElem hb, List.getElem?_eq_getElem (show a < ps.length by omega)]
    exact this
  · rw [z]; exact Nat.le_refl _
theorem Sd.client {r : Row} {k c : Nat} (S : Sd r k (c + 1)) (h : r.ls.length ≤ r.ps.getD c 0 + k) : Sd r k c :=
  ⟨S.kn, by have := S.cm; omega, fun q h1 h2 => by
    by_cases e : q = c
    · rw [e]; exact h
    · exact S.pas q (by omega) h2, fun q h1 => S.tod q (by omega)⟩
theorem Sd.cache {r : Row} {k c : Nat} (up : r.ps.Pairwise (· ≤ ·)) (S : Sd r k (c + 1)) (h : ¬ r.ls.length ≤ r.ps.getD c 0 + k) : Sd r (k + 1) (c + 1) :=
  ⟨by omega, S.cm, fun q h1 h2 => by have := S.pas q h1 h2; omega, fun q h1 => by
    have := up_getD up (show q ≤ c by omega) (show c < r.ps.length by have := S.cm; omega)
    omega⟩
structure Both (r s : Row) (k c : Nat) : Prop where
  a : Sd r k c
  b : Sd s k c
  m : r.ps.length = s.ps.length
  top : ∀ i, i < k → r.ls.getD (r.ls.length - 1 - i) 0 = s.ls.getD (s.ls.length - 1 - i) 0
  dep : ∀ q i, q < r.ps.length → i < k → (r.ps.getD q 0 + i < r.ls.length ↔ s.ps.getD q 0 + i < s.ls.length)
theorem Both.client {r s : Row} {k c : Nat} (B : Both r s k (c + 1)) (h1 : r.ls.length ≤ r.ps.getD c 0 + k) (h2 : s.ls.length ≤ s.ps.getD c 0 + k) : Both r s k c :=
  ⟨B.a.client h1, B.b.client h2, B.m, B.top, B.dep⟩
theorem Both.cache {r s : Row} {k c : Nat} (u1 : r.ps.Pairwise (· ≤ ·)) (u2 : s.ps.Pairwise (· ≤ ·)) (B : Both r s k (c + 1)) (h1 : ¬ r.ls.length ≤ r.ps.getD c 0 + k) (h2 : ¬ s.ls.length ≤ s.ps.getD c 0 + k)
    (e : r.ls.getD (r.ls.length - 1 - k) 0 = s.ls.getD (s.ls.length - 1 - k) 0) : Both r s (k + 1) (c + 1) := by
  have A1 := B.a.cache u1 h1
  have A2 := B.b.cache u2 h2
  refine ⟨A1, A2, B.m, fun i hi => ?_, fun q i hq hi => ?_⟩
  · by_cases z : i = k
    · rw [z]; exact e
    · exact B.top i (by omega)
  · by_cases z : i = k
    · subst z
      by_cases w : q < c + 1
      · have := A1.tod q w
        have := A2.tod q w
        exact ⟨fun _ => by omega, fun _ => by omega⟩
      · have := B.a.pas q (by omega) hq
        have := B.b.pas q (by omega) (by rw [← B.m]; exact hq)
        exact ⟨fun _ => by omega, fun _ => by omega⟩
    · exact B.dep q i hq (by omega)
def isC (x : Nat × Int) : Bool := decide (x.1 = 1)
/-- the first difference -/
structure Dif (r s : Row) (k c f g j k' c' : Nat) : Prop where
  B : Both r s k' (c' + 1)
  cc : c' + 1 ≤ c
  pl : k' + c = k + j + (c' + 1)
  x : (itm r f k c)[j]? = some (nxI r k' c')
  y : (itm s g k c)[j]? = some (nxI s k' c')
  ne : nxI r k' c' ≠ nxI s k' c'
  eq : ∀ i, i < j → (itm r f k c)[i]? = (itm s g k c)[i]?
  cnt : (((itm r f k c).take j).filter isC).length + k = k'
theorem dif_zero {r s : Row} {k c f g : Nat} (B : Both r s k (c + 1)) (hf : (r.ls.length - k) + (c + 1) ≤ f) (hg : (s.ls.length - k) + (c + 1) ≤ g) (ne : nxI r k c ≠ nxI s k c) : Dif r s k (c + 1) f g 0 k c := by
  cases f with
  | zero => omega
  | succ f =>
  cases g with
  | zero => omega
  | succ g =>
  refine ⟨B, Nat.le_refl _, by omega, ?_, ?_, ne, fun i hi => absurd hi (by omega), by simp⟩
  · unfold itm nxI
    split <;> rfl
  · unfold itm nxI
    split <;> rfl
theorem lock {r s : Row} (u1 : r.ps.Pairwise (· ≤ ·)) (u2 : s.ps.Pairwise (· ≤ ·)) : ∀ (f g k c : Nat), Both r s k c → (r.ls.length - k) + c ≤ f → (s.ls.length - k) + c ≤ g →
    (∃ k', Both r s k' 0) ∨ ∃ j k' c', Dif r s k c f g j k' c'
  | f, g, k, 0, B, _, _ => .inl ⟨k, B⟩
  | 0, g, k, c + 1, B, hf, hg => by omega
  | f + 1, 0, k, c + 1, B, hf, hg => by omega
  | f + 1, g + 1, k, c + 1, B, hf, hg => by
    by_cases h1 : r.ls.length ≤ r.ps.getD c 0 + k
    · by_cases h2 : s.ls.length ≤ s.ps.getD c 0 + k
      · rcases lock u1 u2 f g k c (B.client h1 h2) (by omega) (by omega) with z | ⟨j, k', c', D⟩
        · exact .inl z
        · have e1 : itm r (f + 1) k (c + 1) = (0, (c : Int)) :: itm r f k c := by rw [itm, if_pos h1]
          have e2 : itm s (g + 1) k (c + 1) = (0, (c : Int)) :: itm s g k c := by rw [itm, if_pos h2]
          refine .inr ⟨j + 1, k', c', D.B, by have := D.cc; omega, by have := D.pl; omega, by rw [e1]; exact D.x, by rw [e2]; exact D.y, D.ne, fun i hi => ?_, ?_⟩
          · rw [e1, e2]
            cases i with
            | zero => rfl
            | succ i => exact D.eq i (by omega)
          · rw [e1]
            exact D.cnt
      · exact .inr ⟨0, k, c, dif_zero B hf hg fun e => by
          unfold nxI at e
          rw [if_pos h1, if_neg h2] at e
          have := (Prod.mk.inj e).1
          omega⟩
    · by_cases h2 : s.ls.length ≤ s.ps.getD c 0 + k
      · exact .inr ⟨0, k, c, dif_zero B hf hg fun e => by
          unfold nxI at e
          rw [if_neg h1, if_pos h2] at e
          have := (Prod.mk.inj e).1
          omega⟩
      · by_cases e : r.ls.getD (r.ls.length - 1 - k) 0 = s.ls.getD (s.ls.length - 1 - k) 0
        · rcases lock u1 u2 f g (k + 1) (c + 1) (B.cache u1 u2 h1 h2 e) (by omega) (by omega) with z | ⟨j, k', c', D⟩
          · exact .inl z
          · have e1 : itm r (f + 1) k (c + 1) = (1, r.ls.getD (r.ls.length - 1 - k) 0) :: itm r f (k + 1) (c + 1) := by rw [itm, if_neg h1]
            have e2 : itm s (g + 1) k (c + 1) = (1, r.ls.getD (r.ls.length - 1 - k) 0) :: itm s g (k + 1) (c + 1) := by rw [itm, if_neg h2, e]
            refine .inr ⟨j + 1, k', c', D.B, by have := D.cc; omega, by have := D.pl; omega, by rw [e1]; exact D.x, by rw [e2]; exact D.y, D.ne, fun i hi => ?_, ?_⟩
            · rw [e1, e2]
              cases i with
              | zero => rfl
              | succ i => exact D.eq i (by omega)
            · rw [e1, List.take_succ_cons, List.filter_cons_of_pos (by rfl), List.length_cons]
              have := D.cnt
              omega
        · exact .inr ⟨0, k, c, dif_zero B hf hg fun z => by
            unfold nxI at z
            rw [if_neg h1, if_neg h2] at z
            exact e (Prod.mk.inj z).2⟩
theorem getD_ext {α : Type} {xs ys : List α} {d : α} (hl : xs.length = ys.length) (h : ∀ i, i < xs.length → xs.getD i d = ys.getD i d) : xs = ys := by
  refine List.ext_getElem hl fun i h1 h2 => ?_
  have := h i h1
  rw [List.getD_eq_getElem?_getD, List.getD_eq_getElem?_getD, List.getElem?_eq_getElem h1, List.getElem?_eq_getElem h2] at this
  exact this
/-- all are alike -/
theorem both_eq {r s : Row} (G1 : Good r) (G2 : Good s) (l1 : r.ps.getD 0 0 = 0) (l2 : s.ps.getD 0 0 = 0) {k : Nat} (B : Both r s k 0) : r = s := by
  have hm : 0 < r.ps.length := List.length_pos_iff.mpr G1.p0
  have e1 := B.a.pas 0 (Nat.le_refl _) hm
  have e2 := B.b.pas 0 (Nat.le_refl _) (by rw [← B.m]; exact hm)
  have n1 := B.a.kn
  have n2 := B.b.kn
  rw [l1] at e1
  rw [l2] at e2
  have hn1 : r.ls.length = k := by omega
  have hn2 : s.ls.length = k := by omega
  obtain ⟨ls, ps⟩ := r
  obtain ⟨ls', ps'⟩ := s
  simp only at hn1 hn2
  have hls : ls = ls' := getD_ext (d := 0) (by omega) fun i hi => by
    have := B.top (k - 1 - i) (by omega)
    simp only [hn1, hn2] at this
    rwa [show k - 1 - (k - 1 - i) = i by omega] at this
  have hps : ps = ps' := getD_ext (d := 0) B.m fun q hq => by
    have hq' : q < ps'.length := by have := B.m; simp only at this; omega
    have b1 : ps.getD q 0 ≤ k := by
      rw [List.getD_eq_getElem?_getD, List.getElem?_eq_getElem hq, ← hn1]
      exact G1.inn _ (List.getElem_mem hq)
    have b2 : ps'.getD q 0 ≤ k := by
      rw [List.getD_eq_getElem?_getD, List.getElem?_eq_getElem hq', ← hn2]
      exact G2.inn _ (List.getElem_mem hq')
    have key : ∀ i, i < k → (ps.getD q 0 + i < k ↔ ps'.getD q 0 + i < k) := fun i hi => by
      have := B.dep q i hq hi
      simp only [hn1, hn2] at this
      exact this
    rcases Nat.lt_trichotomy (ps.getD q 0) (ps'.getD q 0) with z | z | z
    · have := (key (k - ps'.getD q 0) (by omega)).mp (by omega)
      omega
    · exact z
    · have := (key (k - ps.getD q 0) (by omega)).mpr (by omega)
      omega
  rw [hls, hps]
/-! ### the reads -/
theorem ageS_top {r s : Row} : ∀ k, k ≤ r.ls.length → k ≤ s.ls.length → (∀ i, i < k → r.ls.getD (r.ls.length - 1 - i) 0 = s.ls.getD (s.ls.length - 1 - i) 0) → ageS r.ls (r.ls.length - k) = ageS s.ls (s.ls.length - k)
  | 0, _, _, _ => by rw [ageS_end (by omega), ageS_end (by omega)]
  | k + 1, h1, h2, h => by
    have ih := ageS_top k (by omega) (by omega) fun i hi => h i (by omega)
    obtain ⟨a, ea⟩ := get_at (show r.ls.length - (k + 1) < r.ls.length by omega)
    obtain ⟨b, eb⟩ := get_at (show s.ls.length - (k + 1) < s.ls.length by omega)
    have e := h k (by omega)
    rw [show r.ls.length - 1 - k = r.ls.length - (k + 1) by omega, show s.ls.length - 1 - k = s.ls.length - (k + 1) by omega, getD_of ea, getD_of eb] at e
    rw [ageS_get ea, ageS_get eb, show r.ls.length - (k + 1) + 1 = r.ls.length - k by omega, show s.ls.length - (k + 1) + 1 = s.ls.length - k by omega, ih, e]
theorem Both.last {r s : Row} {k c : Nat} (B : Both r s k c) : ∀ i, i ≤ k → lastM r i = lastM s i
  | 0, _ => rfl
  | i + 1, h => by
    have n1 := B.a.kn
    have n2 := B.b.kn
    unfold lastM
    rw [B.last i (by omega), ageS_top i (by omega) (by omega) fun j hj => B.top j (by omega)]
    have e : near r.ps (r.ls.length - 1 - i) = near s.ps (s.ls.length - 1 - i) := by
      unfold near
      rw [B.m]
      congr 1
      refine List.filter_congr fun q hq => ?_
      have hq := List.mem_range.mp hq
      have := B.dep q i (by rw [B.m]; exact hq) (by omega)
      refine decide_eq_decide.mpr ⟨fun z => ?_, fun z => ?_⟩
      · have := this.mp (by omega); omega
      · have := this.mpr (by omega); omega
    rw [e]
/-- the last two reads -/
def sepS (r : Row) (k c : Nat) (w : Int) : Sch := lastM r k ++ [(ageS r.ls (r.ls.length - k), c)] ++ [(ageS r.ls (r.ls.length - k) + w, c)]
theorem ask_ans {ls : List Int} {hs : List Ent} {t : Int} {p : Nat} (hl : ls.length = hs.length) (hp : p ≤ ls.length)
    (h : ∀ j, p ≤ j → j < ls.length → ∃ l a s, ls[j]? = some l ∧ hs[j]? = some (some (a, s)) ∧ s + l ≤ t) : (ask ls hs t p).1.1 = t := by
  obtain ⟨a1, a2, a3, a4, a5, a6⟩ := ask_src (t := t) hl hp
  by_cases c : (ask ls hs t p).1.2 = ls.length
  · exact a4 c
  · obtain ⟨l, e, e1, e2, e3⟩ := a5 (by omega)
    obtain ⟨l', a, s, f1, f2, f3⟩ := h _ a1 (by omega)
    rw [e1] at f1
    cases f1
    rw [e2] at f2
    cases f2
    obtain ⟨s', e4, e5⟩ := fresh_some e3
    cases e4
    omega
theorem ask_nil {ls : List Int} {hs : List Ent} {t : Int} {p i : Nat} (hl : ls.length = hs.length) (hp : p ≤ i) {l s : Int} (el : ls[i]? = some l) (eh : hs[i]? = some (some (0, s))) (hf : t < s + l)
    (h : ∀ j, p ≤ j → j < i → ∃ s, hs[j]? = some (some (0, s))) : (ask ls hs t p).1.1 = 0 := by
  have hi := get_lt el
  obtain ⟨a1, a2, a3, a4, a5, a6⟩ := ask_src (t := t) hl (show p ≤ ls.length by omega)
  have hsrc : (ask ls hs t p).1.2 ≤ i := by
    rcases Nat.lt_or_ge i (ask ls hs t p).1.2 with z | z
    · exfalso
      obtain ⟨l', e, e1, e2, e3⟩ := a3 i hp z
      rw [el] at e1
      cases e1
      rw [eh] at e2
      cases e2
      rcases fresh_none e3 with z | ⟨x, y, z, hz⟩
      · cases z
      · cases z; omega
    · exact z
  obtain ⟨l', e, e1, e2, e3⟩ := a5 (by omega)
  obtain ⟨s', rfl, e5⟩ := fresh_some e3
  by_cases z : (ask ls hs t p).1.2 = i
  · rw [z, eh] at e2
    exact (Prod.mk.inj (Option.some.inj (Option.some.inj e2))).1.symm
  · obtain ⟨s2, e6⟩ := h _ a1 (by omega)
    rw [e6] at e2
    exact (Prod.mk.inj (Option.some.inj (Option.some.inj e2))).1.symm
theorem zero_mem {r : Row} (G : Good r) (l : r.ps.getD 0 0 = 0) : 0 ∈ r.ps := by
  cases hps : r.ps with
  | nil => exact absurd hps G.p0
  | cons p ps =>
    rw [hps] at l
    have : p = 0 := l
    subst this
    exact List.mem_cons_self ..
/-- the client is next: it reads at once what is above -/
theorem sep_client {r : Row} (G : Good r) (R : Rise r) {k c : Nat} (S : Sd r k (c + 1)) (h : r.ls.length ≤ r.ps.getD c 0 + k) {w : Int} (hw : 1 ≤ w) :
    (answers r (sepS r k c w))[k + 1]? = some (ageS r.ls (r.ls.length - k) + w) := by
  have hc : c < r.ps.length := by have := S.cm; omega
  obtain ⟨p, hp⟩ := get_at hc
  have ht := S.tod c (by omega)
  have hkn := S.kn
  rw [getD_of hp] at h ht
  have hpe : p = r.ls.length - k := by omega
  obtain ⟨h1, h2⟩ := lastM_run G R (zero_mem G R.low) k (by omega)
  have hlen := (walk_len r (lastM r k) (empt r)).2
  have hl : r.ls.length = (walk r (empt r) (lastM r k)).2.length := by rw [hlen]; simp [empt]
  have hk : (walk r (empt r) (lastM r k)).1.length = k := by
    have := congrArg List.length h1
    simpa using this
  unfold answers sepS
  rw [walk_snoc, walk_snoc]
  simp only
  rw [getD_of hp]
  revert h2 hl hk
  generalize (walk r (empt r) (lastM r k)).2 = hs
  generalize (walk r (empt r) (lastM r k)).1 = out
  intro h2 hl hk
  rw [← hpe]
  have S1 : ∀ j, p ≤ j → j < r.ls.length → hs[j]? = some (some (0, ageS r.ls (j + 1))) := fun j h3 h4 => by
    rw [h2 j h4]
    unfold lastS
    rw [if_pos (by omega)]
  have hg := ask_get (t := ageS r.ls p) hl (show p ≤ r.ls.length by omega)
  obtain ⟨a1, a2, a3, a4, a5, a6⟩ := ask_src (t := ageS r.ls p) hl (show p ≤ r.ls.length by omega)
  have hsrc : (ask r.ls hs (ageS r.ls p) p).1.2 = p := by
    rcases Nat.lt_or_eq_of_le a1 with z | z
    · exfalso
      obtain ⟨l, e, e1, e2, e3⟩ := a3 p (Nat.le_refl _) z
      rw [S1 p (Nat.le_refl _) (by omega)] at e2
      cases e2
      rcases fresh_none e3 with z | ⟨x, y, z, hz⟩
      · cases z
      · cases z
        rw [ageS_get e1] at hz
        omega
    · exact z.symm
  have hl2 : r.ls.length = (ask r.ls hs (ageS r.ls p) p).2.length := by rw [ask_len]; exact hl
  have fin := ask_ans (t := ageS r.ls p + w) hl2 (show p ≤ r.ls.length by omega) fun j h3 h4 => by
    obtain ⟨l, e1⟩ := get_at h4
    refine ⟨l, 0, ageS r.ls (j + 1), e1, ?_, ?_⟩
    · rw [hg, if_neg (by omega)]
      exact S1 j h3 h4
    · have := ageS_anti G.lo h3
      rw [ageS_get e1] at this
      omega
  rw [List.map_append, List.map_append, List.getElem?_append_right (by simp [hk])]
  simp [hk, fin]
/-- a cache is next -/
theorem sep_cache {r : Row} (G : Good r) (R : Rise r) {k c : Nat} (S : Sd r k (c + 1)) (h : ¬ r.ls.length ≤ r.ps.getD c 0 + k) {w : Int} (hw : 1 ≤ w) :
    (answers r (sepS r k c w))[k + 1]? = some (if w < r.ls.getD (r.ls.length - 1 - k) 0 then 0 else ageS r.ls (r.ls.length - k) + w) := by
  have hc : c < r.ps.length := by have := S.cm; omega
  obtain ⟨p, hp⟩ := get_at hc
  have ht := S.tod c (by omega)
  have hkn := S.kn
  rw [getD_of hp] at h ht
  have hi : ∃ i, i + 1 + k = r.ls.length := ⟨r.ls.length - 1 - k, by omega⟩
  obtain ⟨i, hi⟩ := hi
  have hpi : p ≤ i := by omega
  -- the nearest client
  obtain ⟨n1, q, n2, n3, n4⟩ := near_props G.up (get_mem hp) hpi
  have hnear : near r.ps i = c := by
    rcases Nat.lt_trichotomy (near r.ps i) c with z | z | z
    · exfalso
      have h5 := n4 p (get_mem hp) hpi
      have h6 : c ≤ near r.ps i := (foldl_max_ge _ 0).2 c (List.mem_filter.mpr ⟨List.mem_range.mpr hc, by rw [getD_of hp]; exact decide_eq_true hpi⟩)
      omega
    · exact z
    · exfalso
      have := S.pas (near r.ps i) (by omega) n1
      rw [getD_of n2] at this
      omega
  rw [hnear, hp] at n2
  cases n2
  obtain ⟨h1, h2⟩ := lastM_run G R (zero_mem G R.low) (k + 1) (by omega)
  have hlen := (walk_len r (lastM r (k + 1)) (empt r)).2
  have hl : r.ls.length = (walk r (empt r) (lastM r (k + 1))).2.length := by rw [hlen]; simp [empt]
  have hk : (walk r (empt r) (lastM r (k + 1))).1.length = k + 1 := by
    have := congrArg List.length h1
    simpa using this
  have es : sepS r k c w = lastM r (k + 1) ++ [(ageS r.ls (r.ls.length - k) + w, c)] := by
    unfold sepS
    rw [show lastM r (k + 1) = lastM r k ++ [(ageS r.ls (r.ls.length - k), near r.ps (r.ls.length - 1 - k))] from rfl, show r.ls.length - 1 - k = i by omega, hnear]
  unfold answers
  rw [es, walk_snoc]
  simp only
  rw [getD_of hp]
  revert h2 hl hk
  generalize (walk r (empt r) (lastM r (k + 1))).2 = hs
  generalize (walk r (empt r) (lastM r (k + 1))).1 = out
  intro h2 hl hk
  have hin : r.ls.length - (k + 1) = i := by omega
  have hi1 : r.ls.length - k = i + 1 := by omega
  have hi2 : r.ls.length - 1 - k = i := by omega
  rw [hi1, hi2]
  have S1 : ∀ j, i ≤ j → j < r.ls.length → hs[j]? = some (some (0, ageS r.ls (j + 1))) := fun j h3 h4 => by
    rw [h2 j h4]
    unfold lastS
    rw [if_pos (by omega)]
  have S2 : ∀ j, p ≤ j → j < i → hs[j]? = some (some (0, ageS r.ls (i + 1))) := fun j h3 h4 => by
    rw [h2 j (by omega)]
    unfold lastS
    rw [hin, if_neg (by omega), hnear, getD_of hp, if_pos ⟨by omega, h3⟩]
  obtain ⟨l, el⟩ := get_at (show i < r.ls.length by omega)
  rw [getD_of el]
  have fin : (ask r.ls hs (ageS r.ls (i + 1) + w) p).1.1 = if w < l then 0 else ageS r.ls (i + 1) + w := by
    by_cases z : w < l
    · rw [if_pos z]
      exact ask_nil hl hpi el (S1 i (Nat.le_refl _) (by omega)) (by omega) fun j h3 h4 => ⟨_, S2 j h3 h4⟩
    · rw [if_neg z]
      refine ask_ans hl (by omega) fun j h3 h4 => ?_
      obtain ⟨l', el'⟩ := get_at h4
      by_cases y : j < i
      · refine ⟨l', 0, _, el', S2 j h3 y, ?_⟩
        have := R.up j i l' l y (fun q hq h => by have := n4 q hq h; omega) el' el
        omega
      · refine ⟨l', 0, _, el', S1 j (by omega) h4, ?_⟩
        by_cases x : j = i
        · subst x
          rw [el] at el'
          cases el'
          omega
        · have := ageS_anti G.lo (show i + 1 ≤ j by omega)
          rw [ageS_get el'] at this
          omega
  rw [List.map_append, List.getElem?_append_right (by simp [hk])]
  simp [hk, fin]
def numI (x : Nat × Int) : Int := if x.1 = 1 then x.2 else 1
theorem numI_c (l : Int) : numI (1, l) = l := rfl
theorem numI_k (l : Int) : numI (0, l) = 1 := rfl
def waitI (x y : Nat × Int) : Int := min (numI x) (numI y)
/-- the first difference tells the rows apart -/
theorem sep_ne {r s : Row} (G1 : Good r) (R1 : Rise r) (G2 : Good s) (R2 : Rise s) {k c : Nat} (B : Both r s k (c + 1)) (ne : nxI r k c ≠ nxI s k c) :
    1 ≤ waitI (nxI r k c) (nxI s k c) ∧ answers r (sepS r k c (waitI (nxI r k c) (nxI s k c))) ≠ answers s (sepS r k c (waitI (nxI r k c) (nxI s k c))) := by
  have two : ∀ {r : Row}, Good r → Rise r → Sd r k (c + 1) → ¬ r.ls.length ≤ r.ps.getD c 0 + k → 2 ≤ r.ls.getD (r.ls.length - 1 - k) 0 := fun {r} G R S h => by
    obtain ⟨l, el⟩ := get_at (show r.ls.length - 1 - k < r.ls.length by omega)
    rw [getD_of el]
    exact R.two l (get_mem el)
  have hsame : ∀ w, sepS r k c w = sepS s k c w := fun w => by
    unfold sepS
    rw [B.last k (Nat.le_refl _), ageS_top k B.a.kn B.b.kn B.top]
  have hage : ageS r.ls (r.ls.length - k) = ageS s.ls (s.ls.length - k) := ageS_top k B.a.kn B.b.kn B.top
  have hnn := (ageS_nn G1.lo (r.ls.length - k)).1
  by_cases h1 : r.ls.length ≤ r.ps.getD c 0 + k
  · have x1 : nxI r k c = (0, (c : Int)) := by unfold nxI; rw [if_pos h1]
    by_cases h2 : s.ls.length ≤ s.ps.getD c 0 + k
    · exact absurd (by unfold nxI; rw [if_pos h1, if_pos h2]) ne
    · have x2 : nxI s k c = (1, s.ls.getD (s.ls.length - 1 - k) 0) := by unfold nxI; rw [if_neg h2]
      have t2 := two G2 R2 B.b h2
      have hw : waitI (nxI r k c) (nxI s k c) = 1 := by
        rw [x1, x2]; unfold waitI; rw [numI_c, numI_k]; omega
      rw [hw]
      refine ⟨Int.le_refl _, fun e => ?_⟩
      have a := sep_client G1 R1 B.a h1 (w := 1) (by omega)
      have b := sep_cache G2 R2 B.b h2 (w := 1) (by omega)
      rw [e, hsame, b, if_pos (by omega)] at a
      have := Option.some.inj a
      omega
  · have x1 : nxI r k c = (1, r.ls.getD (r.ls.length - 1 - k) 0) := by unfold nxI; rw [if_neg h1]
    have t1 := two G1 R1 B.a h1
    by_cases h2 : s.ls.length ≤ s.ps.getD c 0 + k
    · have x2 : nxI s k c = (0, (c : Int)) := by unfold nxI; rw [if_pos h2]
      have hw : waitI (nxI r k c) (nxI s k c) = 1 := by
        rw [x1, x2]; unfold waitI; rw [numI_c, numI_k]; omega
      rw [hw]
      refine ⟨Int.le_refl _, fun e => ?_⟩
      have a := sep_cache G1 R1 B.a h1 (w := 1) (by omega)
      have b := sep_client G2 R2 B.b h2 (w := 1) (by omega)
      rw [e, hsame, b, if_pos (by omega)] at a
      have := Option.some.inj a
      omega
    · have x2 : nxI s k c = (1, s.ls.getD (s.ls.length - 1 - k) 0) := by unfold nxI; rw [if_neg h2]
      have t2 := two G2 R2 B.b h2
      rw [x1, x2] at ne
      have ne' : r.ls.getD (r.ls.length - 1 - k) 0 ≠ s.ls.getD (s.ls.length - 1 - k) 0 := fun z => ne (by rw [z])
      have hw : waitI (nxI r k c) (nxI s k c) = min (r.ls.getD (r.ls.length - 1 - k) 0) (s.ls.getD (s.ls.length - 1 - k) 0) := by
        rw [x1, x2]; unfold waitI; rw [numI_c, numI_c]
      rw [hw]
      refine ⟨by omega, fun e => ?_⟩
      have a := sep_cache G1 R1 B.a h1 (w := min (r.ls.getD (r.ls.length - 1 - k) 0) (s.ls.getD (s.ls.length - 1 - k) 0)) (by omega)
      have b := sep_cache G2 R2 B.b h2 (w := min (r.ls.getD (r.ls.length - 1 - k) 0) (s.ls.getD (s.ls.length - 1 - k) 0)) (by omega)
      rw [e, hsame, b] at a
      have a := Option.some.inj a
      revert a
      split <;> split <;> intro a <;> omega
/-- at the begin -/
theorem both_zero {r s : Row} (G1 : Good r) (G2 : Good s) (m : r.ps.length = s.ps.length) : Both r s 0 r.ps.length :=
  have sd : ∀ {r : Row}, Good r → ∀ m, m = r.ps.length → Sd r 0 m := fun {r} G m e => ⟨Nat.zero_le _, by omega, fun q h1 h2 => absurd h1 (by omega), fun q hq => by
    rw [List.getD_eq_getElem?_getD, List.getElem?_eq_getElem (show q < r.ps.length by omega)]
    have := G.inn _ (List.getElem_mem (show q < r.ps.length by omega))
    simpa using this⟩
  ⟨sd G1 _ rfl, sd G2 _ m, m, fun i hi => absurd hi (by omega), fun q i _ hi => absurd hi (by omega)⟩
end St
set_option Elab.async false
set_option linter.all false
set_option maxRecDepth 100000
set_option maxHeartbeats 4000000
namespace St
open PySem L2 Dl
/-! ### contracts -/
/-- what the program's reads ask for -/
structure Fit (r : Row) (s : Sch) : Prop where
  few : r.ls.length ≤ 100
  inn : ∀ p ∈ r.ps, p ≤ r.ls.length
  fewS : s.length ≤ 1000
  cl : ∀ x ∈ s, x.2 < r.ps.length
def natD (n : Nat) : PyData := .int (n : Int)
def ansD (x : Int × Nat) : PyData := .tuple [.int x.1, .int (x.2 : Int)]
def ct_read : CT := CT.mk 4 none fun ds Z => ∃ (r : Row) (es : List Ent) (t : Int) (c p : Nat), ds = [rowD r, .tuple (es.map entD), .int t, .int (c : Int)] ∧ r.ps[c]? = some p ∧ p ≤ r.ls.length ∧ es.length = r.ls.length ∧ r.ls.length ≤ 100 ∧
  Z (.fz (.tuple [.int (ask r.ls es t p).1.1, .int ((ask r.ls es t p).1.2 : Int), .tuple ((ask r.ls es t p).2.map entD)])) .none
def ct_empty : CT := CT.mk 1 none fun ds Z => ∃ r : Row, ds = [rowD r] ∧ r.ls.length ≤ 100 ∧ Z (.fz (.tuple ((empt r).map entD))) .none
def ct_run : CT := CT.mk 2 none fun ds Z => ∃ (r : Row) (s : Sch), ds = [rowD r, schD s] ∧ Fit r s ∧ Z (.np ((answers r s).map PyData.int) [.list ((sources r s).map natD), .tuple ((entries r s).map entD)]) .none
def ct_answers : CT := CT.mk 2 none fun ds Z => ∃ (r : Row) (s : Sch), ds = [rowD r, schD s] ∧ Fit r s ∧ Z (.nw (.list ((answers r s).map PyData.int))) .none
def ct_sources : CT := CT.mk 2 none fun ds Z => ∃ (r : Row) (s : Sch), ds = [rowD r, schD s] ∧ Fit r s ∧ Z (.fz (.list ((sources r s).map natD))) .none
def ct_entries : CT := CT.mk 2 none fun ds Z => ∃ (r : Row) (s : Sch), ds = [rowD r, schD s] ∧ Fit r s ∧ Z (.nw (.list ((entries r s).map entD))) .none
/-- the tape of a law -/
def TapeOk (d : PyData) : Prop := ∃ (ns : List Int) (i n : Int), d = tapeD ns i n ∧ 0 ≤ i ∧ 0 ≤ n ∧ ns.length ≤ 63
def ct_draw : CT := CT.mk 2 (some 0) fun ds Z => ∃ (tp : PyData) (many : Int), ds = [tp, .int many] ∧ TapeOk tp ∧ 0 < many ∧ many < 2 ^ 60 ∧ ∀ (r : Int) tp', 0 ≤ r → r < many → TapeOk tp' → Z (.fz (.int r)) tp'
/-- data that _law_like takes, n levels deep -/
def Likes : Nat → PyData → Prop
  | 0, _ => False
  | n + 1, .list ds => ds.length ≤ 1000 ∧ ∀ x ∈ ds, Likes n x
  | n + 1, .tuple ds => ds.length ≤ 1000 ∧ ∀ x ∈ ds, Likes n x
  | _ + 1, .none => True
  | _ + 1, .bool _ => True
  | _ + 1, .int _ => True
  | _ + 1, _ => False
def ct_like (n : Nat) : CT := CT.mk 2 none fun ds Z => ∃ a : PyData, ds = [a, a] ∧ Likes n a ∧ Z (.fz (.bool true)) .none
structure RowIn (c l k : Int) (r : Row) : Prop where
  ls : (r.ls.length : Int) ≤ c
  lo : ∀ x ∈ r.ls, 1 ≤ x
  hi : ∀ x ∈ r.ls, x ≤ l
  p0 : r.ps ≠ []
  p1 : (r.ps.length : Int) ≤ k
  inn : ∀ p ∈ r.ps, p ≤ r.ls.length
  up : r.ps.Pairwise (· ≤ ·)
def ct_row : CT := CT.mk 4 (some 0) fun ds Z => ∃ (tp : PyData) (c l k : Int), ds = [tp, .int c, .int l, .int k] ∧ TapeOk tp ∧ 0 ≤ c ∧ c ≤ 8 ∧ 1 ≤ l ∧ l ≤ 1000 ∧ 1 ≤ k ∧ k ≤ 5 ∧ ∀ r tp', RowIn c l k r → TapeOk tp' → Z (.fz (rowD r)) tp'
structure SchIn (n : Int) (r : Row) (s : Sch) : Prop where
  few : (s.length : Int) ≤ n
  cl : ∀ x ∈ s, x.2 < r.ps.length
  nn : ∀ x ∈ s, 0 ≤ x.1
  up : s.Pairwise (fun x y => x.1 ≤ y.1)
def ct_schedule : CT := CT.mk 4 (some 0) fun ds Z => ∃ (tp : PyData) (r : Row) (n w : Int), ds = [tp, rowD r, .int n, .int w] ∧ TapeOk tp ∧ r.ps ≠ [] ∧ r.ps.length ≤ 100 ∧ 0 ≤ n ∧ n ≤ 100 ∧ 1 ≤ w ∧ w ≤ 100 ∧ ∀ s tp', SchIn n r s → TapeOk tp' → Z (.fz (schD s)) tp'
def ct_near_schedule : CT := CT.mk 3 (some 0) fun ds Z => ∃ (tp : PyData) (r : Row) (n : Int), ds = [tp, rowD r, .int n] ∧ TapeOk tp ∧ r.ps ≠ [] ∧ r.ps.length ≤ 100 ∧ r.ls.length ≤ 100 ∧ (∀ l ∈ r.ls, 1 ≤ l) ∧ 0 ≤ n ∧ n ≤ 100 ∧ ∀ s tp', SchIn n r s → TapeOk tp' → Z (.fz (schD s)) tp'
def ct_ask (n : Nat) : CT := CT.mk 4 (some 1) fun ds Z => ∃ (r : Row) (hs : List Ent) (t : Int) (i : Nat), ds = [rowD r, .list (hs.map entD), .int t, .int (i : Int)] ∧ i ≤ r.ls.length ∧ r.ls.length < i + n ∧ hs.length = r.ls.length ∧ r.ls.length ≤ 100 ∧
  Z (.fz (ansD (ask r.ls hs t i).1)) (.list ((ask r.ls hs t i).2.map entD))
def ct_walk : CT := CT.mk 2 none fun ds Z => ∃ (r : Row) (s : Sch), ds = [rowD r, schD s] ∧ Fit r s ∧ r.ls.length ≤ 8 ∧ Z (.fz (.tuple [.list ((walk r (empt r) s).1.map ansD), .list ((walk r (empt r) s).2.map entD)])) .none
theorem ask_zero (ds : List PyData) (Z : Rs → PyData → Prop) (h : (ct_ask 0).pre ds Z) : False := by
  obtain ⟨r, hs, t, i, _, h1, h2, _⟩ := h
  omega
theorem like_zero (ds : List PyData) (Z : Rs → PyData → Prop) (h : (ct_like 0).pre ds Z) : False := by
  obtain ⟨a, _, h, _⟩ := h
  exact h
/-! the data reading unfolded as far as it goes -/
local macro_rules | `(tactic| walk_at "d") => `(tactic| simp (config := { decide := false }) only [dSeq, dAsg, dAsgO, dAppS, dApp, dSetS, dSet, dAug, dRet, dRetN, dDrop, dDPut, dDGet2, dDNewK, dDNewT, dIfS, dFor, dNext, dBreak, dCont, dOp1, dOp2, dTup, dLst, dCons, dNil, dC, dCB, dVar, dVarR, dIfE, dTest, dAnd, dOr, dNot, dAndV, dOrV, dNotV, dChain, dCall, dCallL, dCallIO, dIsi, dSl, dPart, dNoPart, dSeqI, dRng1, dRng2, dDGet2, dDNewK, dDNewT, dRng3, dEnum, dZip, stoAll, itemsD, Option.some.injEq, exists_eq_left', dYes, dIx0, dRetT, dgName, dgTup, dgCons, dgNil, oFdiv, oMod, oPow, oLt, oLe, oGt, oGe, cmpD,
  wipeD, restD, Option.getD_some, Option.getD_none, Int.zero_add, Int.toNat_natCast, isi_lt_lst, isi_lt_tup, isi_lt_non, isi_lt_bl, isi_lt_int, isi_lt_str, isi_int_non, isi_int_bl, isi_int_int, isi_int_str, isi_int_lst, isi_int_tup, isi_bl_non, isi_bl_bl, isi_bl_int, isi_bl_str, isi_bl_lst, isi_bl_tup, isi_tup_non, isi_tup_bl, isi_tup_int, isi_tup_str, isi_tup_lst, isi_tup_tup, oEq_int, oNe_int, oEq_bl, oNe_bl, eq_self, decide_true, ixN_31, ixN_32, atI_0, atI_1, atI_2, atI_3, oIx_tup, oIx_lst, oLen_tup, oLen_lst, oListOf_tup, oListOf_lst, oTupOf_tup, oTupOf_lst, oAdd_int, oAdd_tup, oAdd_lst, oMul_int, oMul_tup, oMul_lst, dI0_int, dI_int, oIs_non, oIs_bl, isN_non, isN_int, isN_tup, isN_lst, isN_bl, oNeg_int, oMin2_int, oMax2_int, oInt_int, oInt_bl, oSl_tup, oSl_lst, ends_fz, ends_nw, ends_np, ends_nx, ends_br, ends_fzi, ends_nwi, ends_bri, retD_br,
  List.getElem?_cons_zero, List.getElem?_cons_succ, List.set_cons_zero, List.set_cons_succ, List.length_cons, List.length_nil, List.length_map, List.map_cons, List.map_nil, List.length_append, dat_fz, dat_nw, dat_br, dat_np, sto_fz, sto_nw, sto_np, sto_br, stoAll, datAt, Sl.dat, Sl.own, Sl.with, ioSlot, stoBut, if_true, true_and, and_true, reduceCtorEq, Option.some.injEq, PyData.int.injEq, PyData.tuple.injEq, PyData.list.injEq, PyData.bool.injEq,  exists_eq_left', exists_eq_left, Bool.true_eq_false, Bool.false_eq_true, if_false, Bool.true_xor, Bool.false_xor, Bool.not_true, Bool.not_false,
  Nat.reduceAdd, Nat.reduceLeDiff, Nat.reduceEqDiff, Nat.reduceLT, Int.reduceNeg, Int.reduceLE, Int.reduceLT, Nat.zero_le, ne_eq, not_false_eq_true, List.cons_ne_nil, not_true_eq_false])
local macro_rules | `(tactic| walk_at "e") => `(tactic| simp (config := { decide := false }) only [dOp1, dOp2, dTup, dLst, dCons, dNil, dC, dCB, dVar, dVarR, dIfE, dTest, dAnd, dOr, dNot, dAndV, dOrV, dNotV, dChain, dCall, dCallL, dCallIO, dIsi, dSl, dPart, dNoPart, dSeqI, dRng1, dRng2, dDGet2, dDNewK, dDNewT, dRng3, dEnum, dZip, stoAll, itemsD, Option.some.injEq, exists_eq_left', dYes, dIx0, oFdiv, oMod, oPow, oLt, oLe, oGt, oGe, cmpD,
  wipeD, restD, Option.getD_some, Option.getD_none, Int.zero_add, Int.toNat_natCast, isi_lt_lst, isi_lt_tup, isi_lt_non, isi_lt_bl, isi_lt_int, isi_lt_str, isi_int_non, isi_int_bl, isi_int_int, isi_int_str, isi_int_lst, isi_int_tup, isi_bl_non, isi_bl_bl, isi_bl_int, isi_bl_str, isi_bl_lst, isi_bl_tup, isi_tup_non, isi_tup_bl, isi_tup_int, isi_tup_str, isi_tup_lst, isi_tup_tup, oEq_int, oNe_int, oEq_bl, oNe_bl, eq_self, decide_true, ixN_31, ixN_32, atI_0, atI_1, atI_2, atI_3, oIx_tup, oIx_lst, oLen_tup, oLen_lst, oListOf_tup, oListOf_lst, oTupOf_tup, oTupOf_lst, oAdd_int, oAdd_tup, oAdd_lst, oMul_int, oMul_tup, oMul_lst, dI0_int, dI_int, oIs_non, oIs_bl, isN_non, isN_int, isN_tup, isN_lst, isN_bl, oNeg_int, oMin2_int, oMax2_int, oInt_int, oInt_bl, oSl_tup, oSl_lst, ends_fz, ends_nw, ends_np, ends_nx, ends_br, ends_fzi, ends_nwi, ends_bri, retD_br,
  List.getElem?_cons_zero, List.getElem?_cons_succ, List.set_cons_zero, List.set_cons_succ, List.length_cons, List.length_nil, List.length_map, List.map_cons, List.map_nil, List.length_append, dat_fz, dat_nw, dat_br, dat_np, sto_fz, sto_nw, sto_np, sto_br, stoAll, datAt, Sl.dat, Sl.own, Sl.with, ioSlot, stoBut, if_true, true_and, and_true, reduceCtorEq, Option.some.injEq, PyData.int.injEq, PyData.tuple.injEq, PyData.list.injEq, PyData.bool.injEq,  exists_eq_left', exists_eq_left, Bool.true_eq_false, Bool.false_eq_true, if_false, Bool.true_xor, Bool.false_xor, Bool.not_true, Bool.not_false,
  Nat.reduceAdd, Nat.reduceLeDiff, Nat.reduceEqDiff, Nat.reduceLT, Int.reduceNeg, Int.reduceLE, Int.reduceLT, Nat.zero_le, ne_eq, not_false_eq_true, List.cons_ne_nil, not_true_eq_false])
def t_read (K : PySem.W.Frag) : TS := (tSeq (tAsg (tVar 0) (gTup K 2 (gCons (gName 4) (gCons (gName 5) gNil))))
  (tSeq (tAsg (tOp (rIx K) (tVar 5) (tVar 3)) (gName 6))
  (tSeq (tWhile (tAnd (tTest (tOp (rI0 fun i j => .bl (decide (i < j))) (tVar 6) (tCB (rLenU K) (tCons (tVar 4) tNil)))) (tOr (tTest (tOp rIsU (tOp (rIx K) (tVar 1) (tVar 6)) (tC .non))) (tTest (tOp (rI0 fun i j => .bl (decide (j ≤ i))) (tOp (rI0 fun i j => .int (i - j)) (tVar 2) (tOp (rIx K) (tOp (rIx K) (tVar 1) (tVar 6)) (tC (.int 1)))) (tOp (rIx K) (tVar 4) (tVar 6)))))) (tAug 6 (tC (.int 1)) (L2.ipI fun i j => i + j)))
  (tSeq (tAsg (tIf (tTest (tOp (rI0 fun i j => .bl (decide (i < j))) (tVar 6) (tCB (rLenU K) (tCons (tVar 4) tNil)))) (tOp (rIx K) (tOp (rIx K) (tVar 1) (tVar 6)) (tC (.int 0))) (tVar 2)) (gName 7))
  (tSeq (tAsg (tOp (rMulU K) (tTup (tCons (tTup (tCons (tVar 7) (tCons (tVar 2) tNil))) tNil)) (tOp (rI0 fun i j => .int (i - j)) (tVar 6) (tOp (rIx K) (tVar 5) (tVar 3)))) (gName 8))
  (tRet (tTup (tCons (tVar 7) (tCons (tVar 6) (tCons (tOp (rAddU K) (tOp (rAddU K) (tSl (rSlU K) (tVar 1) tNoPart (tPart (tOp (rIx K) (tVar 5) (tVar 3)))) (tVar 8)) (tSl (rSlU K) (tVar 1) (tPart (tVar 6)) tNoPart)) tNil))))))))))

def d_read : DS := (dSeq (dAsg (dVar 0) (dgTup 2 (dgCons (dgName 4) (dgCons (dgName 5) dgNil))))
  (dSeq (dAsg (dOp2 oIx (dVar 5) (dVar 3)) (dgName 6))
  (dSeq (dWhile (dAnd (dTest (dOp2 oLt (dVar 6) (dCB oLen (dCons (dVar 4) dNil)))) (dOr (dTest (dOp2 (oIs false) (dOp2 oIx (dVar 1) (dVar 6)) (dC .none))) (dTest (dOp2 oGe (dOp2 (dI0 fun i j => .int (i - j)) (dVar 2) (dOp2 oIx (dOp2 oIx (dVar 1) (dVar 6)) (dC (.int 1)))) (dOp2 oIx (dVar 4) (dVar 6)))))) (dAug 6 (fun i j => i + j) (dC (.int 1))))
  (dSeq (dAsg (dIfE (dTest (dOp2 oLt (dVar 6) (dCB oLen (dCons (dVar 4) dNil)))) (dOp2 oIx (dOp2 oIx (dVar 1) (dVar 6)) (dC (.int 0))) (dVar 2)) (dgName 7))
  (dSeq (dAsg (dOp2 oMul (dTup (dCons (dTup (dCons (dVar 7) (dCons (dVar 2) dNil))) dNil)) (dOp2 (dI0 fun i j => .int (i - j)) (dVar 6) (dOp2 oIx (dVar 5) (dVar 3)))) (dgName 8))
  (dRet (dTup (dCons (dVar 7) (dCons (dVar 6) (dCons (dOp2 oAdd (dOp2 oAdd (dSl (dVar 1) dNoPart (dPart (dOp2 oIx (dVar 5) (dVar 3)))) (dVar 8)) (dSl (dVar 1) (dPart (dVar 6)) dNoPart)) dNil))))))))))

theorem sim_read {K : PySem.W.Frag} : SimS (t_read K) d_read := (simS_seq (simS_asg simE_var (simG_tup (simGs_cons simG_name (simGs_cons simG_name simGs_nil))))
  (simS_seq (simS_asg (simE_op2 simR2_ix simE_var simE_var) simG_name)
  (simS_seq (simS_while (simT_and (simT_test (simE_op2 simR2_lt simE_var (simE_cb simRN_len (simA_cons simE_var simA_nil)))) (simT_or (simT_test (simE_op2 simR2_is (simE_op2 simR2_ix simE_var simE_var) (simE_c fun _ _ => .non))) (simT_test (simE_op2 simR2_ge (simE_op2 simR2_sub simE_var (simE_op2 simR2_ix (simE_op2 simR2_ix simE_var simE_var) (simE_c fun _ _ => .int _))) (simE_op2 simR2_ix simE_var simE_var))))) (simS_aug (simE_c fun _ _ => .int _)))
  (simS_seq (simS_asg (simE_if (simT_test (simE_op2 simR2_lt simE_var (simE_cb simRN_len (simA_cons simE_var simA_nil)))) (simE_op2 simR2_ix (simE_op2 simR2_ix simE_var simE_var) (simE_c fun _ _ => .int _)) simE_var) simG_name)
  (simS_seq (simS_asg (simE_op2 simR2_mul (simE_tup (simA_cons (simE_tup (simA_cons simE_var (simA_cons simE_var simA_nil))) simA_nil)) (simE_op2 simR2_sub simE_var (simE_op2 simR2_ix simE_var simE_var))) simG_name)
  (simS_ret (simE_tup (simA_cons simE_var (simA_cons simE_var (simA_cons (simE_op2 simR2_add (simE_op2 simR2_add (simE_sl simE_var simO_none (simO_some (simE_op2 simR2_ix simE_var simE_var))) simE_var) (simE_sl simE_var (simO_some simE_var) simO_none)) simA_nil))))))))))

def t_empty (K : PySem.W.Frag) : TS := (tRet (tOp (rMulU K) (tTup (tCons (tC .non) tNil)) (tCB (rLenU K) (tCons (tOp (rIx K) (tVar 0) (tC (.int 0))) tNil))))

def d_empty : DS := (dRet (dOp2 oMul (dTup (dCons (dC .none) dNil)) (dCB oLen (dCons (dOp2 oIx (dVar 0) (dC (.int 0))) dNil))))

theorem sim_empty {K : PySem.W.Frag} : SimS (t_empty K) d_empty := (simS_ret (simE_op2 simR2_mul (simE_tup (simA_cons (simE_c fun _ _ => .non) simA_nil)) (simE_cb simRN_len (simA_cons (simE_op2 simR2_ix simE_var (simE_c fun _ _ => .int _)) simA_nil))))

def t_run (K : PySem.W.Frag) : TS := (tSeq (tPar3 2 3 4 (tCons (tCall (spD ct_empty) [] E0 (tCons (tVar 0) tNil)) (tCons (tLst tNil) (tCons (tLst tNil) tNil))))
  (tSeq (tFor (iSeq K (tVar 1)) (gTup K 2 (gCons (gName 5) (gCons (gName 6) gNil))) (tSeq (tAsg (tCall (spD ct_read) [] E0 (tCons (tVar 0) (tCons (tVar 2) (tCons (tVar 5) (tCons (tVar 6) tNil))))) (gTup K 3 (gCons (gName 7) (gCons (gName 8) (gCons (gName 2) gNil)))))
  (tSeq (tDrop (tBM K "list" rAppend (tVar 3) (tCons (tVar 7) tNil)))
  (tDrop (tBM K "list" rAppend (tVar 4) (tCons (tVar 8) tNil))))))
  (tRet (tTup (tCons (tVar 3) (tCons (tVar 4) (tCons (tVar 2) tNil)))))))

def d_run : DS := (dSeq (dSeq (dAsg (dCall ct_empty (dCons (dVar 0) dNil)) (dgName 2)) (dSeq (dAsgO (dLst dNil) 3) (dAsgO (dLst dNil) 4)))
  (dSeq (dFor (dSeqI (dVar 1)) (dgTup 2 (dgCons (dgName 5) (dgCons (dgName 6) dgNil))) (dSeq (dAsg (dCall ct_read (dCons (dVar 0) (dCons (dVar 2) (dCons (dVar 5) (dCons (dVar 6) dNil))))) (dgTup 3 (dgCons (dgName 7) (dgCons (dgName 8) (dgCons (dgName 2) dgNil)))))
  (dSeq (dAppS 3 (dVar 7))
  (dAppS 4 (dVar 8)))))
  (dRetT 3 (dCons (dVarR 4) (dCons (dVar 2) dNil)))))

theorem sim_run {K : PySem.W.Frag} : SimS (t_run K) d_run := (simS_seq (simS_par3 (simS_seq (simS_asg (simE_call rfl (simA_cons simE_var simA_nil)) simG_name) (simS_seq (simS_asgO (i := 3) (simE_lst simA_nil)) (simS_asgO (i := 4) (simE_lst simA_nil)))) (ind_lst ind_nil) (ind_lst ind_nil) (ind_lst ind_nil))
  (simS_seq (simS_for (simI_seq simE_var) (simG_tup (simGs_cons simG_name (simGs_cons simG_name simGs_nil))) (simS_seq (simS_asg (simE_call rfl (simA_cons simE_var (simA_cons simE_var (simA_cons simE_var (simA_cons simE_var simA_nil))))) (simG_tup (simGs_cons simG_name (simGs_cons simG_name (simGs_cons simG_name simGs_nil)))))
  (simS_seq (simS_app simE_var)
  (simS_app simE_var))))
  (simS_retT (i := 3) (simA_cons simE_varR (simA_cons simE_var simA_nil)))))

def t_answers (K : PySem.W.Frag) : TS := (tRet (tOp (rIx K) (tCall (spD ct_run) [] E0 (tCons (tVar 0) (tCons (tVar 1) tNil))) (tC (.int 0))))

def d_answers : DS := (dRet (dIx0 (dCall ct_run (dCons (dVar 0) (dCons (dVar 1) dNil)))))

theorem sim_answers {K : PySem.W.Frag} : SimS (t_answers K) d_answers := (simS_ret (simE_ix0 (simE_call rfl (simA_cons simE_var (simA_cons simE_var simA_nil)))))

def t_sources (K : PySem.W.Frag) : TS := (tRet (tOp (rIx K) (tCall (spD ct_run) [] E0 (tCons (tVar 0) (tCons (tVar 1) tNil))) (tC (.int 1))))

def d_sources : DS := (dRet (dOp2 oIx (dCall ct_run (dCons (dVar 0) (dCons (dVar 1) dNil))) (dC (.int 1))))

theorem sim_sources {K : PySem.W.Frag} : SimS (t_sources K) d_sources := (simS_ret (simE_op2 simR2_ix (simE_call rfl (simA_cons simE_var (simA_cons simE_var simA_nil))) (simE_c fun _ _ => .int _)))

def t_entries (K : PySem.W.Frag) : TS := (tRet (tCB (rListOf K) (tCons (tOp (rIx K) (tCall (spD ct_run) [] E0 (tCons (tVar 0) (tCons (tVar 1) tNil))) (tC (.int 2))) tNil)))

def d_entries : DS := (dRet (dCB oListOf (dCons (dOp2 oIx (dCall ct_run (dCons (dVar 0) (dCons (dVar 1) dNil))) (dC (.int 2))) dNil)))

theorem sim_entries {K : PySem.W.Frag} : SimS (t_entries K) d_entries := (simS_ret (simE_cb simRN_listOf (simA_cons (simE_op2 simR2_ix (simE_call rfl (simA_cons simE_var (simA_cons simE_var simA_nil))) (simE_c fun _ _ => .int _)) simA_nil)))

def t_draw (K : PySem.W.Frag) : TS := (tSeq (tAsg (tC (.int 2305843009213693951)) (gName 2))
  (tSeq (tIfS (tTest (tOp (rI0 fun i j => .bl (decide (i < j))) (tOp (rIx K) (tVar 0) (tC (.int 2))) (tVar 1))) (tSeq (tAsg (tC (.int 0)) (gName 3))
  (tSeq (tIfS (tTest (tOp (rI0 fun i j => .bl (decide (j < i))) (tCB (rLenU K) (tCons (tOp (rIx K) (tVar 0) (tC (.int 0))) tNil)) (tC (.int 0)))) (tAsg (tOp (rIx K) (tOp (rIx K) (tVar 0) (tC (.int 0))) (tOp (rI (fun _ j => 0 < j) fun i j => .int (i % j)) (tOp (rIx K) (tVar 0) (tC (.int 1))) (tCB (rLenU K) (tCons (tOp (rIx K) (tVar 0) (tC (.int 0))) tNil)))) (gName 3)) tNext)
  (tSeq (tIfS (tOr (tTest (tOp (rI0 fun i j => .bl (decide (j ≤ i))) (tOp (rIx K) (tVar 0) (tC (.int 1))) (tCB (rLenU K) (tCons (tOp (rIx K) (tVar 0) (tC (.int 0))) tNil)))) (tTest (tOp (rI0 fun i j => .bl (decide (i < j))) (tVar 3) (tOp (rI CPow fun i j => .int (i ^ j.toNat)) (tC (.int 10)) (tC (.int 18)))))) (tSeq (tAsg (tOp (rI (fun _ j => 0 < j) fun i j => .int (i % j)) (tOp (rAddU K) (tVar 3) (tOp (rMulU K) (tC (.int 1000003)) (tOp (rIx K) (tVar 0) (tC (.int 1))))) (tVar 2)) (gName 3))
  (tSeq (tAsg (tOp (rI (fun _ j => 0 < j) fun i j => .int (i % j)) (tOp (rAddU K) (tOp (rAddU K) (tOp (rMulU K) (tVar 3) (tVar 3)) (tOp (rMulU K) (tC (.int 1181783497276652981)) (tVar 3))) (tC (.int 2049848353892358983))) (tVar 2)) (gName 3))
  (tAsg (tOp (rI (fun _ j => 0 < j) fun i j => .int (i % j)) (tOp (rAddU K) (tOp (rMulU K) (tVar 3) (tVar 3)) (tC (.int 1442695040888963407))) (tVar 2)) (gName 3)))) tNext)
  (tSeq (tAsg (tOp (rAddU K) (tOp (rIx K) (tVar 0) (tC (.int 1))) (tC (.int 1))) (gSub (tVar 0) (tC (.int 1)) rSetL))
  (tAsg (tVar 3) (gSub (tVar 0) (tC (.int 2)) rSetL)))))) tNext)
  (tSeq (tAsg (tOp (rI (fun _ j => 0 < j) fun i j => .int (i % j)) (tOp (rIx K) (tVar 0) (tC (.int 2))) (tVar 1)) (gName 4))
  (tSeq (tAsg (tOp (rI CDivW fun i j => .int (i / j)) (tOp (rIx K) (tVar 0) (tC (.int 2))) (tVar 1)) (gSub (tVar 0) (tC (.int 2)) rSetL))
  (tRet (tVar 4))))))

def d_draw : DS := (dSeq (dAsg (dC (.int 2305843009213693951)) (dgName 2))
  (dSeq (dIfS (dTest (dOp2 oLt (dOp2 oIx (dVar 0) (dC (.int 2))) (dVar 1))) (dSeq (dAsg (dC (.int 0)) (dgName 3))
  (dSeq (dIfS (dTest (dOp2 oGt (dCB oLen (dCons (dOp2 oIx (dVar 0) (dC (.int 0))) dNil)) (dC (.int 0)))) (dAsg (dOp2 oIx (dOp2 oIx (dVar 0) (dC (.int 0))) (dOp2 oMod (dOp2 oIx (dVar 0) (dC (.int 1))) (dCB oLen (dCons (dOp2 oIx (dVar 0) (dC (.int 0))) dNil)))) (dgName 3)) dNext)
  (dSeq (dIfS (dOr (dTest (dOp2 oGe (dOp2 oIx (dVar 0) (dC (.int 1))) (dCB oLen (dCons (dOp2 oIx (dVar 0) (dC (.int 0))) dNil)))) (dTest (dOp2 oLt (dVar 3) (dOp2 oPow (dC (.int 10)) (dC (.int 18)))))) (dSeq (dAsg (dOp2 oMod (dOp2 oAdd (dVar 3) (dOp2 oMul (dC (.int 1000003)) (dOp2 oIx (dVar 0) (dC (.int 1))))) (dVar 2)) (dgName 3))
  (dSeq (dAsg (dOp2 oMod (dOp2 oAdd (dOp2 oAdd (dOp2 oMul (dVar 3) (dVar 3)) (dOp2 oMul (dC (.int 1181783497276652981)) (dVar 3))) (dC (.int 2049848353892358983))) (dVar 2)) (dgName 3))
  (dAsg (dOp2 oMod (dOp2 oAdd (dOp2 oMul (dVar 3) (dVar 3)) (dC (.int 1442695040888963407))) (dVar 2)) (dgName 3)))) dNext)
  (dSeq (dSetS 0 (dOp2 oAdd (dOp2 oIx (dVar 0) (dC (.int 1))) (dC (.int 1))) (dC (.int 1)))
  (dSetS 0 (dVar 3) (dC (.int 2))))))) dNext)
  (dSeq (dAsg (dOp2 oMod (dOp2 oIx (dVar 0) (dC (.int 2))) (dVar 1)) (dgName 4))
  (dSeq (dSetS 0 (dOp2 oFdiv (dOp2 oIx (dVar 0) (dC (.int 2))) (dVar 1)) (dC (.int 2)))
  (dRet (dVar 4))))))

theorem sim_draw {K : PySem.W.Frag} : SimS (t_draw K) d_draw := (simS_seq (simS_asg (simE_c fun _ _ => .int _) simG_name)
  (simS_seq (simS_if (simT_test (simE_op2 simR2_lt (simE_op2 simR2_ix simE_var (simE_c fun _ _ => .int _)) simE_var)) (simS_seq (simS_asg (simE_c fun _ _ => .int _) simG_name)
  (simS_seq (simS_if (simT_test (simE_op2 simR2_gt (simE_cb simRN_len (simA_cons (simE_op2 simR2_ix simE_var (simE_c fun _ _ => .int _)) simA_nil)) (simE_c fun _ _ => .int _))) (simS_asg (simE_op2 simR2_ix (simE_op2 simR2_ix simE_var (simE_c fun _ _ => .int _)) (simE_op2 simR2_mod (simE_op2 simR2_ix simE_var (simE_c fun _ _ => .int _)) (simE_cb simRN_len (simA_cons (simE_op2 simR2_ix simE_var (simE_c fun _ _ => .int _)) simA_nil)))) simG_name) simS_next)
  (simS_seq (simS_if (simT_or (simT_test (simE_op2 simR2_ge (simE_op2 simR2_ix simE_var (simE_c fun _ _ => .int _)) (simE_cb simRN_len (simA_cons (simE_op2 simR2_ix simE_var (simE_c fun _ _ => .int _)) simA_nil)))) (simT_test (simE_op2 simR2_lt simE_var (simE_op2 simR2_pow (simE_c fun _ _ => .int _) (simE_c fun _ _ => .int _))))) (simS_seq (simS_asg (simE_op2 simR2_mod (simE_op2 simR2_add simE_var (simE_op2 simR2_mul (simE_c fun _ _ => .int _) (simE_op2 simR2_ix simE_var (simE_c fun _ _ => .int _)))) simE_var) simG_name)
  (simS_seq (simS_asg (simE_op2 simR2_mod (simE_op2 simR2_add (simE_op2 simR2_add (simE_op2 simR2_mul simE_var simE_var) (simE_op2 simR2_mul (simE_c fun _ _ => .int _) simE_var)) (simE_c fun _ _ => .int _)) simE_var) simG_name)
  (simS_asg (simE_op2 simR2_mod (simE_op2 simR2_add (simE_op2 simR2_mul simE_var simE_var) (simE_c fun _ _ => .int _)) simE_var) simG_name))) simS_next)
  (simS_seq (simS_set (i := 0) (simE_op2 simR2_add (simE_op2 simR2_ix simE_var (simE_c fun _ _ => .int _)) (simE_c fun _ _ => .int _)) (simE_c fun _ _ => .int _))
  (simS_set (i := 0) simE_var (simE_c fun _ _ => .int _)))))) simS_next)
  (simS_seq (simS_asg (simE_op2 simR2_mod (simE_op2 simR2_ix simE_var (simE_c fun _ _ => .int _)) simE_var) simG_name)
  (simS_seq (simS_set (i := 0) (simE_op2 simR2_fdiv (simE_op2 simR2_ix simE_var (simE_c fun _ _ => .int _)) simE_var) (simE_c fun _ _ => .int _))
  (simS_ret simE_var)))))

def t_like (K : PySem.W.Frag) (n : Nat) : TS := (tSeq (tIfS (tB (tCB (rIsiT K) (tCons (tVar 0) (tCons (tTup (tysA ["list", "tuple"])) tNil)))) (tSeq (tIfS (tOr (tTest (tOp (rNeD K) (tCB (rIsi K) (tCons (tVar 0) (tCons (tC (.ty "list")) tNil))) (tCB (rIsi K) (tCons (tVar 1) (tCons (tC (.ty "list")) tNil))))) (tTest (tOp (rNeD K) (tCB (rIsi K) (tCons (tVar 0) (tCons (tC (.ty "tuple")) tNil))) (tCB (rIsi K) (tCons (tVar 1) (tCons (tC (.ty "tuple")) tNil)))))) (tRet (tC (.bl false))) tNext)
  (tSeq (tIfS (tTest (tOp (rNeD K) (tCB (rLenU K) (tCons (tVar 0) tNil)) (tCB (rLenU K) (tCons (tVar 1) tNil)))) (tRet (tC (.bl false))) tNext)
  (tRet (tOp (rEqD K) (tLc (iRng1 (tCons (tCB (rLenU K) (tCons (tVar 0) tNil)) tNil)) (gName 2) (tNot (tB (tCall (spD (ct_like n)) [] E0 (tCons (tOp (rIx K) (tVar 0) (tVar 2)) (tCons (tOp (rIx K) (tVar 1) (tVar 2)) tNil))))) (tVar 2) [2]) (tLst tNil))))) tNext)
  (tSeq (tIfS (tB (tCB (rIsiT K) (tCons (tVar 1) (tCons (tTup (tysA ["list", "tuple"])) tNil)))) (tRet (tC (.bl false))) tNext)
  (tRet (tAndV (tOp (rEqD K) (tCB (rIsi K) (tCons (tVar 0) (tCons (tC (.ty "bool")) tNil))) (tCB (rIsi K) (tCons (tVar 1) (tCons (tC (.ty "bool")) tNil)))) (tOp (rEqD K) (tVar 0) (tVar 1))))))

def d_like (n : Nat) : DS := (dSeq (dIfS (dTest (dIsi ["list", "tuple"] (dVar 0))) (dSeq (dIfS (dOr (dTest (dOp2 oNe (dIsi ["list"] (dVar 0)) (dIsi ["list"] (dVar 1)))) (dTest (dOp2 oNe (dIsi ["tuple"] (dVar 0)) (dIsi ["tuple"] (dVar 1))))) (dRet (dC (.bool false))) dNext)
  (dSeq (dIfS (dTest (dOp2 oNe (dCB oLen (dCons (dVar 0) dNil)) (dCB oLen (dCons (dVar 1) dNil)))) (dRet (dC (.bool false))) dNext)
  (dRet (dOp2 oEq (dLc (dRng1 (dCons (dCB oLen (dCons (dVar 0) dNil)) dNil)) (dgName 2) (dNot (dTest (dCall (ct_like n) (dCons (dOp2 oIx (dVar 0) (dVar 2)) (dCons (dOp2 oIx (dVar 1) (dVar 2)) dNil))))) (dVar 2) [2]) (dLst dNil))))) dNext)
  (dSeq (dIfS (dTest (dIsi ["list", "tuple"] (dVar 1))) (dRet (dC (.bool false))) dNext)
  (dRet (dAndV (dOp2 oEq (dIsi ["bool"] (dVar 0)) (dIsi ["bool"] (dVar 1))) (dOp2 oEq (dVar 0) (dVar 1))))))

theorem sim_like {K : PySem.W.Frag} (n : Nat) : SimS (t_like K n) (d_like n) := (simS_seq (simS_if (simT_B (simE_isiT (by decide +kernel) (by decide) simE_var)) (simS_seq (simS_if (simT_or (simT_test (simE_op2 simR2_ne (simE_isi1 (by decide +kernel) simE_var) (simE_isi1 (by decide +kernel) simE_var))) (simT_test (simE_op2 simR2_ne (simE_isi1 (by decide +kernel) simE_var) (simE_isi1 (by decide +kernel) simE_var)))) (simS_ret (simE_c fun _ _ => .bl _)) simS_next)
  (simS_seq (simS_if (simT_test (simE_op2 simR2_ne (simE_cb simRN_len (simA_cons simE_var simA_nil)) (simE_cb simRN_len (simA_cons simE_var simA_nil)))) (simS_ret (simE_c fun _ _ => .bl _)) simS_next)
  (simS_ret (simE_op2 simR2_eq (simE_lc (simI_rng1 (simA_cons (simE_cb simRN_len (simA_cons simE_var simA_nil)) simA_nil)) simG_name (tg_name (by decide)) (simT_not (simT_B (simE_call rfl (simA_cons (simE_op2 simR2_ix simE_var simE_var) (simA_cons (simE_op2 simR2_ix simE_var simE_var) simA_nil))))) simE_var) (simE_lst simA_nil))))) simS_next)
  (simS_seq (simS_if (simT_B (simE_isiT (by decide +kernel) (by decide) simE_var)) (simS_ret (simE_c fun _ _ => .bl _)) simS_next)
  (simS_ret (simE_andV (simE_op2 simR2_eq (simE_isi1 (by decide +kernel) simE_var) (simE_isi1 (by decide +kernel) simE_var)) (simE_op2 simR2_eq simE_var simE_var)))))

def t_row (K : PySem.W.Frag) : TS := (tSeq (tAsg (tOp (rIx K) (tLst (tCons (tC (.int 3)) (tCons (tC (.int 9)) (tCons (tVar 2) tNil)))) (tCall (spD ct_draw) [] E0 (tCons (tVar 0) (tCons (tC (.int 3)) tNil)))) (gName 4))
  (tSeq (tAsg (tCB (rTupOf K) (tCons (tLc (iRng1 (tCons (tCall (spD ct_draw) [] E0 (tCons (tVar 0) (tCons (tOp (rAddU K) (tVar 1) (tC (.int 1))) tNil))) tNil)) (gName 7) tYes (tOp (rAddU K) (tC (.int 1)) (tCall (spD ct_draw) [] E0 (tCons (tVar 0) (tCons (tCB rMin2 (tCons (tVar 4) (tCons (tVar 2) tNil))) tNil)))) [7]) tNil)) (gName 5))
  (tSeq (tAsg (tLst tNil) (gName 6))
  (tSeq (tFor (iRng1 (tCons (tOp (rAddU K) (tC (.int 1)) (tCall (spD ct_draw) [] E0 (tCons (tVar 0) (tCons (tVar 3) tNil)))) tNil)) (gName 7) (tDrop (tBM K "list" rAppend (tVar 6) (tCons (tOp (rIx K) (tLst (tCons (tC (.int 0)) (tCons (tCall (spD ct_draw) [] E0 (tCons (tVar 0) (tCons (tOp (rAddU K) (tCB (rLenU K) (tCons (tVar 5) tNil)) (tC (.int 1))) tNil))) tNil))) (tCB rMin2 (tCons (tC (.int 1)) (tCons (tCall (spD ct_draw) [] E0 (tCons (tVar 0) (tCons (tC (.int 3)) tNil))) tNil)))) tNil))))
  (tRet (tTup (tCons (tVar 5) (tCons (tCB (rTupOf K) (tCons (tCB (rSortedI K) (tCons (tVar 6) tNil)) tNil)) tNil))))))))

def d_row : DS := (dSeq (dAsg (dOp2 oIx (dLst (dCons (dC (.int 3)) (dCons (dC (.int 9)) (dCons (dVar 2) dNil)))) (dCallIO ct_draw 0 (dCons (dVar 0) (dCons (dC (.int 3)) dNil)))) (dgName 4))
  (dSeq (dAsg (dCB oTupOf (dCons (dLc (dRng1 (dCons (dCallIO ct_draw 0 (dCons (dVar 0) (dCons (dOp2 oAdd (dVar 1) (dC (.int 1))) dNil))) dNil)) (dgName 7) dYes (dOp2 oAdd (dC (.int 1)) (dCallIO ct_draw 0 (dCons (dVar 0) (dCons (dCB oMin2 (dCons (dVar 4) (dCons (dVar 2) dNil))) dNil)))) [7]) dNil)) (dgName 5))
  (dSeq (dAsgO (dLst dNil) 6)
  (dSeq (dFor (dRng1 (dCons (dOp2 oAdd (dC (.int 1)) (dCallIO ct_draw 0 (dCons (dVar 0) (dCons (dVar 3) dNil)))) dNil)) (dgName 7) (dAppS 6 (dOp2 oIx (dLst (dCons (dC (.int 0)) (dCons (dCallIO ct_draw 0 (dCons (dVar 0) (dCons (dOp2 oAdd (dCB oLen (dCons (dVar 5) dNil)) (dC (.int 1))) dNil))) dNil))) (dCB oMin2 (dCons (dC (.int 1)) (dCons (dCallIO ct_draw 0 (dCons (dVar 0) (dCons (dC (.int 3)) dNil))) dNil))))))
  (dRet (dTup (dCons (dVar 5) (dCons (dCB oTupOf (dCons (dCB oSorted (dCons (dVar 6) dNil)) dNil)) dNil))))))))

theorem sim_row {K : PySem.W.Frag} : SimS (t_row K) d_row := (simS_seq (simS_asg (simE_op2 simR2_ix (simE_lst (simA_cons (simE_c fun _ _ => .int _) (simA_cons (simE_c fun _ _ => .int _) (simA_cons simE_var simA_nil)))) (simE_callIO (k := 0) rfl (simA_cons simE_var (simA_cons (simE_c fun _ _ => .int _) simA_nil)))) simG_name)
  (simS_seq (simS_asg (simE_cb simRN_tupOf (simA_cons (simE_lc (simI_rng1 (simA_cons (simE_callIO (k := 0) rfl (simA_cons simE_var (simA_cons (simE_op2 simR2_add simE_var (simE_c fun _ _ => .int _)) simA_nil))) simA_nil)) simG_name (tg_name (by decide)) simT_yes (simE_op2 simR2_add (simE_c fun _ _ => .int _) (simE_callIO (k := 0) rfl (simA_cons simE_var (simA_cons (simE_cb simRN_min2 (simA_cons simE_var (simA_cons simE_var simA_nil))) simA_nil))))) simA_nil)) simG_name)
  (simS_seq (simS_asgO (i := 6) (simE_lst simA_nil))
  (simS_seq (simS_for (simI_rng1 (simA_cons (simE_op2 simR2_add (simE_c fun _ _ => .int _) (simE_callIO (k := 0) rfl (simA_cons simE_var (simA_cons simE_var simA_nil)))) simA_nil)) simG_name (simS_app (simE_op2 simR2_ix (simE_lst (simA_cons (simE_c fun _ _ => .int _) (simA_cons (simE_callIO (k := 0) rfl (simA_cons simE_var (simA_cons (simE_op2 simR2_add (simE_cb simRN_len (simA_cons simE_var simA_nil)) (simE_c fun _ _ => .int _)) simA_nil))) simA_nil))) (simE_cb simRN_min2 (simA_cons (simE_c fun _ _ => .int _) (simA_cons (simE_callIO (k := 0) rfl (simA_cons simE_var (simA_cons (simE_c fun _ _ => .int _) simA_nil))) simA_nil))))))
  (simS_ret (simE_tup (simA_cons simE_var (simA_cons (simE_cb simRN_tupOf (simA_cons (simE_cb simRN_sorted (simA_cons simE_var simA_nil)) simA_nil)) simA_nil))))))))

def t_schedule (K : PySem.W.Frag) : TS := (tSeq (tPar 4 5 (tCons (tTup tNil) (tCons (tCall (spD ct_draw) [] E0 (tCons (tVar 0) (tCons (tC (.int 3)) tNil))) tNil)))
  (tSeq (tFor (iRng1 (tCons (tCall (spD ct_draw) [] E0 (tCons (tVar 0) (tCons (tOp (rAddU K) (tVar 2) (tC (.int 1))) tNil))) tNil)) (gName 6) (tSeq (tAsg (tOp (rAddU K) (tVar 4) (tTup (tCons (tTup (tCons (tVar 5) (tCons (tCall (spD ct_draw) [] E0 (tCons (tVar 0) (tCons (tCB (rLenU K) (tCons (tOp (rIx K) (tVar 1) (tC (.int 1))) tNil)) tNil))) tNil))) tNil))) (gName 4))
  (tAsg (tOp (rAddU K) (tVar 5) (tCall (spD ct_draw) [] E0 (tCons (tVar 0) (tCons (tVar 3) tNil)))) (gName 5))))
  (tRet (tVar 4))))

def d_schedule : DS := (dSeq (dSeq (dAsg (dTup dNil) (dgName 4)) (dAsg (dCallIO ct_draw 0 (dCons (dVar 0) (dCons (dC (.int 3)) dNil))) (dgName 5)))
  (dSeq (dFor (dRng1 (dCons (dCallIO ct_draw 0 (dCons (dVar 0) (dCons (dOp2 oAdd (dVar 2) (dC (.int 1))) dNil))) dNil)) (dgName 6) (dSeq (dAsg (dOp2 oAdd (dVar 4) (dTup (dCons (dTup (dCons (dVar 5) (dCons (dCallIO ct_draw 0 (dCons (dVar 0) (dCons (dCB oLen (dCons (dOp2 oIx (dVar 1) (dC (.int 1))) dNil)) dNil))) dNil))) dNil))) (dgName 4))
  (dAsg (dOp2 oAdd (dVar 5) (dCallIO ct_draw 0 (dCons (dVar 0) (dCons (dVar 3) dNil)))) (dgName 5))))
  (dRet (dVar 4))))

theorem sim_schedule {K : PySem.W.Frag} : SimS (t_schedule K) d_schedule := (simS_seq (simS_par (simS_seq (simS_asg (simE_tup simA_nil) simG_name) (simS_asg (simE_callIO (k := 0) rfl (simA_cons simE_var (simA_cons (simE_c fun _ _ => .int _) simA_nil))) simG_name)) (ind_call (ind_cons (ind_var (by decide)) (ind_cons ind_c ind_nil))))
  (simS_seq (simS_for (simI_rng1 (simA_cons (simE_callIO (k := 0) rfl (simA_cons simE_var (simA_cons (simE_op2 simR2_add simE_var (simE_c fun _ _ => .int _)) simA_nil))) simA_nil)) simG_name (simS_seq (simS_asg (simE_op2 simR2_add simE_var (simE_tup (simA_cons (simE_tup (simA_cons simE_var (simA_cons (simE_callIO (k := 0) rfl (simA_cons simE_var (simA_cons (simE_cb simRN_len (simA_cons (simE_op2 simR2_ix simE_var (simE_c fun _ _ => .int _)) simA_nil)) simA_nil))) simA_nil))) simA_nil))) simG_name)
  (simS_asg (simE_op2 simR2_add simE_var (simE_callIO (k := 0) rfl (simA_cons simE_var (simA_cons simE_var simA_nil)))) simG_name)))
  (simS_ret simE_var)))

def t_near_schedule (K : PySem.W.Frag) : TS := (tSeq (tAsg (tTup (tCons (tTup tNil) (tCons (tC (.int 0)) tNil))) (gTup K 2 (gCons (gName 3) (gCons (gName 4) gNil))))
  (tSeq (tFor (iRng1 (tCons (tCall (spD ct_draw) [] E0 (tCons (tVar 0) (tCons (tOp (rAddU K) (tVar 2) (tC (.int 1))) tNil))) tNil)) (gName 5) (tSeq (tAsg (tOp (rAddU K) (tVar 3) (tTup (tCons (tTup (tCons (tVar 4) (tCons (tCall (spD ct_draw) [] E0 (tCons (tVar 0) (tCons (tCB (rLenU K) (tCons (tOp (rIx K) (tVar 1) (tC (.int 1))) tNil)) tNil))) tNil))) tNil))) (gName 3))
  (tSeq (tAsg (tOp (rAddU K) (tOp (rAddU K) (tLst (tCons (tC (.int 0)) (tCons (tC (.int 1)) (tCons (tC (.int 1)) tNil)))) (tLc (iSeq K (tOp (rIx K) (tVar 1) (tC (.int 0)))) (gName 7) tYes (tOp (rI0 fun i j => .int (i - j)) (tVar 7) (tC (.int 1))) [7])) (tLc (iSeq K (tOp (rIx K) (tVar 1) (tC (.int 0)))) (gName 7) tYes (tVar 7) [7])) (gName 6))
  (tAsg (tOp (rAddU K) (tVar 4) (tOp (rIx K) (tVar 6) (tCall (spD ct_draw) [] E0 (tCons (tVar 0) (tCons (tCB (rLenU K) (tCons (tVar 6) tNil)) tNil))))) (gName 4)))))
  (tRet (tVar 3))))

def d_near_schedule : DS := (dSeq (dAsg (dTup (dCons (dTup dNil) (dCons (dC (.int 0)) dNil))) (dgTup 2 (dgCons (dgName 3) (dgCons (dgName 4) dgNil))))
  (dSeq (dFor (dRng1 (dCons (dCallIO ct_draw 0 (dCons (dVar 0) (dCons (dOp2 oAdd (dVar 2) (dC (.int 1))) dNil))) dNil)) (dgName 5) (dSeq (dAsg (dOp2 oAdd (dVar 3) (dTup (dCons (dTup (dCons (dVar 4) (dCons (dCallIO ct_draw 0 (dCons (dVar 0) (dCons (dCB oLen (dCons (dOp2 oIx (dVar 1) (dC (.int 1))) dNil)) dNil))) dNil))) dNil))) (dgName 3))
  (dSeq (dAsg (dOp2 oAdd (dOp2 oAdd (dLst (dCons (dC (.int 0)) (dCons (dC (.int 1)) (dCons (dC (.int 1)) dNil)))) (dLc (dSeqI (dOp2 oIx (dVar 1) (dC (.int 0)))) (dgName 7) dYes (dOp2 (dI0 fun i j => .int (i - j)) (dVar 7) (dC (.int 1))) [7])) (dLc (dSeqI (dOp2 oIx (dVar 1) (dC (.int 0)))) (dgName 7) dYes (dVar 7) [7])) (dgName 6))
  (dAsg (dOp2 oAdd (dVar 4) (dOp2 oIx (dVar 6) (dCallIO ct_draw 0 (dCons (dVar 0) (dCons (dCB oLen (dCons (dVar 6) dNil)) dNil))))) (dgName 4)))))
  (dRet (dVar 3))))

theorem sim_near_schedule {K : PySem.W.Frag} : SimS (t_near_schedule K) d_near_schedule := (simS_seq (simS_asg (simE_tup (simA_cons (simE_tup simA_nil) (simA_cons (simE_c fun _ _ => .int _) simA_nil))) (simG_tup (simGs_cons simG_name (simGs_cons simG_name simGs_nil))))
  (simS_seq (simS_for (simI_rng1 (simA_cons (simE_callIO (k := 0) rfl (simA_cons simE_var (simA_cons (simE_op2 simR2_add simE_var (simE_c fun _ _ => .int _)) simA_nil))) simA_nil)) simG_name (simS_seq (simS_asg (simE_op2 simR2_add simE_var (simE_tup (simA_cons (simE_tup (simA_cons simE_var (simA_cons (simE_callIO (k := 0) rfl (simA_cons simE_var (simA_cons (simE_cb simRN_len (simA_cons (simE_op2 simR2_ix simE_var (simE_c fun _ _ => .int _)) simA_nil)) simA_nil))) simA_nil))) simA_nil))) simG_name)
  (simS_seq (simS_asg (simE_op2 simR2_add (simE_op2 simR2_add (simE_lst (simA_cons (simE_c fun _ _ => .int _) (simA_cons (simE_c fun _ _ => .int _) (simA_cons (simE_c fun _ _ => .int _) simA_nil)))) (simE_lc (simI_seq (simE_op2 simR2_ix simE_var (simE_c fun _ _ => .int _))) simG_name (tg_name (by decide)) simT_yes (simE_op2 simR2_sub simE_var (simE_c fun _ _ => .int _)))) (simE_lc (simI_seq (simE_op2 simR2_ix simE_var (simE_c fun _ _ => .int _))) simG_name (tg_name (by decide)) simT_yes simE_var)) simG_name)
  (simS_asg (simE_op2 simR2_add simE_var (simE_op2 simR2_ix simE_var (simE_callIO (k := 0) rfl (simA_cons simE_var (simA_cons (simE_cb simRN_len (simA_cons simE_var simA_nil)) simA_nil))))) simG_name))))
  (simS_ret simE_var)))

def t_ask (K : PySem.W.Frag) (n : Nat) : TS := (tSeq (tIfS (tTest (tOp (rEqD K) (tVar 3) (tCB (rLenU K) (tCons (tOp (rIx K) (tVar 0) (tC (.int 0))) tNil)))) (tRet (tTup (tCons (tVar 2) (tCons (tVar 3) tNil)))) tNext)
  (tSeq (tIfS (tOr (tTest (tOp rIsU (tOp (rIx K) (tVar 1) (tVar 3)) (tC .non))) (tTest (tOp (rI0 fun i j => .bl (decide (i ≤ j))) (tOp (rAddU K) (tOp (rIx K) (tOp (rIx K) (tVar 1) (tVar 3)) (tC (.int 1))) (tOp (rIx K) (tOp (rIx K) (tVar 0) (tC (.int 0))) (tVar 3))) (tVar 2)))) (tSeq (tAsg (tCall (spD (ct_ask n)) [] E0 (tCons (tVar 0) (tCons (tVar 1) (tCons (tVar 2) (tCons (tOp (rAddU K) (tVar 3) (tC (.int 1))) tNil))))) (gName 4))
  (tSeq (tAsg (tTup (tCons (tOp (rIx K) (tVar 4) (tC (.int 0))) (tCons (tVar 2) tNil))) (gSub (tVar 1) (tVar 3) rSetL))
  (tRet (tVar 4)))) tNext)
  (tRet (tTup (tCons (tOp (rIx K) (tOp (rIx K) (tVar 1) (tVar 3)) (tC (.int 0))) (tCons (tVar 3) tNil))))))

def d_ask (n : Nat) : DS := (dSeq (dIfS (dTest (dOp2 oEq (dVar 3) (dCB oLen (dCons (dOp2 oIx (dVar 0) (dC (.int 0))) dNil)))) (dRet (dTup (dCons (dVar 2) (dCons (dVar 3) dNil)))) dNext)
  (dSeq (dIfS (dOr (dTest (dOp2 (oIs false) (dOp2 oIx (dVar 1) (dVar 3)) (dC .none))) (dTest (dOp2 oLe (dOp2 oAdd (dOp2 oIx (dOp2 oIx (dVar 1) (dVar 3)) (dC (.int 1))) (dOp2 oIx (dOp2 oIx (dVar 0) (dC (.int 0))) (dVar 3))) (dVar 2)))) (dSeq (dAsg (dCallIO (ct_ask n) 1 (dCons (dVar 0) (dCons (dVar 1) (dCons (dVar 2) (dCons (dOp2 oAdd (dVar 3) (dC (.int 1))) dNil))))) (dgName 4))
  (dSeq (dSetS 1 (dTup (dCons (dOp2 oIx (dVar 4) (dC (.int 0))) (dCons (dVar 2) dNil))) (dVar 3))
  (dRet (dVar 4)))) dNext)
  (dRet (dTup (dCons (dOp2 oIx (dOp2 oIx (dVar 1) (dVar 3)) (dC (.int 0))) (dCons (dVar 3) dNil))))))

theorem sim_ask {K : PySem.W.Frag} (n : Nat) : SimS (t_ask K n) (d_ask n) := (simS_seq (simS_if (simT_test (simE_op2 simR2_eq simE_var (simE_cb simRN_len (simA_cons (simE_op2 simR2_ix simE_var (simE_c fun _ _ => .int _)) simA_nil)))) (simS_ret (simE_tup (simA_cons simE_var (simA_cons simE_var simA_nil)))) simS_next)
  (simS_seq (simS_if (simT_or (simT_test (simE_op2 simR2_is (simE_op2 simR2_ix simE_var simE_var) (simE_c fun _ _ => .non))) (simT_test (simE_op2 simR2_le (simE_op2 simR2_add (simE_op2 simR2_ix (simE_op2 simR2_ix simE_var simE_var) (simE_c fun _ _ => .int _)) (simE_op2 simR2_ix (simE_op2 simR2_ix simE_var (simE_c fun _ _ => .int _)) simE_var)) simE_var))) (simS_seq (simS_asg (simE_callIO (k := 1) rfl (simA_cons simE_var (simA_cons simE_var (simA_cons simE_var (simA_cons (simE_op2 simR2_add simE_var (simE_c fun _ _ => .int _)) simA_nil))))) simG_name)
  (simS_seq (simS_set (i := 1) (simE_tup (simA_cons (simE_op2 simR2_ix simE_var (simE_c fun _ _ => .int _)) (simA_cons simE_var simA_nil))) simE_var)
  (simS_ret simE_var))) simS_next)
  (simS_ret (simE_tup (simA_cons (simE_op2 simR2_ix (simE_op2 simR2_ix simE_var simE_var) (simE_c fun _ _ => .int _)) (simA_cons simE_var simA_nil))))))

def t_walk (K : PySem.W.Frag) : TS := (tSeq (tPar 2 3 (tCons (tOp (rMulU K) (tLst (tCons (tC .non) tNil)) (tCB (rLenU K) (tCons (tOp (rIx K) (tVar 0) (tC (.int 0))) tNil))) (tCons (tLst tNil) tNil)))
  (tSeq (tFor (iSeq K (tVar 1)) (gTup K 2 (gCons (gName 4) (gCons (gName 5) gNil))) (tDrop (tBM K "list" rAppend (tVar 3) (tCons (tCall (spD (ct_ask 9)) [] E0 (tCons (tVar 0) (tCons (tVar 2) (tCons (tVar 4) (tCons (tOp (rIx K) (tOp (rIx K) (tVar 0) (tC (.int 1))) (tVar 5)) tNil))))) tNil))))
  (tRet (tTup (tCons (tVar 3) (tCons (tVar 2) tNil))))))

def d_walk : DS := (dSeq (dSeq (dAsgO (dOp2 oMul (dLst (dCons (dC .none) dNil)) (dCB oLen (dCons (dOp2 oIx (dVar 0) (dC (.int 0))) dNil))) 2) (dAsgO (dLst dNil) 3))
  (dSeq (dFor (dSeqI (dVar 1)) (dgTup 2 (dgCons (dgName 4) (dgCons (dgName 5) dgNil))) (dAppS 3 (dCallIO (ct_ask 9) 1 (dCons (dVar 0) (dCons (dVar 2) (dCons (dVar 4) (dCons (dOp2 oIx (dOp2 oIx (dVar 0) (dC (.int 1))) (dVar 5)) dNil)))))))
  (dRet (dTup (dCons (dVarR 3) (dCons (dVarR 2) dNil))))))

theorem sim_walk {K : PySem.W.Frag} : SimS (t_walk K) d_walk := (simS_seq (simS_par (simS_seq (simS_asgO (i := 2) (simE_op2 simR2_mul (simE_lst (simA_cons (simE_c fun _ _ => .non) simA_nil)) (simE_cb simRN_len (simA_cons (simE_op2 simR2_ix simE_var (simE_c fun _ _ => .int _)) simA_nil)))) (simS_asgO (i := 3) (simE_lst simA_nil))) (ind_lst ind_nil))
  (simS_seq (simS_for (simI_seq simE_var) (simG_tup (simGs_cons simG_name (simGs_cons simG_name simGs_nil))) (simS_app (simE_callIO (k := 1) rfl (simA_cons simE_var (simA_cons simE_var (simA_cons simE_var (simA_cons (simE_op2 simR2_ix (simE_op2 simR2_ix simE_var (simE_c fun _ _ => .int _)) simE_var) simA_nil)))))))
  (simS_ret (simE_tup (simA_cons simE_varR (simA_cons simE_varR simA_nil))))))

theorem law_empty (ds : List PyData) (Z : Rs → PyData → Prop) (hl : ds.length = ct_empty.n) (h : ct_empty.pre ds Z) : d_empty (endsD ct_empty.io Z) (startD 1 ct_empty.io ds) := by
  obtain ⟨r, rfl, hn, hZ⟩ := h
  show d_empty (endsD none Z) [some (.fz (rowD r))]
  unfold rowD intsT natsT d_empty
  walk_at "d"
  refine ⟨by omega, by omega, ?_⟩
  have e : (List.replicate r.ls.length [PyData.none]).flatten = (empt r).map entD := by
    unfold empt
    rw [List.map_replicate]
    rw [rep1]
    rfl
  rw [e]
  exact hZ
theorem law_read (ds : List PyData) (Z : Rs → PyData → Prop) (hl : ds.length = ct_read.n) (h : ct_read.pre ds Z) : d_read (endsD ct_read.io Z) (startD 9 ct_read.io ds) := by
  obtain ⟨r, es, t, c, p, rfl, h1, h2, h3, h4, hZ⟩ := h
  show d_read (endsD none Z) [some (.fz (rowD r)), some (.fz (.tuple (es.map entD))), some (.fz (.int t)), some (.fz (.int (c : Int))), none, none, none, none, none]
  unfold rowD intsT natsT d_read
  walk_at "d"
  refine ⟨_, atI_map h1, ?_⟩
  obtain ⟨a1, a2, a3, a4, a5, a6⟩ := ask_src (t := t) h3.symm h2
  revert a1 a2 a3 a4 a5 a6 hZ
  generalize (ask r.ls es t p).1.2 = s
  generalize (ask r.ls es t p).1.1 = a
  generalize (ask r.ls es t p).2 = es'
  intro hZ a1 a2 a3 a4 a5 a6
  refine dWhile_seq (fun k => [some (Sl.fz (PyData.tuple [PyData.tuple (List.map PyData.int r.ls), PyData.tuple (List.map (fun n : Nat => PyData.int (n : Int)) r.ps)])), some (Sl.fz (PyData.tuple (List.map entD es))), some (Sl.fz (PyData.int t)), some (Sl.fz (PyData.int (c : Int))), some (Sl.fz (PyData.tuple (List.map PyData.int r.ls))),
      some (Sl.fz (PyData.tuple (List.map (fun n : Nat => PyData.int (n : Int)) r.ps))), some (Sl.fz (PyData.int ((p + k : Nat) : Int))), none, none]) (s - p) rfl (fun k hk W hW => ?_) fun W => ?_
  · obtain ⟨l, h, e1, e2, e3⟩ := a3 (p + k) (by omega) (by omega)
    walk_at "d"
    rw [if_pos (decide_eq_true (by omega))]
    refine ⟨_, atI_map e2, ?_⟩
    rcases fresh_none e3 with e | ⟨x, y, e, hxy⟩
    · subst e
      simp only [entD]
      walk_at "d"
      exact hW
    · subst e
      simp only [entD]
      walk_at "d"
      refine ⟨_, atI_map e2, ?_⟩
      simp only [entD]
      walk_at "d"
      refine ⟨_, atI_map e1, ?_⟩
      walk_at "d"
      rw [if_pos (decide_eq_true (by omega))]
      exact hW
  · have eps : p + (s - p) = s := by omega
    walk_at "d"
    rw [eps]
    by_cases hs : s < r.ls.length
    rw [if_pos (decide_eq_true (by omega))]
    obtain ⟨l, h, e1, e2, e3⟩ := a5 hs
    obtain ⟨y, rfl, hy⟩ := fresh_some e3
    refine ⟨_, atI_map e2, ?_⟩
    simp only [entD]
    walk_at "d"
    refine ⟨_, atI_map e2, ?_⟩
    simp only [entD]
    walk_at "d"
    refine ⟨_, atI_map e1, ?_⟩
    walk_at "d"
    rw [if_neg (by rw [decide_eq_false (by omega)]; exact Bool.false_ne_true)]
    rw [if_pos (decide_eq_true (by omega))]
    refine ⟨_, atI_map e2, ?_⟩
    simp only [entD]
    walk_at "d"
    rotate_left
    rw [if_neg (by rw [decide_eq_false (by omega)]; exact Bool.false_ne_true)]
    rw [if_neg (by rw [decide_eq_false (by omega)]; exact Bool.false_ne_true)]
    have ea := a4 (by omega)
    subst ea
    all_goals
      refine ⟨_, atI_map h1, ?_⟩
      walk_at "d"
      refine ⟨by omega, by omega, ?_⟩
      refine ⟨_, atI_map h1, ?_⟩
      walk_at "d"
      rw [cut_to _ (by simp; omega), cut_from, rep1, show ((s : Int) - (p : Int)).toNat = s - p by omega]
      refine ⟨by simp; omega, by simp; omega, ?_⟩
      rw [a6] at hZ
      simpa [entD] using hZ
theorem law_run (ds : List PyData) (Z : Rs → PyData → Prop) (hl : ds.length = ct_run.n) (h : ct_run.pre ds Z) : d_run (endsD ct_run.io Z) (startD 9 ct_run.io ds) := by
  obtain ⟨r, s, rfl, F, hZ⟩ := h
  show d_run (endsD none Z) [some (.fz (rowD r)), some (.fz (schD s)), none, none, none, none, none, none, none]
  unfold d_run
  walk_at "d"
  refine ⟨rfl, r, rfl, F.few, ?_⟩
  walk_at "d"
  unfold schD
  walk_at "d"
  refine loopD_inv (fun k ρ => ∃ a b c d, ρ = [some (.fz (rowD r)), some (.fz (.tuple (s.map tcD))), some (.fz (.tuple ((walk r (empt r) (s.take k)).2.map entD))), some (.ow (.list ((walk r (empt r) (s.take k)).1.map fun x => PyData.int x.1))), some (.ow (.list ((walk r (empt r) (s.take k)).1.map fun x => PyData.int (x.2 : Int)))), a, b, c, d])
    ⟨none, none, none, none, rfl⟩ (fun k x ρ W hx I hW => ?_) fun ρ I => ?_
  · obtain ⟨a, b, c, d, rfl⟩ := I
    obtain ⟨⟨t, cl⟩, hs, rfl⟩ := map_get hx
    rw [tcD_mk]
    walk_at "d"
    have hc := F.cl _ (get_mem hs)
    obtain ⟨p, hp⟩ := get_at hc
    have hk := get_lt hs
    have hlen := F.fewS
    have hw := walk_len r (s.take k) (empt r)
    have hk2 : (s.take k).length = k := by simp; omega
    refine ⟨rfl, r, (walk r (empt r) (s.take k)).2, t, cl, p, rfl, hp, F.inn p (get_mem hp), by rw [hw.2]; simp [empt], F.few, ?_⟩
    walk_at "d"
    refine ⟨⟨_, _, rfl, rfl, rfl⟩, by rw [hw.1]; omega, ⟨_, _, rfl, rfl, rfl⟩, by rw [hw.1]; omega, ?_⟩
    rw [take_snoc hs, walk_snoc, getD_of hp] at hW
    simp only [List.map_append, List.map_cons, List.map_nil] at hW
    exact hW _ ⟨_, _, _, _, rfl⟩
  · obtain ⟨a, b, c, d, rfl⟩ := I
    rw [List.length_map, List.take_length]
    walk_at "d"
    refine ⟨fun _ => trivial, ?_⟩
    have e1 : (answers r s).map PyData.int = (walk r (empt r) s).1.map fun x => PyData.int x.1 := by unfold answers; rw [List.map_map]; rfl
    have e2 : (sources r s).map natD = (walk r (empt r) s).1.map fun x => PyData.int (x.2 : Int) := by unfold sources; rw [List.map_map]; rfl
    rw [e1, e2] at hZ
    exact hZ
theorem law_answers (ds : List PyData) (Z : Rs → PyData → Prop) (hl : ds.length = ct_answers.n) (h : ct_answers.pre ds Z) : d_answers (endsD ct_answers.io Z) (startD 2 ct_answers.io ds) := by
  obtain ⟨r, s, rfl, F, hZ⟩ := h
  show d_answers (endsD none Z) [some (.fz (rowD r)), some (.fz (schD s))]
  unfold d_answers
  walk_at "d"
  exact ⟨rfl, r, s, rfl, F, hZ⟩
theorem law_sources (ds : List PyData) (Z : Rs → PyData → Prop) (hl : ds.length = ct_sources.n) (h : ct_sources.pre ds Z) : d_sources (endsD ct_sources.io Z) (startD 2 ct_sources.io ds) := by
  obtain ⟨r, s, rfl, F, hZ⟩ := h
  show d_sources (endsD none Z) [some (.fz (rowD r)), some (.fz (schD s))]
  unfold d_sources
  walk_at "d"
  refine ⟨rfl, r, s, rfl, F, ?_⟩
  walk_at "d"
  exact hZ
theorem law_entries (ds : List PyData) (Z : Rs → PyData → Prop) (hl : ds.length = ct_entries.n) (h : ct_entries.pre ds Z) : d_entries (endsD ct_entries.io Z) (startD 2 ct_entries.io ds) := by
  obtain ⟨r, s, rfl, F, hZ⟩ := h
  show d_entries (endsD none Z) [some (.fz (rowD r)), some (.fz (schD s))]
  unfold d_entries
  walk_at "d"
  refine ⟨rfl, r, s, rfl, F, ?_⟩
  walk_at "d"
  exact hZ
theorem law_draw (ds : List PyData) (Z : Rs → PyData → Prop) (hl : ds.length = ct_draw.n) (h : ct_draw.pre ds Z) : d_draw (endsD ct_draw.io Z) (startD 5 ct_draw.io ds) := by
  obtain ⟨tp, many, rfl, ⟨ns, i, n, rfl, hi, hn, hlen⟩, h1, h2, hZ⟩ := h
  show d_draw (endsD (some 0) Z) [some (.io (tapeD ns i n)), some (.fz (.int many)), none, none, none]
  unfold d_draw
  refine dSeq_by (fun ρ => ρ = [some (.io (tapeD ns i n)), some (.fz (.int many)), some (.fz (.int 2305843009213693951)), none, none]) (fun W hW => ?_) fun ρ e => ?_
  · walk_at "d"
    exact hW _ rfl
  subst e
  refine dSeq_by (fun ρ => ∃ (i' n' : Int) (c : Option Sl), 0 ≤ i' ∧ 0 ≤ n' ∧ ρ = [some (.io (tapeD ns i' n')), some (.fz (.int many)), some (.fz (.int 2305843009213693951)), c, none]) (fun W hW => ?_) fun ρ e => ?_
  · unfold tapeD
    simp only [dIfS]
    walk_at "e"
    by_cases hc : n < many
    · rw [if_pos (decide_eq_true hc)]
      refine dSeq_by (fun ρ => ρ = [some (.io (tapeD ns i n)), some (.fz (.int many)), some (.fz (.int 2305843009213693951)), some (.fz (.int 0)), none]) (fun W hW => ?_) fun ρ e => ?_
      · walk_at "d"
        exact hW _ rfl
      subst e
      refine dSeq_by (fun ρ => ∃ x : Int, ρ = [some (.io (tapeD ns i n)), some (.fz (.int many)), some (.fz (.int 2305843009213693951)), some (.fz (.int x)), none]) (fun W hW => ?_) fun ρ e => ?_
      · unfold tapeD at hW ⊢
        walk_at "d"
        by_cases hz : 0 < ns.length
        · rw [if_pos (decide_eq_true (by omega))]
          have hlt : (i % (ns.length : Int)).toNat < ns.length := by
            have := Int.emod_lt_of_pos i (show (0 : Int) < ns.length by omega)
            have := Int.emod_nonneg i (show (ns.length : Int) ≠ 0 by omega)
            omega
          obtain ⟨x, hx⟩ := get_at hlt
          have ei : i % (ns.length : Int) = (((i % (ns.length : Int)).toNat : Nat) : Int) := by
            have := Int.emod_nonneg i (show (ns.length : Int) ≠ 0 by omega)
            omega
          refine ⟨by omega, .int x, ?_, hW _ ⟨x, rfl⟩⟩
          rw [ei]
          exact atI_map hx
        · rw [if_neg (by rw [decide_eq_false (by omega)]; exact Bool.false_ne_true)]
          exact hW _ ⟨0, rfl⟩
      obtain ⟨x, rfl⟩ := e
      refine dSeq_by (fun ρ => ∃ y : Int, 0 ≤ y ∧ ρ = [some (.io (tapeD ns i n)), some (.fz (.int many)), some (.fz (.int 2305843009213693951)), some (.fz (.int y)), none]) (fun W hW => ?_) fun ρ e => ?_
      · unfold tapeD at hW ⊢
        simp only [dIfS]
        have big : ∀ (V : DEnv → Prop), (∀ y : Int, 0 ≤ y → V [some (.io (.list [.list (ns.map PyData.int), .int i, .int n])), some (.fz (.int many)), some (.fz (.int 2305843009213693951)), some (.fz (.int y)), none]) →
            dSeq (dAsg (dOp2 oMod (dOp2 oAdd (dVar 3) (dOp2 oMul (dC (.int 1000003)) (dOp2 oIx (dVar 0) (dC (.int 1))))) (dVar 2)) (dgName 3)) (dSeq (dAsg (dOp2 oMod (dOp2 oAdd (dOp2 oAdd (dOp2 oMul (dVar 3) (dVar 3)) (dOp2 oMul (dC (.int 1181783497276652981)) (dVar 3))) (dC (.int 2049848353892358983))) (dVar 2)) (dgName 3))
              (dAsg (dOp2 oMod (dOp2 oAdd (dOp2 oMul (dVar 3) (dVar 3)) (dC (.int 1442695040888963407))) (dVar 2)) (dgName 3))) { nx := V, rt := (endsD (some 0) Z).rt, bk := (endsD (some 0) Z).bk, ct := (endsD (some 0) Z).ct } [some (.io (.list [.list (ns.map PyData.int), .int i, .int n])), some (.fz (.int many)), some (.fz (.int 2305843009213693951)), some (.fz (.int x)), none] := fun V hV => by
          walk_at "d"
          have p0 := Int.emod_nonneg (x + 1000003 * i) (show (2305843009213693951 : Int) ≠ 0 by decide)
          have p1 := Int.emod_lt_of_pos (x + 1000003 * i) (show (0 : Int) < 2305843009213693951 by decide)
          revert p0 p1
          generalize (x + 1000003 * i) % 2305843009213693951 = x1
          intro p0 p1
          have q0 := Int.emod_nonneg (x1 * x1 + 1181783497276652981 * x1 + 2049848353892358983) (show (2305843009213693951 : Int) ≠ 0 by decide)
          have q1 := Int.emod_lt_of_pos (x1 * x1 + 1181783497276652981 * x1 + 2049848353892358983) (show (0 : Int) < 2305843009213693951 by decide)
          revert q0 q1
          generalize (x1 * x1 + 1181783497276652981 * x1 + 2049848353892358983) % 2305843009213693951 = x2
          intro q0 q1
          exact ⟨.inl (by decide), .inl (by omega), .inl (by decide), .inl (by omega), hV _ (Int.emod_nonneg _ (by decide))⟩
        walk_at "e"
        by_cases h3 : (ns.length : Int) ≤ i
        · rw [if_pos (decide_eq_true h3)]
          exact big _ fun y hy => hW _ ⟨y, hy, rfl⟩
        · rw [if_neg (by rw [decide_eq_false h3]; exact Bool.false_ne_true)]
          refine ⟨by decide, ?_⟩
          by_cases h4 : x < 10 ^ Int.toNat 18
          · rw [if_pos (decide_eq_true h4)]
            exact big _ fun y hy => hW _ ⟨y, hy, rfl⟩
          · rw [if_neg (by rw [decide_eq_false h4]; exact Bool.false_ne_true)]
            refine hW _ ⟨x, ?_, rfl⟩
            have : (0 : Int) ≤ 10 ^ Int.toNat 18 := by decide
            omega
      obtain ⟨y, hy, rfl⟩ := e
      unfold tapeD at hW ⊢
      walk_at "d"
      exact hW _ ⟨i + 1, y, _, by omega, hy, rfl⟩
    · rw [if_neg (by rw [decide_eq_false hc]; exact Bool.false_ne_true)]
      exact hW _ ⟨i, n, none, hi, hn, rfl⟩
  obtain ⟨i', n', c, hi', hn', rfl⟩ := e
  unfold tapeD
  walk_at "d"
  refine ⟨h1, ⟨h1, h2⟩, ?_⟩
  exact hZ _ _ (Int.emod_nonneg _ (by omega)) (Int.emod_lt_of_pos _ h1) ⟨ns, i', n' / many, rfl, hi', Int.ediv_nonneg hn' (by omega), hlen⟩
theorem likes_flat : ∀ (n : Nat) (d : PyData), Likes n d → Flat n d
  | 0, _, h => by simp [Likes] at h
  | n + 1, .list ds, h => by
    simp only [Flat]
    exact fun x hx => likes_flat n x ((by simpa [Likes] using h : ds.length ≤ 1000 ∧ ∀ x ∈ ds, Likes n x).2 x hx)
  | n + 1, .tuple ds, h => by
    simp only [Flat]
    exact fun x hx => likes_flat n x ((by simpa [Likes] using h : ds.length ≤ 1000 ∧ ∀ x ∈ ds, Likes n x).2 x hx)
  | n + 1, .none, _ => by simp [Flat]
  | n + 1, .bool _, _ => by simp [Flat]
  | n + 1, .int _, _ => by simp [Flat]
  | n + 1, .str _, h => by simp [Likes] at h
  | n + 1, .dict _, h => by simp [Likes] at h
theorem law_like (n : Nat) (ds : List PyData) (Z : Rs → PyData → Prop) (hl : ds.length = (ct_like (n + 1)).n) (h : (ct_like (n + 1)).pre ds Z) : d_like n (endsD (ct_like (n + 1)).io Z) (startD 3 (ct_like (n + 1)).io ds) := by
  obtain ⟨a, rfl, hA, hZ⟩ := h
  show d_like n (endsD none Z) [some (.fz a), some (.fz a), none]
  unfold d_like
  have sc : ∀ (a : PyData), Likes (n + 1) a → Flat (n + 1) a := likes_flat (n + 1)
  have small : ∀ (z : PyData), Flat (n + 1) z → (∀ ds, z ≠ .list ds) → (∀ ds, z ≠ .tuple ds) → Flat 1 z := fun z hz n1 n2 => by
    cases z with
    | list ds => exact (n1 ds rfl).elim
    | tuple ds => exact (n2 ds rfl).elim
    | str _ => simp [Flat] at hz
    | dict _ => simp [Flat] at hz
    | _ => simp [Flat]
  cases a with
  | list es =>
    obtain ⟨h1, h2⟩ : es.length ≤ 1000 ∧ ∀ x ∈ es, Likes n x := by simpa [Likes] using hA
    walk_at "d"
    unfold dLc
    walk_at "e"
    refine ⟨by omega, by omega, rfl, by rw [rngD_len]; omega, ?_⟩
    refine lcLoop_pure (fun _ => none) (fun x hx W hW => ?_) ?_
    · obtain ⟨i, hi, rfl⟩ := mem_rngD hx
      obtain ⟨y, hy⟩ := get_at hi
      walk_at "d"
      refine ⟨y, atI_n hy, y, atI_n hy, ?_⟩
      exact ⟨rfl, y, rfl, h2 y (get_mem hy), hW⟩
    · rw [fm_none]
      exact oEq_same (n := 1) (by decide) (by simp [Flat]) hZ
  | tuple es =>
    obtain ⟨h1, h2⟩ : es.length ≤ 1000 ∧ ∀ x ∈ es, Likes n x := by simpa [Likes] using hA
    walk_at "d"
    unfold dLc
    walk_at "e"
    refine ⟨by omega, by omega, rfl, by rw [rngD_len]; omega, ?_⟩
    refine lcLoop_pure (fun _ => none) (fun x hx W hW => ?_) ?_
    · obtain ⟨i, hi, rfl⟩ := mem_rngD hx
      obtain ⟨y, hy⟩ := get_at hi
      walk_at "d"
      refine ⟨y, atI_n hy, y, atI_n hy, ?_⟩
      exact ⟨rfl, y, rfl, h2 y (get_mem hy), hW⟩
    · rw [fm_none]
      exact oEq_same (n := 1) (by decide) (by simp [Flat]) hZ
  | none =>
    walk_at "d"
    exact oEq_same (n := 1) (by decide) (by simp [Flat]) hZ
  | bool b =>
    walk_at "d"
    exact hZ
  | int i =>
    walk_at "d"
    exact hZ
  | str _ => simp [Likes] at hA
  | dict _ => simp [Likes] at hA
theorem law_row (ds : List PyData) (Z : Rs → PyData → Prop) (hl : ds.length = ct_row.n) (h : ct_row.pre ds Z) : d_row (endsD ct_row.io Z) (startD 8 ct_row.io ds) := by
  obtain ⟨tp, c, l, k, rfl, T, hc0, hc1, hl0, hl1, hk0, hk1, hZ⟩ := h
  show d_row (endsD (some 0) Z) [some (.io tp), some (.fz (.int c)), some (.fz (.int l)), some (.fz (.int k)), none, none, none, none]
  unfold d_row
  refine dSeq_by (fun ρ => ∃ (tp : PyData) (w : Int), TapeOk tp ∧ 1 ≤ w ∧ ρ = [some (.io tp), some (.fz (.int c)), some (.fz (.int l)), some (.fz (.int k)), some (.fz (.int w)), none, none, none]) (fun W hW => ?_) fun ρ e => ?_
  · walk_at "d"
    refine ⟨rfl, tp, 3, rfl, T, by decide, by decide, fun r tp' h0 h1 T' => ?_⟩
    walk_at "d"
    have : r = 0 ∨ r = 1 ∨ r = 2 := by omega
    rcases this with rfl | rfl | rfl
    · exact ⟨_, atI_0, hW _ ⟨tp', 3, T', by decide, rfl⟩⟩
    · exact ⟨_, atI_1, hW _ ⟨tp', 9, T', by decide, rfl⟩⟩
    · exact ⟨_, atI_2, hW _ ⟨tp', l, T', hl0, rfl⟩⟩
  obtain ⟨tp, w, T, hw, rfl⟩ := e
  refine dSeq_by (fun ρ => ∃ (tp : PyData) (ns : List Int), TapeOk tp ∧ (ns.length : Int) ≤ c ∧ (∀ x ∈ ns, 1 ≤ x) ∧ (∀ x ∈ ns, x ≤ l) ∧ ρ = [some (.io tp), some (.fz (.int c)), some (.fz (.int l)), some (.fz (.int k)), some (.fz (.int w)), some (.fz (intsT ns)), none, none]) (fun W hW => ?_) fun ρ e => ?_
  · walk_at "d"
    unfold dLc
    walk_at "e"
    refine ⟨rfl, tp, c + 1, rfl, T, by omega, by omega, fun r tp' h0 h1 T' => ?_⟩
    walk_at "e"
    refine ⟨by omega, by omega, rfl, by rw [rngD_len]; omega, ?_⟩
    refine lcLoop_inv (fun j acc ρ => ∃ (tp : PyData) (ns : List Int), TapeOk tp ∧ ns.length = j ∧ (∀ x ∈ ns, 1 ≤ x) ∧ (∀ x ∈ ns, x ≤ l) ∧ acc = ns.map PyData.int ∧ ρ = [some (.io tp), some (.fz (.int c)), some (.fz (.int l)), some (.fz (.int k)), some (.fz (.int w)), none, none, none]) ⟨tp', [], T', rfl, by simp, by simp, rfl, rfl⟩ (fun j x acc ρ V hx I hV _ => ?_) fun acc ρ I => ?_
    · obtain ⟨tp, ns, T, hj, n1, n2, rfl, rfl⟩ := I
      walk_at "d"
      refine ⟨rfl, tp, _, rfl, T, by split <;> omega, by split <;> omega, fun r tp' h0 h1 T' => ?_⟩
      walk_at "d"
      refine hV _ _ ⟨tp', ns ++ [1 + r], T', by simp [hj], fun y hy => ?_, fun y hy => ?_, by simp, rfl⟩
      · rcases List.mem_append.mp hy with hy | hy
        · exact n1 y hy
        · rw [List.mem_singleton] at hy; omega
      · rcases List.mem_append.mp hy with hy | hy
        · exact n2 y hy
        · rw [List.mem_singleton] at hy
          split at h1 <;> omega
    · obtain ⟨tp, ns, T, hj, n1, n2, rfl, rfl⟩ := I
      rw [rngD_len] at hj
      walk_at "d"
      exact hW _ ⟨tp, ns, T, by omega, n1, n2, rfl⟩
  obtain ⟨tp, ns, T, n0, n1, n2, rfl⟩ := e
  refine dSeq_by (fun ρ => ρ = [some (.io tp), some (.fz (.int c)), some (.fz (.int l)), some (.fz (.int k)), some (.fz (.int w)), some (.fz (intsT ns)), some (.ow (.list [])), none]) (fun W hW => ?_) fun ρ e => ?_
  · walk_at "d"
    exact hW _ rfl
  subst e
  refine dSeq_by (fun ρ => ∃ (tp : PyData) (ps : List Nat) (o : Option Sl), TapeOk tp ∧ ps ≠ [] ∧ (ps.length : Int) ≤ k ∧ (∀ p ∈ ps, p ≤ ns.length) ∧ ρ = [some (.io tp), some (.fz (.int c)), some (.fz (.int l)), some (.fz (.int k)), some (.fz (.int w)), some (.fz (intsT ns)), some (.ow (.list (ps.map fun (p : Nat) => PyData.int (p : Int)))), o]) (fun W hW => ?_) fun ρ e => ?_
  · walk_at "d"
    refine ⟨rfl, tp, k, rfl, T, by omega, by omega, fun r tp' h0 h1 T' => ?_⟩
    walk_at "d"
    refine ⟨by omega, by omega, ?_⟩
    refine loopD_inv (fun j ρ => ∃ (tp : PyData) (ps : List Nat) (o : Option Sl), TapeOk tp ∧ ps.length = j ∧ (∀ p ∈ ps, p ≤ ns.length) ∧ ρ = [some (.io tp), some (.fz (.int c)), some (.fz (.int l)), some (.fz (.int k)), some (.fz (.int w)), some (.fz (intsT ns)), some (.ow (.list (ps.map fun (p : Nat) => PyData.int (p : Int)))), o]) ⟨tp', [], none, T', rfl, by simp, rfl⟩ (fun j x ρ V hx I hV => ?_) fun ρ I => ?_
    · obtain ⟨tp, ps, o, T, hj, hp, rfl⟩ := I
      have hjk := (rngD_at hx).1
      unfold intsT
      walk_at "d"
      refine ⟨⟨_, _, rfl, rfl, rfl⟩, rfl, tp, (ns.length : Int) + 1, rfl, T, by omega, by omega, fun r tp1 h0 h1 T1 => ?_⟩
      walk_at "d"
      refine ⟨rfl, tp1, 3, rfl, T1, by decide, by decide, fun r2 tp2 g0 g1 T2 => ?_⟩
      walk_at "d"
      have key : ∀ m : Nat, m ≤ ns.length → V [some (.io tp2), some (.fz (.int c)), some (.fz (.int l)), some (.fz (.int k)), some (.fz (.int w)), some (.fz (.tuple (ns.map PyData.int))), some (.ow (.list (ps.map (fun (p : Nat) => PyData.int (p : Int)) ++ [.int (m : Int)]))), some (.fz x)] := fun m hm => hV _ ⟨tp2, ps ++ [m], some (.fz x), T2, by simp [hj], fun y hy => by
        rcases List.mem_append.mp hy with hy | hy
        · exact hp y hy
        · rw [List.mem_singleton] at hy; omega, by simp [intsT]⟩
      by_cases hr : r2 < 1
      · rw [if_pos hr]
        have : r2 = 0 := by omega
        subst this
        refine ⟨_, atI_0, ?_⟩
        exact ⟨by omega, key 0 (Nat.zero_le _)⟩
      · rw [if_neg hr]
        refine ⟨_, atI_1, ?_⟩
        obtain ⟨m, rfl⟩ := Int.eq_ofNat_of_zero_le h0
        exact ⟨by omega, key m (by omega)⟩
    · obtain ⟨tp, ps, o, T, hj, hp, rfl⟩ := I
      rw [rngD_len] at hj
      exact hW _ ⟨tp, ps, o, T, by intro z; subst z; simp at hj; omega, by omega, hp, rfl⟩
  obtain ⟨tp, ps, o, T, p0, p1, p2, rfl⟩ := e
  walk_at "d"
  refine oSorted_nats fun qs hp hw => ?_
  unfold intsT
  walk_at "d"
  refine hZ ⟨ns, qs⟩ tp ⟨n0, n1, n2, ?_, ?_, fun p hq => p2 p (hp.mem_iff.mp hq), hw⟩ T
  · intro z
    have := hp.length_eq
    simp only at z
    rw [z] at this
    exact p0 (List.eq_nil_of_length_eq_zero this.symm)
  · simp only
    rw [hp.length_eq]
    exact p1
theorem law_schedule (ds : List PyData) (Z : Rs → PyData → Prop) (hl : ds.length = ct_schedule.n) (h : ct_schedule.pre ds Z) : d_schedule (endsD ct_schedule.io Z) (startD 7 ct_schedule.io ds) := by
  obtain ⟨tp, r, n, w, rfl, T, p0, p1, n0, n1, w0, w1, hZ⟩ := h
  have hp : 0 < r.ps.length := List.length_pos_iff.mpr p0
  show d_schedule (endsD (some 0) Z) [some (.io tp), some (.fz (rowD r)), some (.fz (.int n)), some (.fz (.int w)), none, none, none]
  unfold d_schedule
  walk_at "d"
  refine ⟨rfl, tp, 3, rfl, T, by decide, by decide, fun t tp1 t0 t1 T1 => ?_⟩
  walk_at "d"
  refine ⟨rfl, tp1, n + 1, rfl, T1, by omega, by omega, fun m tp2 m0 m1 T2 => ?_⟩
  walk_at "d"
  refine ⟨by omega, by omega, ?_⟩
  refine loopD_inv (fun j ρ => ∃ (tp : PyData) (s : Sch) (t : Int) (o : Option Sl), TapeOk tp ∧ s.length = j ∧ 0 ≤ t ∧ (∀ x ∈ s, x.2 < r.ps.length) ∧ (∀ x ∈ s, 0 ≤ x.1 ∧ x.1 ≤ t) ∧ s.Pairwise (fun x y => x.1 ≤ y.1) ∧ ρ = [some (.io tp), some (.fz (rowD r)), some (.fz (.int n)), some (.fz (.int w)), some (.fz (schD s)), some (.fz (.int t)), o])
    ⟨tp2, [], t, none, T2, rfl, t0, by simp, by simp, by simp, rfl⟩ (fun j x ρ V hx I hV => ?_) fun ρ I => ?_
  · obtain ⟨tp, s, t, o, T, hj, t0, c1, c2, c3, rfl⟩ := I
    have hjk := (rngD_at hx).1
    unfold rowD natsT schD
    walk_at "d"
    refine ⟨rfl, tp, r.ps.length, rfl, T, by omega, by omega, fun c tp1 d0 d1 T1 => ?_⟩
    walk_at "d"
    refine ⟨by omega, rfl, tp1, w, rfl, T1, by omega, by omega, fun q tp3 q0 q1 T3 => ?_⟩
    walk_at "d"
    obtain ⟨m, rfl⟩ := Int.eq_ofNat_of_zero_le d0
    refine hV _ ⟨tp3, s ++ [(t, m)], t + q, some (.fz x), T3, by simp [hj], by omega, fun y hy => ?_, fun y hy => ?_, ?_, by simp [schD, tcD, rowD, natsT]⟩
    · rcases List.mem_append.mp hy with hy | hy
      · exact c1 y hy
      · rw [List.mem_singleton] at hy; subst hy; simp only; omega
    · rcases List.mem_append.mp hy with hy | hy
      · have := c2 y hy; omega
      · rw [List.mem_singleton] at hy; subst hy; simp only; omega
    · rw [List.pairwise_append]
      refine ⟨c3, by simp, fun a ha b hb => ?_⟩
      rw [List.mem_singleton] at hb
      subst hb
      exact (c2 a ha).2
  · obtain ⟨tp, s, t, o, T, hj, t0, c1, c2, c3, rfl⟩ := I
    rw [rngD_len] at hj
    walk_at "d"
    exact hZ s tp ⟨by omega, c1, fun x hx => (c2 x hx).1, c3⟩ T
theorem law_near_schedule (ds : List PyData) (Z : Rs → PyData → Prop) (hl : ds.length = ct_near_schedule.n) (h : ct_near_schedule.pre ds Z) : d_near_schedule (endsD ct_near_schedule.io Z) (startD 8 ct_near_schedule.io ds) := by
  obtain ⟨tp, r, n, rfl, T, p0, p1, l0, l1, n0, n1, hZ⟩ := h
  have hp : 0 < r.ps.length := List.length_pos_iff.mpr p0
  show d_near_schedule (endsD (some 0) Z) [some (.io tp), some (.fz (rowD r)), some (.fz (.int n)), none, none, none, none, none]
  unfold d_near_schedule
  walk_at "d"
  refine ⟨rfl, tp, n + 1, rfl, T, by omega, by omega, fun m tp2 m0 m1 T2 => ?_⟩
  walk_at "d"
  refine ⟨by omega, by omega, ?_⟩
  refine loopD_inv (fun j ρ => ∃ (tp : PyData) (s : Sch) (t : Int) (o o2 : Option Sl), TapeOk tp ∧ s.length = j ∧ 0 ≤ t ∧ (∀ x ∈ s, x.2 < r.ps.length) ∧ (∀ x ∈ s, 0 ≤ x.1 ∧ x.1 ≤ t) ∧ s.Pairwise (fun x y => x.1 ≤ y.1) ∧ ρ = [some (.io tp), some (.fz (rowD r)), some (.fz (.int n)), some (.fz (schD s)), some (.fz (.int t)), o, o2, none])
    ⟨tp2, [], 0, none, none, T2, rfl, by decide, by simp, by simp, by simp, rfl⟩ (fun j x ρ V hx I hV => ?_) fun ρ I => ?_
  · obtain ⟨tp, s, t, o, o2, T, hj, t0, c1, c2, c3, rfl⟩ := I
    have hjk := (rngD_at hx).1
    refine dSeq_by (fun ρ => ∃ (tp : PyData) (m : Nat) (o : Option Sl), TapeOk tp ∧ m < r.ps.length ∧ ρ = [some (.io tp), some (.fz (rowD r)), some (.fz (.int n)), some (.fz (schD (s ++ [(t, m)]))), some (.fz (.int t)), o, o2, none]) (fun W hW => ?_) fun ρ e => ?_
    · unfold rowD natsT schD at hW ⊢
      walk_at "d"
      refine ⟨rfl, tp, r.ps.length, rfl, T, by omega, by omega, fun c tp1 d0 d1 T1 => ?_⟩
      walk_at "d"
      refine ⟨by omega, ?_⟩
      obtain ⟨m, rfl⟩ := Int.eq_ofNat_of_zero_le d0
      exact hW _ ⟨tp1, m, some (.fz x), T1, by omega, by simp [tcD]⟩
    obtain ⟨tp, c, o, T, hc, rfl⟩ := e
    refine dSeq_by (fun ρ => ρ = [some (.io tp), some (.fz (rowD r)), some (.fz (.int n)), some (.fz (schD (s ++ [(t, c)]))), some (.fz (.int t)), o, some (.fz (.list (([0, 1, 1] ++ r.ls.map (· - 1) ++ r.ls).map PyData.int))), none]) (fun W hW => ?_) fun ρ e => ?_
    · unfold rowD intsT at hW ⊢
      walk_at "d"
      unfold dLc
      walk_at "e"
      refine ⟨by simp [freeAt], by omega, ?_⟩
      refine lcLoop_map (fun d => match d with
        | .int i => .int (i - 1)
        | d => d) (fun x hx V hV => ?_) ?_
      · obtain ⟨i, hi, rfl⟩ := List.mem_map.mp hx
        walk_at "d"
        exact hV
      walk_at "e"
      refine ⟨by omega, by simp [freeAt], by omega, ?_⟩
      refine lcLoop_map (fun d => d) (fun x hx V hV => ?_) ?_
      · walk_at "d"
        exact hV
      walk_at "e"
      refine ⟨by omega, ?_⟩
      simp only [List.map_map, List.map_append, List.map_cons, List.map_nil, Function.comp_def, List.map_id'] at hW ⊢
      exact hW _ rfl
    subst e
    walk_at "d"
    refine ⟨rfl, tp, _, rfl, T, ?_, ?_, fun q tp3 q0 q1 T3 => ?_⟩
    · simp; omega
    · simp; omega
    walk_at "d"
    obtain ⟨k, rfl⟩ := Int.eq_ofNat_of_zero_le q0
    have hk : k < ([0, 1, 1] ++ r.ls.map (· - 1) ++ r.ls).length := by simp at q1 ⊢; omega
    obtain ⟨z, hz⟩ := get_at hk
    refine ⟨_, atI_map hz, ?_⟩
    have z0 : 0 ≤ z := by
      rcases List.mem_append.mp (get_mem hz) with h | h
      · rcases List.mem_append.mp h with h | h
        · simp at h; omega
        · obtain ⟨y, hy, rfl⟩ := List.mem_map.mp h
          have := l1 y hy
          omega
      · have := l1 z h
        omega
    walk_at "d"
    refine hV _ ⟨tp3, s ++ [(t, c)], t + z, _, _, T3, by simp [hj], by omega, fun y hy => ?_, fun y hy => ?_, ?_, rfl⟩
    · rcases List.mem_append.mp hy with hy | hy
      · exact c1 y hy
      · rw [List.mem_singleton] at hy; subst hy; exact hc
    · rcases List.mem_append.mp hy with hy | hy
      · have := c2 y hy; omega
      · rw [List.mem_singleton] at hy; subst hy; simp only; omega
    · rw [List.pairwise_append]
      refine ⟨c3, by simp, fun a ha b hb => ?_⟩
      rw [List.mem_singleton] at hb
      subst hb
      exact (c2 a ha).2
  · obtain ⟨tp, s, t, o, o2, T, hj, t0, c1, c2, c3, rfl⟩ := I
    rw [rngD_len] at hj
    walk_at "d"
    exact hZ s tp ⟨by omega, c1, fun x hx => (c2 x hx).1, c3⟩ T
theorem ask_stale {ls : List Int} {hs : List Ent} {t : Int} {i : Nat} {l : Int} {h : Ent} (h1 : ls[i]? = some l) (h2 : hs[i]? = some h) (h3 : fresh l h t = none) :
    (ask ls hs t i).1 = (ask ls hs t (i + 1)).1 ∧ (ask ls hs t i).2 = (ask ls hs t (i + 1)).2.set i (some ((ask ls hs t (i + 1)).1.1, t)) := by
  obtain ⟨a1, e1⟩ := List.getElem?_eq_some_iff.mp h1
  obtain ⟨a2, e2⟩ := List.getElem?_eq_some_iff.mp h2
  have d1 : ls.drop i = l :: ls.drop (i + 1) := by rw [List.drop_eq_getElem_cons a1, e1]
  have d2 : hs.drop i = h :: hs.drop (i + 1) := by rw [List.drop_eq_getElem_cons a2, e2]
  unfold ask
  rw [d1, d2]
  have e : askL (l :: ls.drop (i + 1)) (h :: hs.drop (i + 1)) t i = ((askL (ls.drop (i + 1)) (hs.drop (i + 1)) t (i + 1)).1, some ((askL (ls.drop (i + 1)) (hs.drop (i + 1)) t (i + 1)).1.1, t) :: (askL (ls.drop (i + 1)) (hs.drop (i + 1)) t (i + 1)).2) := by
    conv => lhs; unfold askL
    rw [h3]
  rw [e]
  refine ⟨rfl, ?_⟩
  simp only
  rw [List.take_add_one, h2]
  have hl : (hs.take i).length = i := by simp; omega
  rw [List.append_assoc, List.set_append_right _ _ (by omega), hl, Nat.sub_self]
  rfl
theorem ask_fresh {ls : List Int} {hs : List Ent} {t : Int} {i : Nat} {l a : Int} {h : Ent} (h1 : ls[i]? = some l) (h2 : hs[i]? = some h) (h3 : fresh l h t = some a) : ask ls hs t i = ((a, i), hs) := by
  obtain ⟨a1, e1⟩ := List.getElem?_eq_some_iff.mp h1
  obtain ⟨a2, e2⟩ := List.getElem?_eq_some_iff.mp h2
  have d1 : ls.drop i = l :: ls.drop (i + 1) := by rw [List.drop_eq_getElem_cons a1, e1]
  have d2 : hs.drop i = h :: hs.drop (i + 1) := by rw [List.drop_eq_getElem_cons a2, e2]
  unfold ask
  rw [d1, d2]
  have e : askL (l :: ls.drop (i + 1)) (h :: hs.drop (i + 1)) t i = ((a, i), h :: hs.drop (i + 1)) := by
    conv => lhs; unfold askL
    rw [h3]
  rw [e]
  simp only
  rw [← d2, List.take_append_drop]
theorem ask_top {ls : List Int} {hs : List Ent} {t : Int} (hl : hs.length = ls.length) : ask ls hs t ls.length = ((t, ls.length), hs) := by
  unfold ask
  rw [List.drop_length, ← hl, List.drop_length, List.take_length]
  simp [askL]
theorem law_ask (n : Nat) (ds : List PyData) (Z : Rs → PyData → Prop) (hl : ds.length = (ct_ask (n + 1)).n) (h : (ct_ask (n + 1)).pre ds Z) : d_ask n (endsD (ct_ask (n + 1)).io Z) (startD 5 (ct_ask (n + 1)).io ds) := by
  obtain ⟨r, hs, t, i, rfl, h1, h2, h3, h4, hZ⟩ := h
  show d_ask n (endsD (some 1) Z) [some (.fz (rowD r)), some (.io (.list (hs.map entD))), some (.fz (.int t)), some (.fz (.int (i : Int))), none]
  unfold d_ask rowD intsT natsT
  walk_at "d"
  by_cases hi : i = r.ls.length
  · rw [if_pos (decide_eq_true (by omega))]
    subst hi
    rw [ask_top h3] at hZ
    exact hZ
  · rw [if_neg (by rw [decide_eq_false (by omega)]; exact Bool.false_ne_true)]
    have hlt : i < r.ls.length := by omega
    obtain ⟨l, el⟩ := get_at hlt
    obtain ⟨h, eh⟩ := get_at (show i < hs.length by omega)
    refine ⟨_, atI_map eh, ?_⟩
    cases hf : fresh l h t with
    | some a =>
      obtain ⟨y, rfl, hy⟩ := fresh_some hf
      rw [ask_fresh el eh hf] at hZ
      rw [entD_some]
      walk_at "d"
      refine ⟨_, atI_map eh, ?_⟩
      rw [entD_some]
      walk_at "d"
      refine ⟨_, atI_map el, ?_⟩
      walk_at "d"
      rw [if_neg (by rw [decide_eq_false (by omega)]; exact Bool.false_ne_true)]
      refine ⟨_, atI_map eh, ?_⟩
      rw [entD_some]
      walk_at "d"
      exact hZ
    | none =>
      obtain ⟨s1, s2⟩ := ask_stale el eh hf
      have hlen : (ask r.ls hs t (i + 1)).2.length = r.ls.length := by rw [ask_len, h3]
      rw [s1, s2] at hZ
      revert hZ hlen
      generalize hq : ask r.ls hs t (i + 1) = q
      intro hZ hlen
      rcases fresh_none hf with e | ⟨x, y, e, hxy⟩
      · subst e
        rw [entD_none]
        walk_at "d"
        refine ⟨rfl, r, hs, t, i + 1, rfl, by omega, by omega, h3, h4, ?_⟩
        rw [hq]
        unfold ansD
        walk_at "d"
        refine ⟨i, ixN_n (by rw [hlen]; exact hlt), ?_⟩
        rw [List.map_set] at hZ
        exact hZ
      · subst e
        rw [entD_some]
        walk_at "d"
        refine ⟨_, atI_map eh, ?_⟩
        rw [entD_some]
        walk_at "d"
        refine ⟨_, atI_map el, ?_⟩
        walk_at "d"
        rw [if_pos (decide_eq_true (by omega))]
        refine ⟨rfl, r, hs, t, i + 1, rfl, by omega, by omega, h3, h4, ?_⟩
        rw [hq]
        unfold ansD
        walk_at "d"
        refine ⟨i, ixN_n (by rw [hlen]; exact hlt), ?_⟩
        rw [List.map_set] at hZ
        exact hZ
theorem law_walk (ds : List PyData) (Z : Rs → PyData → Prop) (hl : ds.length = ct_walk.n) (h : ct_walk.pre ds Z) : d_walk (endsD ct_walk.io Z) (startD 6 ct_walk.io ds) := by
  obtain ⟨r, s, rfl, F, h8, hZ⟩ := h
  show d_walk (endsD none Z) [some (.fz (rowD r)), some (.fz (schD s)), none, none, none, none]
  unfold d_walk
  refine dSeq_by (fun ρ => ρ = [some (.fz (rowD r)), some (.fz (schD s)), some (.ow (.list ((empt r).map entD))), some (.ow (.list [])), none, none]) (fun W hW => ?_) fun ρ e => ?_
  · unfold rowD intsT natsT at hW ⊢
    walk_at "d"
    refine ⟨by omega, by omega, ?_⟩
    rw [rep1]
    have e : (empt r).map entD = List.replicate r.ls.length PyData.none := by
      unfold empt
      rw [List.map_replicate]
      rfl
    rw [e] at hW
    exact hW _ rfl
  subst e
  unfold schD
  walk_at "d"
  refine loopD_inv (fun k ρ => ∃ a b, ρ = [some (.fz (rowD r)), some (.fz (.tuple (s.map tcD))), some (.ow (.list ((walk r (empt r) (s.take k)).2.map entD))), some (.ow (.list ((walk r (empt r) (s.take k)).1.map ansD))), a, b])
    ⟨none, none, rfl⟩ (fun k x ρ W hx I hW => ?_) fun ρ I => ?_
  · obtain ⟨a, b, rfl⟩ := I
    obtain ⟨⟨t, cl⟩, hs, rfl⟩ := map_get hx
    have hc := F.cl _ (get_mem hs)
    obtain ⟨p, hp⟩ := get_at hc
    have hk := get_lt hs
    have hlen := F.fewS
    have hw := walk_len r (s.take k) (empt r)
    have hk2 : (s.take k).length = k := by simp; omega
    rw [take_snoc hs, walk_snoc, getD_of hp] at hW
    simp only [List.map_append, List.map_cons, List.map_nil] at hW
    rw [tcD_mk]
    unfold rowD intsT natsT at hW ⊢
    walk_at "d"
    refine ⟨⟨_, _, rfl, rfl, rfl⟩, _, atI_map hp, ?_⟩
    refine ⟨rfl, r, (walk r (empt r) (s.take k)).2, t, p, rfl, F.inn p (get_mem hp), by omega, by rw [hw.2]; simp [empt], F.few, ?_⟩
    exact ⟨_, rfl, by rw [hw.1]; omega, hW _ ⟨_, _, rfl⟩⟩
  · obtain ⟨a, b, rfl⟩ := I
    rw [List.length_map, List.take_length]
    walk_at "d"
    exact ⟨fun _ => trivial, fun _ => trivial, hZ⟩
end St
set_option Elab.async false
set_option linter.all false
set_option maxRecDepth 100000
set_option maxHeartbeats 4000000
namespace St
open PySem L2 Dl
/-! the data reading unfolded as far as it goes -/
local macro_rules | `(tactic| walk_at "d") => `(tactic| simp (config := { decide := false }) only [dSeq, dAsg, dAsgO, dAppS, dApp, dSetS, dSet, dAug, dRet, dRetN, dDrop, dDPut, dDGet2, dDNewK, dDNewT, dIfS, dFor, dNext, dBreak, dCont, dOp1, dOp2, dTup, dLst, dCons, dNil, dC, dCB, dVar, dVarR, dIfE, dTest, dAnd, dOr, dNot, dAndV, dOrV, dNotV, dChain, dCall, dCallL, dCallIO, dIsi, dSl, dPart, dNoPart, dSeqI, dRng1, dRng2, dDGet2, dDNewK, dDNewT, dRng3, dEnum, dZip, stoAll, itemsD, Option.some.injEq, exists_eq_left', dYes, dIx0, dRetT, dgName, dgTup, dgCons, dgNil, oFdiv, oMod, oPow, oLt, oLe, oGt, oGe, cmpD,
  wipeD, restD, Option.getD_some, Option.getD_none, Int.zero_add, Int.toNat_natCast, isi_lt_lst, isi_lt_tup, isi_lt_non, isi_lt_bl, isi_lt_int, isi_lt_str, isi_int_non, isi_int_bl, isi_int_int, isi_int_str, isi_int_lst, isi_int_tup, isi_bl_non, isi_bl_bl, isi_bl_int, isi_bl_str, isi_bl_lst, isi_bl_tup, isi_tup_non, isi_tup_bl, isi_tup_int, isi_tup_str, isi_tup_lst, isi_tup_tup, oEq_int, oNe_int, oEq_bl, oNe_bl, eq_self, decide_true, ixN_31, ixN_32, atI_0, atI_1, atI_2, atI_3, oIx_tup, oIx_lst, oLen_tup, oLen_lst, oListOf_tup, oListOf_lst, oTupOf_tup, oTupOf_lst, oAdd_int, oAdd_tup, oAdd_lst, oMul_int, oMul_tup, oMul_lst, dI0_int, dI_int, oIs_non, oIs_bl, isN_non, isN_int, isN_tup, isN_lst, isN_bl, oNeg_int, oMin2_int, oMax2_int, oInt_int, oInt_bl, oSl_tup, oSl_lst, ends_fz, ends_nw, ends_np, ends_nx, ends_br, ends_fzi, ends_nwi, ends_bri, retD_br,
  List.getElem?_cons_zero, List.getElem?_cons_succ, List.set_cons_zero, List.set_cons_succ, List.length_cons, List.length_nil, List.length_map, List.map_cons, List.map_nil, List.length_append, dat_fz, dat_nw, dat_br, dat_np, sto_fz, sto_nw, sto_np, sto_br, stoAll, datAt, Sl.dat, Sl.own, Sl.with, ioSlot, stoBut, if_true, true_and, and_true, reduceCtorEq, Option.some.injEq, PyData.int.injEq, PyData.tuple.injEq, PyData.list.injEq, PyData.bool.injEq,  exists_eq_left', exists_eq_left, Bool.true_eq_false, Bool.false_eq_true, if_false, Bool.true_xor, Bool.false_xor, Bool.not_true, Bool.not_false,
  Nat.reduceAdd, Nat.reduceLeDiff, Nat.reduceEqDiff, Nat.reduceLT, Int.reduceNeg, Int.reduceLE, Int.reduceLT, Nat.zero_le, ne_eq, not_false_eq_true, List.cons_ne_nil, not_true_eq_false])
local macro_rules | `(tactic| walk_at "e") => `(tactic| simp (config := { decide := false }) only [dOp1, dOp2, dTup, dLst, dCons, dNil, dC, dCB, dVar, dVarR, dIfE, dTest, dAnd, dOr, dNot, dAndV, dOrV, dNotV, dChain, dCall, dCallL, dCallIO, dIsi, dSl, dPart, dNoPart, dSeqI, dRng1, dRng2, dDGet2, dDNewK, dDNewT, dRng3, dEnum, dZip, stoAll, itemsD, Option.some.injEq, exists_eq_left', dYes, dIx0, oFdiv, oMod, oPow, oLt, oLe, oGt, oGe, cmpD,
  wipeD, restD, Option.getD_some, Option.getD_none, Int.zero_add, Int.toNat_natCast, isi_lt_lst, isi_lt_tup, isi_lt_non, isi_lt_bl, isi_lt_int, isi_lt_str, isi_int_non, isi_int_bl, isi_int_int, isi_int_str, isi_int_lst, isi_int_tup, isi_bl_non, isi_bl_bl, isi_bl_int, isi_bl_str, isi_bl_lst, isi_bl_tup, isi_tup_non, isi_tup_bl, isi_tup_int, isi_tup_str, isi_tup_lst, isi_tup_tup, oEq_int, oNe_int, oEq_bl, oNe_bl, eq_self, decide_true, ixN_31, ixN_32, atI_0, atI_1, atI_2, atI_3, oIx_tup, oIx_lst, oLen_tup, oLen_lst, oListOf_tup, oListOf_lst, oTupOf_tup, oTupOf_lst, oAdd_int, oAdd_tup, oAdd_lst, oMul_int, oMul_tup, oMul_lst, dI0_int, dI_int, oIs_non, oIs_bl, isN_non, isN_int, isN_tup, isN_lst, isN_bl, oNeg_int, oMin2_int, oMax2_int, oInt_int, oInt_bl, oSl_tup, oSl_lst, ends_fz, ends_nw, ends_np, ends_nx, ends_br, ends_fzi, ends_nwi, ends_bri, retD_br,
  List.getElem?_cons_zero, List.getElem?_cons_succ, List.set_cons_zero, List.set_cons_succ, List.length_cons, List.length_nil, List.length_map, List.map_cons, List.map_nil, List.length_append, dat_fz, dat_nw, dat_br, dat_np, sto_fz, sto_nw, sto_np, sto_br, stoAll, datAt, Sl.dat, Sl.own, Sl.with, ioSlot, stoBut, if_true, true_and, and_true, reduceCtorEq, Option.some.injEq, PyData.int.injEq, PyData.tuple.injEq, PyData.list.injEq, PyData.bool.injEq,  exists_eq_left', exists_eq_left, Bool.true_eq_false, Bool.false_eq_true, if_false, Bool.true_xor, Bool.false_xor, Bool.not_true, Bool.not_false,
  Nat.reduceAdd, Nat.reduceLeDiff, Nat.reduceEqDiff, Nat.reduceLT, Int.reduceNeg, Int.reduceLE, Int.reduceLT, Nat.zero_le, ne_eq, not_false_eq_true, List.cons_ne_nil, not_true_eq_false])
def ct_lanswers : CT := CT.mk 2 none fun ds Z => ∃ (r : Row) (s : Sch), ds = [rowD r, schD s] ∧ Fit r s ∧ r.ls.length ≤ 8 ∧ Z (.nw (.list ((answers r s).map PyData.int))) .none
theorem nob_ints (n : Nat) (xs : List Int) : Nob (n + 1) (.list (xs.map PyData.int)) := by
  simp only [Nob]
  intro x hx
  obtain ⟨i, _, rfl⟩ := List.mem_map.mp hx
  simp [Nob]
theorem ints_inj {xs ys : List Int} : (PyData.list (xs.map PyData.int) = .list (ys.map PyData.int)) ↔ xs = ys :=
  ⟨fun h => by
    injection h with h
    exact (List.map_inj_right (fun a b e => by injection e)).mp h, fun h => by rw [h]⟩
theorem nob_tc (n : Nat) (x : Int × Nat) : Nob (n + 1) (tcD x) := by
  simp only [tcD, Nob]
  intro y hy
  rcases List.mem_cons.mp hy with rfl | hy
  · simp [Nob]
  · rw [List.mem_singleton] at hy; subst hy; simp [Nob]
theorem tc_inj {x y : Int × Nat} : tcD x = tcD y ↔ x = y :=
  ⟨fun h => by
    obtain ⟨a, b⟩ := x
    obtain ⟨c, d⟩ := y
    simp [tcD] at h
    obtain ⟨rfl, h⟩ := h
    have : b = d := by omega
    rw [this], fun h => by rw [h]⟩
theorem likes_tc (n : Nat) (x : Int × Nat) : Likes (n + 2) (tcD x) := by
  obtain ⟨a, b⟩ := x
  simp only [tcD, Likes]
  exact ⟨by simp, fun x hx => by
    rcases List.mem_cons.mp hx with rfl | hx
    · trivial
    · rw [List.mem_singleton] at hx; subst hx; trivial⟩
theorem likes_tcs (n : Nat) (xs : List (Int × Nat)) (h : xs.length ≤ 1000) : Likes (n + 3) (.list (xs.map tcD)) := by
  simp only [Likes, List.length_map]
  refine ⟨h, fun x hx => ?_⟩
  obtain ⟨i, _, rfl⟩ := List.mem_map.mp hx
  exact likes_tc n i
theorem answers_len (r : Row) (s : Sch) : (answers r s).length = s.length := by
  unfold answers
  rw [List.length_map, (walk_len r s (empt r)).1]
theorem filt_snoc {α : Type} (p : α → Bool) (l : List α) (x : α) : (l ++ [x]).filter p = if p x then l.filter p ++ [x] else l.filter p := by
  rw [List.filter_append]
  by_cases h : p x
  · rw [if_pos h, List.filter_cons_of_pos h]; rfl
  · rw [if_neg h, List.filter_cons_of_neg h, List.filter_nil, List.append_nil]
theorem RowIn.fit {c l k n : Int} {r : Row} {s : Sch} (h : RowIn c l k r) (hc : c ≤ 8) (hs : SchIn n r s) (hn : n ≤ 100) : Fit r s :=
  ⟨by have := h.ls; omega, h.inn, by have := hs.few; omega, hs.cl⟩
theorem likes_ints (n : Nat) (ns : List Int) (h : ns.length ≤ 1000) : Likes (n + 2) (.list (ns.map PyData.int)) := by
  simp only [Likes, List.length_map]
  refine ⟨h, fun x hx => ?_⟩
  obtain ⟨i, _, rfl⟩ := List.mem_map.mp hx
  trivial
theorem likes_nats (n : Nat) (ns : List Nat) (h : ns.length ≤ 1000) : Likes (n + 2) (.list (ns.map natD)) := by
  simp only [Likes, List.length_map]
  refine ⟨h, fun x hx => ?_⟩
  obtain ⟨i, _, rfl⟩ := List.mem_map.mp hx
  trivial
theorem likes_ent (n : Nat) (e : Ent) : Likes (n + 2) (entD e) := by
  cases e with
  | none => trivial
  | some q =>
    obtain ⟨a, b⟩ := q
    simp only [entD, Likes]
    exact ⟨by simp, fun x hx => by
      rcases List.mem_cons.mp hx with rfl | hx
      · trivial
      · rw [List.mem_singleton] at hx; subst hx; trivial⟩
theorem likes_ents (n : Nat) (es : List Ent) (h : es.length ≤ 1000) : Likes (n + 3) (.list (es.map entD)) := by
  simp only [Likes, List.length_map]
  refine ⟨h, fun x hx => ?_⟩
  obtain ⟨i, _, rfl⟩ := List.mem_map.mp hx
  exact likes_ent n i
abbrev OFz (o : Option Sl) : Prop := o = none ∨ ∃ d, o = some (.fz d)
def t_lanswers (K : PySem.W.Frag) : TS := (tRet (tLc (iSeq K (tOp (rIx K) (tCall (spD ct_walk) [] E0 (tCons (tVar 0) (tCons (tVar 1) tNil))) (tC (.int 0)))) (gName 2) tYes (tOp (rIx K) (tVar 2) (tC (.int 0))) [2]))

def d_lanswers : DS := (dRet (dLc (dSeqI (dOp2 oIx (dCall ct_walk (dCons (dVar 0) (dCons (dVar 1) dNil))) (dC (.int 0)))) (dgName 2) dYes (dOp2 oIx (dVar 2) (dC (.int 0))) [2]))

theorem sim_lanswers {K : PySem.W.Frag} : SimS (t_lanswers K) d_lanswers := (simS_ret (simE_lc (simI_seq (simE_op2 simR2_ix (simE_call rfl (simA_cons simE_var (simA_cons simE_var simA_nil))) (simE_c fun _ _ => .int _))) simG_name (tg_name (by decide)) simT_yes (simE_op2 simR2_ix simE_var (simE_c fun _ _ => .int _))))

theorem law_lanswers (ds : List PyData) (Z : Rs → PyData → Prop) (hl : ds.length = ct_lanswers.n) (h : ct_lanswers.pre ds Z) : d_lanswers (endsD ct_lanswers.io Z) (startD 3 ct_lanswers.io ds) := by
  obtain ⟨r, s, rfl, F, h8, hZ⟩ := h
  show d_lanswers (endsD none Z) [some (.fz (rowD r)), some (.fz (schD s)), none]
  have hw := walk_len r s (empt r)
  have hlen := F.fewS
  unfold d_lanswers
  simp only [dRet]
  unfold dLc
  walk_at "e"
  refine ⟨rfl, r, s, rfl, F, h8, ?_⟩
  walk_at "e"
  refine ⟨by simp [freeAt], by rw [hw.1]; omega, ?_⟩
  refine lcLoop_map (fun d => match d with
    | .tuple (x :: _) => x
    | d => d) (fun x hx V hV => ?_) ?_
  · obtain ⟨⟨i, j⟩, hi, rfl⟩ := List.mem_map.mp hx
    unfold ansD at hV ⊢
    walk_at "d"
    exact hV
  · have e1 : (answers r s).map PyData.int = ((walk r (empt r) s).1.map ansD).map (fun d => match d with
      | .tuple (x :: _) => x
      | d => d) := by
      unfold answers ansD
      rw [List.map_map, List.map_map]
      rfl
    rw [e1] at hZ
    exact hZ
end St
set_option Elab.async false
set_option linter.all false
set_option maxRecDepth 100000
set_option maxHeartbeats 4000000
namespace St
open PySem L2 Dl
/-! the data reading unfolded as far as it goes -/
local macro_rules | `(tactic| walk_at "d") => `(tactic| simp (config := { decide := false }) only [dSeq, dAsg, dAsgO, dAppS, dApp, dSetS, dSet, dAug, dRet, dRetN, dDrop, dDPut, dDGet2, dDNewK, dDNewT, dIfS, dFor, dNext, dBreak, dCont, dOp1, dOp2, dTup, dLst, dCons, dNil, dC, dCB, dVar, dVarR, dIfE, dTest, dAnd, dOr, dNot, dAndV, dOrV, dNotV, dChain, dCall, dCallL, dCallIO, dIsi, dSl, dPart, dNoPart, dSeqI, dRng1, dRng2, dDGet2, dDNewK, dDNewT, dRng3, dEnum, dZip, stoAll, itemsD, Option.some.injEq, exists_eq_left', dYes, dIx0, dRetT, dgName, dgTup, dgCons, dgNil, oFdiv, oMod, oPow, oLt, oLe, oGt, oGe, cmpD,
  wipeD, restD, Option.getD_some, Option.getD_none, Int.zero_add, Int.toNat_natCast, isi_lt_lst, isi_lt_tup, isi_lt_non, isi_lt_bl, isi_lt_int, isi_lt_str, isi_int_non, isi_int_bl, isi_int_int, isi_int_str, isi_int_lst, isi_int_tup, isi_bl_non, isi_bl_bl, isi_bl_int, isi_bl_str, isi_bl_lst, isi_bl_tup, isi_tup_non, isi_tup_bl, isi_tup_int, isi_tup_str, isi_tup_lst, isi_tup_tup, oEq_int, oNe_int, oEq_bl, oNe_bl, eq_self, decide_true, ixN_31, ixN_32, atI_0, atI_1, atI_2, atI_3, oIx_tup, oIx_lst, oLen_tup, oLen_lst, oListOf_tup, oListOf_lst, oTupOf_tup, oTupOf_lst, oAdd_int, oAdd_tup, oAdd_lst, oMul_int, oMul_tup, oMul_lst, dI0_int, dI_int, oIs_non, oIs_bl, isN_non, isN_int, isN_tup, isN_lst, isN_bl, oNeg_int, oMin2_int, oMax2_int, oInt_int, oInt_bl, oSl_tup, oSl_lst, ends_fz, ends_nw, ends_np, ends_nx, ends_br, ends_fzi, ends_nwi, ends_bri, retD_br,
  List.getElem?_cons_zero, List.getElem?_cons_succ, List.set_cons_zero, List.set_cons_succ, List.length_cons, List.length_nil, List.length_map, List.map_cons, List.map_nil, List.length_append, dat_fz, dat_nw, dat_br, dat_np, sto_fz, sto_nw, sto_np, sto_br, stoAll, datAt, Sl.dat, Sl.own, Sl.with, ioSlot, stoBut, if_true, true_and, and_true, reduceCtorEq, Option.some.injEq, PyData.int.injEq, PyData.tuple.injEq, PyData.list.injEq, PyData.bool.injEq,  exists_eq_left', exists_eq_left, Bool.true_eq_false, Bool.false_eq_true, if_false, Bool.true_xor, Bool.false_xor, Bool.not_true, Bool.not_false,
  Nat.reduceAdd, Nat.reduceLeDiff, Nat.reduceEqDiff, Nat.reduceLT, Int.reduceNeg, Int.reduceLE, Int.reduceLT, Nat.zero_le, ne_eq, not_false_eq_true, List.cons_ne_nil, not_true_eq_false])
local macro_rules | `(tactic| walk_at "e") => `(tactic| simp (config := { decide := false }) only [dOp1, dOp2, dTup, dLst, dCons, dNil, dC, dCB, dVar, dVarR, dIfE, dTest, dAnd, dOr, dNot, dAndV, dOrV, dNotV, dChain, dCall, dCallL, dCallIO, dIsi, dSl, dPart, dNoPart, dSeqI, dRng1, dRng2, dDGet2, dDNewK, dDNewT, dRng3, dEnum, dZip, stoAll, itemsD, Option.some.injEq, exists_eq_left', dYes, dIx0, oFdiv, oMod, oPow, oLt, oLe, oGt, oGe, cmpD,
  wipeD, restD, Option.getD_some, Option.getD_none, Int.zero_add, Int.toNat_natCast, isi_lt_lst, isi_lt_tup, isi_lt_non, isi_lt_bl, isi_lt_int, isi_lt_str, isi_int_non, isi_int_bl, isi_int_int, isi_int_str, isi_int_lst, isi_int_tup, isi_bl_non, isi_bl_bl, isi_bl_int, isi_bl_str, isi_bl_lst, isi_bl_tup, isi_tup_non, isi_tup_bl, isi_tup_int, isi_tup_str, isi_tup_lst, isi_tup_tup, oEq_int, oNe_int, oEq_bl, oNe_bl, eq_self, decide_true, ixN_31, ixN_32, atI_0, atI_1, atI_2, atI_3, oIx_tup, oIx_lst, oLen_tup, oLen_lst, oListOf_tup, oListOf_lst, oTupOf_tup, oTupOf_lst, oAdd_int, oAdd_tup, oAdd_lst, oMul_int, oMul_tup, oMul_lst, dI0_int, dI_int, oIs_non, oIs_bl, isN_non, isN_int, isN_tup, isN_lst, isN_bl, oNeg_int, oMin2_int, oMax2_int, oInt_int, oInt_bl, oSl_tup, oSl_lst, ends_fz, ends_nw, ends_np, ends_nx, ends_br, ends_fzi, ends_nwi, ends_bri, retD_br,
  List.getElem?_cons_zero, List.getElem?_cons_succ, List.set_cons_zero, List.set_cons_succ, List.length_cons, List.length_nil, List.length_map, List.map_cons, List.map_nil, List.length_append, dat_fz, dat_nw, dat_br, dat_np, sto_fz, sto_nw, sto_np, sto_br, stoAll, datAt, Sl.dat, Sl.own, Sl.with, ioSlot, stoBut, if_true, true_and, and_true, reduceCtorEq, Option.some.injEq, PyData.int.injEq, PyData.tuple.injEq, PyData.list.injEq, PyData.bool.injEq,  exists_eq_left', exists_eq_left, Bool.true_eq_false, Bool.false_eq_true, if_false, Bool.true_xor, Bool.false_xor, Bool.not_true, Bool.not_false,
  Nat.reduceAdd, Nat.reduceLeDiff, Nat.reduceEqDiff, Nat.reduceLT, Int.reduceNeg, Int.reduceLE, Int.reduceLT, Nat.zero_le, ne_eq, not_false_eq_true, List.cons_ne_nil, not_true_eq_false])
structure Fine (r : Row) : Prop where
  good : Good r
  few : r.ls.length ≤ 100
  fewP : r.ps.length ≤ 100
theorem RowIn.fine {c l k : Int} {r : Row} (h : RowIn c l k r) (hc : c ≤ 8) (hk : k ≤ 5) : Fine r :=
  ⟨⟨h.lo, h.p0, h.inn, h.up⟩, by have := h.ls; omega, by have := h.p1; omega⟩
theorem redR_len (f : Nat → Bool) (r : Row) : (redR f r).ls.length ≤ r.ls.length ∧ (redR f r).ps.length = r.ps.length := by
  unfold redR
  refine ⟨?_, by simp⟩
  simp only
  rw [red_len]
  unfold kc
  have := List.length_filter_le f (List.range r.ls.length)
  simpa using this
theorem Fine.red {r : Row} (h : Fine r) (f : Nat → Bool) : Fine (redR f r) := by
  obtain ⟨a, b⟩ := redR_len f r
  exact ⟨redR_good h.good f, by have := h.few; omega, by have := h.fewP; omega⟩
theorem Fine.nf {r : Row} (h : Fine r) : Fine (nf r) := h.red _
theorem nf_ps {r : Row} {c p : Nat} (h : r.ps[c]? = some p) : (St.nf r).ps[c]? = some (kc (cnt r) p) := by
  unfold St.nf redR
  simp [h]
/-- the caches that count -/
def kept (r : Row) : List Nat := (List.range r.ls.length).filter (cnt r)
def ct_counting : CT := CT.mk 1 none fun ds Z => ∃ r : Row, ds = [rowD r] ∧ Fine r ∧ Z (.nw (.list ((kept r).map natD))) .none
def ct_normal_form : CT := CT.mk 1 none fun ds Z => ∃ r : Row, ds = [rowD r] ∧ Fine r ∧ Z (.fz (rowD (St.nf r))) .none
def ct_greatest_age : CT := CT.mk 2 none fun ds Z => ∃ (r : Row) (c p : Nat), ds = [rowD r, .int (c : Int)] ∧ r.ps[c]? = some p ∧ Fine r ∧ Z (.fz (.int (ageS (St.nf r).ls (kc (cnt r) p)))) .none
def ct_last_moments : CT := CT.mk 3 none fun ds Z => ∃ (r : Row) (low : Nat), ds = [intsT r.ls, natsT r.ps, .int (low : Int)] ∧ (∃ q ∈ r.ps, q ≤ low) ∧ low ≤ r.ls.length ∧ Fine r ∧ Z (.fz (.tuple [.list ((lastM r (r.ls.length - low)).map tcD), .int (ageS r.ls low)])) .none
def ct_oldest : CT := CT.mk 2 none fun ds Z => ∃ (r : Row) (c p : Nat), ds = [rowD r, .int (c : Int)] ∧ r.ps[c]? = some p ∧ Fine r ∧ Z (.fz (schD (oldS (St.nf r) c (kc (cnt r) p)))) .none
def ct_lcounting : CT := CT.mk 1 none fun ds Z => ∃ r : Row, ds = [rowD r] ∧ Fine r ∧ Z (.nw (.list ((kept r).map natD))) .none
def ct_whole : CT := CT.mk 1 none fun ds Z => ∃ i : Int, ds = [.int i] ∧ Z (.fz (.bool true)) .none
def ct_within : CT := CT.mk 3 none fun ds Z => ∃ i a b : Int, ds = [.int i, .int a, .int b] ∧ a ≤ i ∧ i ≤ b ∧ Z (.fz (.bool true)) .none
def ct_is_schedule : CT := CT.mk 3 none fun ds Z => ∃ (r : Row) (s : Sch) (m : Int), ds = [rowD r, schD s, .int m] ∧ (s.length : Int) ≤ m ∧ s.length ≤ 1000 ∧ (∀ x ∈ s, x.2 < r.ps.length ∧ 0 ≤ x.1 ∧ x.1 ≤ 1000000000) ∧ s.Pairwise (fun x y => x.1 ≤ y.1) ∧ Z (.fz (.bool true)) .none
theorem inD_nats (xs : List Nat) (i : Nat) : inD (xs.map fun (n : Nat) => PyData.int (n : Int)) (.int (i : Int)) = decide (i ∈ xs) := by
  induction xs with
  | nil => rfl
  | cons x xs ih =>
    unfold inD at ih ⊢
    rw [List.map_cons, List.any_cons, ih]
    have e : PyData.eqv (.int (x : Int)) (.int (i : Int)) = decide (x = i) := by
      have : PyData.eqv (.int (x : Int)) (.int (i : Int)) = ((x : Int) == (i : Int)) := by simp [PyData.eqv]
      rw [this]
      by_cases h : x = i
      · subst h; simp
      · rw [decide_eq_false h]
        exact beq_eq_false_iff_ne.mpr (by omega)
    rw [e]
    by_cases h : x = i
    · subst h; simp
    · have h2 : ¬ i = x := fun z => h z.symm
      simp [h, h2]
theorem oIn_nats {n : Bool} {xs : List Nat} {i : Nat} {Z : Rs → Prop} (q : Z (.fz (.bool (n ^^ decide (i ∈ xs))))) : oIn n (.int (i : Int)) (.tuple (xs.map fun (n : Nat) => PyData.int (n : Int))) Z := by
  refine ⟨_, rfl, rfl, ?_, by rw [inD_nats]; exact q⟩
  rw [List.all_map]
  exact List.all_eq_true.mpr fun _ _ => rfl
def t_counting (K : PySem.W.Frag) : TS := (tSeq (tAsg (tVar 0) (gTup K 2 (gCons (gName 1) (gCons (gName 2) gNil))))
  (tSeq (tPar 3 4 (tCons (tLst tNil) (tCons (tC (.int 1)) tNil)))
  (tSeq (tFor (iRng2 (tCons (tOp (rIx K) (tVar 2) (tC (.int 0))) (tCons (tCB (rLenU K) (tCons (tVar 1) tNil)) tNil))) (gName 5) (tSeq (tIfS (tTest (tOp (rIn K false) (tVar 5) (tVar 2))) (tAsg (tC (.int 1)) (gName 4)) tNext)
  (tSeq (tIfS (tTest (tOp (rI0 fun i j => .bl (decide (j < i))) (tOp (rIx K) (tVar 1) (tVar 5)) (tVar 4))) (tDrop (tBM K "list" rAppend (tVar 3) (tCons (tVar 5) tNil))) tNext)
  (tAsg (tCB rMax2 (tCons (tVar 4) (tCons (tOp (rIx K) (tVar 1) (tVar 5)) tNil))) (gName 4)))))
  (tRet (tVar 3)))))

def d_counting : DS := (dSeq (dAsg (dVar 0) (dgTup 2 (dgCons (dgName 1) (dgCons (dgName 2) dgNil))))
  (dSeq (dSeq (dAsgO (dLst dNil) 3) (dAsg (dC (.int 1)) (dgName 4)))
  (dSeq (dFor (dRng2 (dCons (dOp2 oIx (dVar 2) (dC (.int 0))) (dCons (dCB oLen (dCons (dVar 1) dNil)) dNil))) (dgName 5) (dSeq (dIfS (dTest (dOp2 (oIn false) (dVar 5) (dVar 2))) (dAsg (dC (.int 1)) (dgName 4)) dNext)
  (dSeq (dIfS (dTest (dOp2 oGt (dOp2 oIx (dVar 1) (dVar 5)) (dVar 4))) (dAppS 3 (dVar 5)) dNext)
  (dAsg (dCB oMax2 (dCons (dVar 4) (dCons (dOp2 oIx (dVar 1) (dVar 5)) dNil))) (dgName 4)))))
  (dRet (dVar 3)))))

theorem sim_counting {K : PySem.W.Frag} : SimS (t_counting K) d_counting := (simS_seq (simS_asg simE_var (simG_tup (simGs_cons simG_name (simGs_cons simG_name simGs_nil))))
  (simS_seq (simS_par (simS_seq (simS_asgO (i := 3) (simE_lst simA_nil)) (simS_asg (simE_c fun _ _ => .int _) simG_name)) ind_c)
  (simS_seq (simS_for (simI_rng2 (simA_cons (simE_op2 simR2_ix simE_var (simE_c fun _ _ => .int _)) (simA_cons (simE_cb simRN_len (simA_cons simE_var simA_nil)) simA_nil))) simG_name (simS_seq (simS_if (simT_test (simE_op2 simR2_in simE_var simE_var)) (simS_asg (simE_c fun _ _ => .int _) simG_name) simS_next)
  (simS_seq (simS_if (simT_test (simE_op2 simR2_gt (simE_op2 simR2_ix simE_var simE_var) simE_var)) (simS_app simE_var) simS_next)
  (simS_asg (simE_cb simRN_max2 (simA_cons simE_var (simA_cons (simE_op2 simR2_ix simE_var simE_var) simA_nil))) simG_name))))
  (simS_ret simE_var))))

def t_normal_form (K : PySem.W.Frag) : TS := (tSeq (tAsg (tVar 0) (gTup K 2 (gCons (gName 1) (gCons (gName 2) gNil))))
  (tSeq (tAsg (tCall (spD ct_counting) [] E0 (tCons (tVar 0) tNil)) (gName 3))
  (tRet (tTup (tCons (tCB (rTupOf K) (tCons (tLc (iSeq K (tVar 3)) (gName 4) tYes (tOp (rIx K) (tVar 1) (tVar 4)) [4]) tNil)) (tCons (tCB (rTupOf K) (tCons (tLc (iSeq K (tVar 2)) (gName 5) tYes (tCB (rLenU K) (tCons (tLc (iSeq K (tVar 3)) (gName 4) (tTest (tOp (rI0 fun i j => .bl (decide (i < j))) (tVar 4) (tVar 5))) (tVar 4) [4]) tNil)) [5]) tNil)) tNil))))))

def d_normal_form : DS := (dSeq (dAsg (dVar 0) (dgTup 2 (dgCons (dgName 1) (dgCons (dgName 2) dgNil))))
  (dSeq (dAsg (dCall ct_counting (dCons (dVar 0) dNil)) (dgName 3))
  (dRet (dTup (dCons (dCB oTupOf (dCons (dLc (dSeqI (dVar 3)) (dgName 4) dYes (dOp2 oIx (dVar 1) (dVar 4)) [4]) dNil)) (dCons (dCB oTupOf (dCons (dLc (dSeqI (dVar 2)) (dgName 5) dYes (dCB oLen (dCons (dLc (dSeqI (dVar 3)) (dgName 4) (dTest (dOp2 oLt (dVar 4) (dVar 5))) (dVar 4) [4]) dNil)) [5]) dNil)) dNil))))))

theorem sim_normal_form {K : PySem.W.Frag} : SimS (t_normal_form K) d_normal_form := (simS_seq (simS_asg simE_var (simG_tup (simGs_cons simG_name (simGs_cons simG_name simGs_nil))))
  (simS_seq (simS_asg (simE_call rfl (simA_cons simE_var simA_nil)) simG_name)
  (simS_ret (simE_tup (simA_cons (simE_cb simRN_tupOf (simA_cons (simE_lc (simI_seq simE_var) simG_name (tg_name (by decide)) simT_yes (simE_op2 simR2_ix simE_var simE_var)) simA_nil)) (simA_cons (simE_cb simRN_tupOf (simA_cons (simE_lc (simI_seq simE_var) simG_name (tg_name (by decide)) simT_yes (simE_cb simRN_len (simA_cons (simE_lc (simI_seq simE_var) simG_name (tg_name (by decide)) (simT_test (simE_op2 simR2_lt simE_var simE_var)) simE_var) simA_nil))) simA_nil)) simA_nil))))))

def t_greatest_age (K : PySem.W.Frag) : TS := (tSeq (tAsg (tCall (spD ct_normal_form) [] E0 (tCons (tVar 0) tNil)) (gTup K 2 (gCons (gName 2) (gCons (gName 3) gNil))))
  (tRet (tCB (rSum K) (tCons (tLc (iSeq K (tSl (rSlU K) (tVar 2) (tPart (tOp (rIx K) (tVar 3) (tVar 1))) tNoPart)) (gName 4) tYes (tOp (rI0 fun i j => .int (i - j)) (tVar 4) (tC (.int 1))) [4]) tNil))))

def d_greatest_age : DS := (dSeq (dAsg (dCall ct_normal_form (dCons (dVar 0) dNil)) (dgTup 2 (dgCons (dgName 2) (dgCons (dgName 3) dgNil))))
  (dRet (dCB oSum (dCons (dLc (dSeqI (dSl (dVar 2) (dPart (dOp2 oIx (dVar 3) (dVar 1))) dNoPart)) (dgName 4) dYes (dOp2 (dI0 fun i j => .int (i - j)) (dVar 4) (dC (.int 1))) [4]) dNil))))

theorem sim_greatest_age {K : PySem.W.Frag} : SimS (t_greatest_age K) d_greatest_age := (simS_seq (simS_asg (simE_call rfl (simA_cons simE_var simA_nil)) (simG_tup (simGs_cons simG_name (simGs_cons simG_name simGs_nil))))
  (simS_ret (simE_cb simRN_sum (simA_cons (simE_lc (simI_seq (simE_sl simE_var (simO_some (simE_op2 simR2_ix simE_var simE_var)) simO_none)) simG_name (tg_name (by decide)) simT_yes (simE_op2 simR2_sub simE_var (simE_c fun _ _ => .int _))) simA_nil))))

def t_last_moments (K : PySem.W.Frag) : TS := (tSeq (tPar 3 4 (tCons (tLst tNil) (tCons (tC (.int 0)) tNil)))
  (tSeq (tFor (iRng3 (tCons (tOp (rI0 fun i j => .int (i - j)) (tCB (rLenU K) (tCons (tVar 0) tNil)) (tC (.int 1))) (tCons (tOp (rI0 fun i j => .int (i - j)) (tVar 2) (tC (.int 1))) (tCons (tUn (rU fun i => .int (-i)) (tC (.int 1))) tNil)))) (gName 5) (tSeq (tAsg (tCB (rMax K) (tCons (tLc (iEnumU K (tCons (tVar 1) tNil)) (gTup K 2 (gCons (gName 7) (gCons (gName 8) gNil))) (tTest (tOp (rI0 fun i j => .bl (decide (i ≤ j))) (tVar 8) (tVar 5))) (tVar 7) [7, 8]) tNil)) (gName 6))
  (tSeq (tDrop (tBM K "list" rAppend (tVar 3) (tCons (tTup (tCons (tVar 4) (tCons (tVar 6) tNil))) tNil)))
  (tAug 4 (tOp (rI0 fun i j => .int (i - j)) (tOp (rIx K) (tVar 0) (tVar 5)) (tC (.int 1))) (L2.ipI fun i j => i + j)))))
  (tRet (tTup (tCons (tVar 3) (tCons (tVar 4) tNil))))))

def d_last_moments : DS := (dSeq (dSeq (dAsgO (dLst dNil) 3) (dAsg (dC (.int 0)) (dgName 4)))
  (dSeq (dFor (dRng3 (dCons (dOp2 (dI0 fun i j => .int (i - j)) (dCB oLen (dCons (dVar 0) dNil)) (dC (.int 1))) (dCons (dOp2 (dI0 fun i j => .int (i - j)) (dVar 2) (dC (.int 1))) (dCons (dOp1 oNeg (dC (.int 1))) dNil)))) (dgName 5) (dSeq (dAsg (dCB oMax (dCons (dLc (dEnum (dCons (dVar 1) dNil)) (dgTup 2 (dgCons (dgName 7) (dgCons (dgName 8) dgNil))) (dTest (dOp2 oLe (dVar 8) (dVar 5))) (dVar 7) [7, 8]) dNil)) (dgName 6))
  (dSeq (dAppS 3 (dTup (dCons (dVar 4) (dCons (dVar 6) dNil))))
  (dAug 4 (fun i j => i + j) (dOp2 (dI0 fun i j => .int (i - j)) (dOp2 oIx (dVar 0) (dVar 5)) (dC (.int 1)))))))
  (dRet (dTup (dCons (dVarR 3) (dCons (dVar 4) dNil))))))

theorem sim_last_moments {K : PySem.W.Frag} : SimS (t_last_moments K) d_last_moments := (simS_seq (simS_par (simS_seq (simS_asgO (i := 3) (simE_lst simA_nil)) (simS_asg (simE_c fun _ _ => .int _) simG_name)) ind_c)
  (simS_seq (simS_for (simI_rng3 (simA_cons (simE_op2 simR2_sub (simE_cb simRN_len (simA_cons simE_var simA_nil)) (simE_c fun _ _ => .int _)) (simA_cons (simE_op2 simR2_sub simE_var (simE_c fun _ _ => .int _)) (simA_cons (simE_op1 simR1_neg (simE_c fun _ _ => .int _)) simA_nil)))) simG_name (simS_seq (simS_asg (simE_cb simRN_max (simA_cons (simE_lc (simI_enum (simA_cons simE_var simA_nil)) (simG_tup (simGs_cons simG_name (simGs_cons simG_name simGs_nil))) (tg_tup (tgs_cons (tg_name (by decide)) (tgs_cons (tg_name (by decide)) tgs_nil))) (simT_test (simE_op2 simR2_le simE_var simE_var)) simE_var) simA_nil)) simG_name)
  (simS_seq (simS_app (simE_tup (simA_cons simE_var (simA_cons simE_var simA_nil))))
  (simS_aug (simE_op2 simR2_sub (simE_op2 simR2_ix simE_var simE_var) (simE_c fun _ _ => .int _))))))
  (simS_ret (simE_tup (simA_cons simE_varR (simA_cons simE_var simA_nil))))))

def t_oldest (K : PySem.W.Frag) : TS := (tSeq (tAsg (tCall (spD ct_normal_form) [] E0 (tCons (tVar 0) tNil)) (gTup K 2 (gCons (gName 2) (gCons (gName 3) gNil))))
  (tSeq (tAsg (tCall (spD ct_last_moments) [] E0 (tCons (tVar 2) (tCons (tVar 3) (tCons (tOp (rIx K) (tVar 3) (tVar 1)) tNil)))) (gTup K 2 (gCons (gName 4) (gCons (gName 5) gNil))))
  (tRet (tCB (rTupOf K) (tCons (tOp (rAddU K) (tVar 4) (tLst (tCons (tTup (tCons (tVar 5) (tCons (tVar 1) tNil))) tNil))) tNil)))))

def d_oldest : DS := (dSeq (dAsg (dCall ct_normal_form (dCons (dVar 0) dNil)) (dgTup 2 (dgCons (dgName 2) (dgCons (dgName 3) dgNil))))
  (dSeq (dAsg (dCall ct_last_moments (dCons (dVar 2) (dCons (dVar 3) (dCons (dOp2 oIx (dVar 3) (dVar 1)) dNil)))) (dgTup 2 (dgCons (dgName 4) (dgCons (dgName 5) dgNil))))
  (dRet (dCB oTupOf (dCons (dOp2 oAdd (dVar 4) (dLst (dCons (dTup (dCons (dVar 5) (dCons (dVar 1) dNil))) dNil))) dNil)))))

theorem sim_oldest {K : PySem.W.Frag} : SimS (t_oldest K) d_oldest := (simS_seq (simS_asg (simE_call rfl (simA_cons simE_var simA_nil)) (simG_tup (simGs_cons simG_name (simGs_cons simG_name simGs_nil))))
  (simS_seq (simS_asg (simE_call rfl (simA_cons simE_var (simA_cons simE_var (simA_cons (simE_op2 simR2_ix simE_var simE_var) simA_nil)))) (simG_tup (simGs_cons simG_name (simGs_cons simG_name simGs_nil))))
  (simS_ret (simE_cb simRN_tupOf (simA_cons (simE_op2 simR2_add simE_var (simE_lst (simA_cons (simE_tup (simA_cons simE_var (simA_cons simE_var simA_nil))) simA_nil))) simA_nil)))))

def t_lcounting (K : PySem.W.Frag) : TS := (tSeq (tAsg (tVar 0) (gTup K 2 (gCons (gName 1) (gCons (gName 2) gNil))))
  (tSeq (tPar 3 4 (tCons (tLst tNil) (tCons tDNewK tNil)))
  (tSeq (tFor (iRng1 (tCons (tCB (rLenU K) (tCons (tVar 1) tNil)) tNil)) (gName 5) (tSeq (tIfS (tTest (tOp (rIn K false) (tVar 5) (tVar 2))) (sDPut (tVar 4) (tVar 5) (tC (.int 1))) (tIfS (tTest (tOp rDIn (tOp (rI0 fun i j => .int (i - j)) (tVar 5) (tC (.int 1))) (tVar 4))) (sDPut (tVar 4) (tVar 5) (tCB rMax2 (tCons (tDGet (tVar 4) (tOp (rI0 fun i j => .int (i - j)) (tVar 5) (tC (.int 1)))) (tCons (tOp (rIx K) (tVar 1) (tOp (rI0 fun i j => .int (i - j)) (tVar 5) (tC (.int 1)))) tNil)))) tNext))
  (tIfS (tAnd (tTest (tOp rDIn (tVar 5) (tVar 4))) (tTest (tOp (rI0 fun i j => .bl (decide (j < i))) (tOp (rIx K) (tVar 1) (tVar 5)) (tDGet (tVar 4) (tVar 5))))) (tDrop (tBM K "list" rAppend (tVar 3) (tCons (tVar 5) tNil))) tNext)))
  (tRet (tVar 3)))))

def d_lcounting : DS := (dSeq (dAsg (dVar 0) (dgTup 2 (dgCons (dgName 1) (dgCons (dgName 2) dgNil))))
  (dSeq (dSeq (dAsgO (dLst dNil) 3) (dAsgO dDNewK 4))
  (dSeq (dFor (dRng1 (dCons (dCB oLen (dCons (dVar 1) dNil)) dNil)) (dgName 5) (dSeq (dIfS (dTest (dOp2 (oIn false) (dVar 5) (dVar 2))) (dDPut 4 (dVar 5) (dC (.int 1))) (dIfS (dTest (dOp2 (oDIn false) (dOp2 (dI0 fun i j => .int (i - j)) (dVar 5) (dC (.int 1))) (dVar 4))) (dDPut 4 (dVar 5) (dCB oMax2 (dCons (dDGet (dVar 4) (dOp2 (dI0 fun i j => .int (i - j)) (dVar 5) (dC (.int 1)))) (dCons (dOp2 oIx (dVar 1) (dOp2 (dI0 fun i j => .int (i - j)) (dVar 5) (dC (.int 1)))) dNil)))) dNext))
  (dIfS (dAnd (dTest (dOp2 (oDIn false) (dVar 5) (dVar 4))) (dTest (dOp2 oGt (dOp2 oIx (dVar 1) (dVar 5)) (dDGet (dVar 4) (dVar 5))))) (dAppS 3 (dVar 5)) dNext)))
  (dRet (dVar 3)))))

theorem sim_lcounting {K : PySem.W.Frag} : SimS (t_lcounting K) d_lcounting := (simS_seq (simS_asg simE_var (simG_tup (simGs_cons simG_name (simGs_cons simG_name simGs_nil))))
  (simS_seq (simS_par (simS_seq (simS_asgO (i := 3) (simE_lst simA_nil)) (simS_asgO (i := 4) simE_dnewK)) ind_dnewK)
  (simS_seq (simS_for (simI_rng1 (simA_cons (simE_cb simRN_len (simA_cons simE_var simA_nil)) simA_nil)) simG_name (simS_seq (simS_if (simT_test (simE_op2 simR2_in simE_var simE_var)) (simS_dput (i := 4) simE_var (simE_c fun _ _ => .int _)) (simS_if (simT_test (simE_op2 simR2_din (simE_op2 simR2_sub simE_var (simE_c fun _ _ => .int _)) simE_var)) (simS_dput (i := 4) simE_var (simE_cb simRN_max2 (simA_cons (simE_dget simE_var (simE_op2 simR2_sub simE_var (simE_c fun _ _ => .int _))) (simA_cons (simE_op2 simR2_ix simE_var (simE_op2 simR2_sub simE_var (simE_c fun _ _ => .int _))) simA_nil)))) simS_next))
  (simS_if (simT_and (simT_test (simE_op2 simR2_din simE_var simE_var)) (simT_test (simE_op2 simR2_gt (simE_op2 simR2_ix simE_var simE_var) (simE_dget simE_var simE_var)))) (simS_app simE_var) simS_next)))
  (simS_ret simE_var))))

def t_whole (K : PySem.W.Frag) : TS := (tRet (tAndV (tCB (rIsi K) (tCons (tVar 0) (tCons (tC (.ty "int")) tNil))) (tNotV (tCB (rIsi K) (tCons (tVar 0) (tCons (tC (.ty "bool")) tNil))))))

def d_whole : DS := (dRet (dAndV (dIsi ["int"] (dVar 0)) (dNotV (dIsi ["bool"] (dVar 0)))))

theorem sim_whole {K : PySem.W.Frag} : SimS (t_whole K) d_whole := (simS_ret (simE_andV (simE_isi1 (by decide +kernel) simE_var) (simE_notV (simE_isi1 (by decide +kernel) simE_var))))

def t_within (K : PySem.W.Frag) : TS := (tRet (tAndV (tCall (spD ct_whole) [] E0 (tCons (tVar 0) tNil)) (tChain (rI0 fun i j => .bl (decide (i ≤ j))) (rI0 fun i j => .bl (decide (i ≤ j))) (tVar 1) (tVar 0) (tVar 2))))

def d_within : DS := (dRet (dAndV (dCall ct_whole (dCons (dVar 0) dNil)) (dChain oLe oLe (dVar 1) (dVar 0) (dVar 2))))

theorem sim_within {K : PySem.W.Frag} : SimS (t_within K) d_within := (simS_ret (simE_andV (simE_call rfl (simA_cons simE_var simA_nil)) (simE_chain simR2_le simR2_le simE_var simE_var simE_var)))

def t_is_schedule (K : PySem.W.Frag) : TS := (tSeq (tIfS (tOr (tNot (tB (tCB (rIsi K) (tCons (tVar 1) (tCons (tC (.ty "tuple")) tNil))))) (tTest (tOp (rI0 fun i j => .bl (decide (j < i))) (tCB (rLenU K) (tCons (tVar 1) tNil)) (tVar 2)))) (tRet (tC (.bl false))) tNext)
  (tSeq (tFor (iSeq K (tVar 1)) (gName 3) (tSeq (tIfS (tOr (tNot (tB (tCB (rIsi K) (tCons (tVar 3) (tCons (tC (.ty "tuple")) tNil))))) (tOr (tTest (tOp (rNeD K) (tCB (rLenU K) (tCons (tVar 3) tNil)) (tC (.int 2)))) (tNot (tB (tCall (spD ct_within) [] E0 (tCons (tOp (rIx K) (tVar 3) (tC (.int 0))) (tCons (tC (.int 0)) (tCons (tOp (rI CPow fun i j => .int (i ^ j.toNat)) (tC (.int 10)) (tC (.int 9))) tNil)))))))) (tRet (tC (.bl false))) tNext)
  (tIfS (tNot (tB (tCall (spD ct_within) [] E0 (tCons (tOp (rIx K) (tVar 3) (tC (.int 1))) (tCons (tC (.int 0)) (tCons (tOp (rI0 fun i j => .int (i - j)) (tCB (rLenU K) (tCons (tOp (rIx K) (tVar 0) (tC (.int 1))) tNil)) (tC (.int 1))) tNil)))))) (tRet (tC (.bl false))) tNext)))
  (tRet (tOp (rEqD K) (tLc (iZipU K (tCons (tVar 1) (tCons (tSl (rSlU K) (tVar 1) (tPart (tC (.int 1))) tNoPart) tNil))) (gTup K 2 (gCons (gName 4) (gCons (gName 5) gNil))) (tTest (tOp (rI0 fun i j => .bl (decide (j < i))) (tOp (rIx K) (tVar 4) (tC (.int 0))) (tOp (rIx K) (tVar 5) (tC (.int 0))))) (tC (.int 1)) [4, 5]) (tLst tNil)))))

def d_is_schedule : DS := (dSeq (dIfS (dOr (dNot (dTest (dIsi ["tuple"] (dVar 1)))) (dTest (dOp2 oGt (dCB oLen (dCons (dVar 1) dNil)) (dVar 2)))) (dRet (dC (.bool false))) dNext)
  (dSeq (dFor (dSeqI (dVar 1)) (dgName 3) (dSeq (dIfS (dOr (dNot (dTest (dIsi ["tuple"] (dVar 3)))) (dOr (dTest (dOp2 oNe (dCB oLen (dCons (dVar 3) dNil)) (dC (.int 2)))) (dNot (dTest (dCall ct_within (dCons (dOp2 oIx (dVar 3) (dC (.int 0))) (dCons (dC (.int 0)) (dCons (dOp2 oPow (dC (.int 10)) (dC (.int 9))) dNil)))))))) (dRet (dC (.bool false))) dNext)
  (dIfS (dNot (dTest (dCall ct_within (dCons (dOp2 oIx (dVar 3) (dC (.int 1))) (dCons (dC (.int 0)) (dCons (dOp2 (dI0 fun i j => .int (i - j)) (dCB oLen (dCons (dOp2 oIx (dVar 0) (dC (.int 1))) dNil)) (dC (.int 1))) dNil)))))) (dRet (dC (.bool false))) dNext)))
  (dRet (dOp2 oEq (dLc (dZip (dCons (dVar 1) (dCons (dSl (dVar 1) (dPart (dC (.int 1))) dNoPart) dNil))) (dgTup 2 (dgCons (dgName 4) (dgCons (dgName 5) dgNil))) (dTest (dOp2 oGt (dOp2 oIx (dVar 4) (dC (.int 0))) (dOp2 oIx (dVar 5) (dC (.int 0))))) (dC (.int 1)) [4, 5]) (dLst dNil)))))

theorem sim_is_schedule {K : PySem.W.Frag} : SimS (t_is_schedule K) d_is_schedule := (simS_seq (simS_if (simT_or (simT_not (simT_B (simE_isi1 (by decide +kernel) simE_var))) (simT_test (simE_op2 simR2_gt (simE_cb simRN_len (simA_cons simE_var simA_nil)) simE_var))) (simS_ret (simE_c fun _ _ => .bl _)) simS_next)
  (simS_seq (simS_for (simI_seq simE_var) simG_name (simS_seq (simS_if (simT_or (simT_not (simT_B (simE_isi1 (by decide +kernel) simE_var))) (simT_or (simT_test (simE_op2 simR2_ne (simE_cb simRN_len (simA_cons simE_var simA_nil)) (simE_c fun _ _ => .int _))) (simT_not (simT_B (simE_call rfl (simA_cons (simE_op2 simR2_ix simE_var (simE_c fun _ _ => .int _)) (simA_cons (simE_c fun _ _ => .int _) (simA_cons (simE_op2 simR2_pow (simE_c fun _ _ => .int _) (simE_c fun _ _ => .int _)) simA_nil)))))))) (simS_ret (simE_c fun _ _ => .bl _)) simS_next)
  (simS_if (simT_not (simT_B (simE_call rfl (simA_cons (simE_op2 simR2_ix simE_var (simE_c fun _ _ => .int _)) (simA_cons (simE_c fun _ _ => .int _) (simA_cons (simE_op2 simR2_sub (simE_cb simRN_len (simA_cons (simE_op2 simR2_ix simE_var (simE_c fun _ _ => .int _)) simA_nil)) (simE_c fun _ _ => .int _)) simA_nil)))))) (simS_ret (simE_c fun _ _ => .bl _)) simS_next)))
  (simS_ret (simE_op2 simR2_eq (simE_lc (simI_zip (simA_cons simE_var (simA_cons (simE_sl simE_var (simO_some (simE_c fun _ _ => .int _)) simO_none) simA_nil))) (simG_tup (simGs_cons simG_name (simGs_cons simG_name simGs_nil))) (tg_tup (tgs_cons (tg_name (by decide)) (tgs_cons (tg_name (by decide)) tgs_nil))) (simT_test (simE_op2 simR2_gt (simE_op2 simR2_ix simE_var (simE_c fun _ _ => .int _)) (simE_op2 simR2_ix simE_var (simE_c fun _ _ => .int _)))) (simE_c fun _ _ => .int _)) (simE_lst simA_nil)))))

theorem law_whole (ds : List PyData) (Z : Rs → PyData → Prop) (hl : ds.length = ct_whole.n) (h : ct_whole.pre ds Z) : d_whole (endsD ct_whole.io Z) (startD 1 ct_whole.io ds) := by
  obtain ⟨i, rfl, hZ⟩ := h
  show d_whole (endsD none Z) [some (.fz (.int i))]
  unfold d_whole
  walk_at "d"
  exact hZ
theorem law_within (ds : List PyData) (Z : Rs → PyData → Prop) (hl : ds.length = ct_within.n) (h : ct_within.pre ds Z) : d_within (endsD ct_within.io Z) (startD 3 ct_within.io ds) := by
  obtain ⟨i, a, b, rfl, h1, h2, hZ⟩ := h
  show d_within (endsD none Z) [some (.fz (.int i)), some (.fz (.int a)), some (.fz (.int b))]
  unfold d_within
  walk_at "d"
  refine ⟨rfl, i, rfl, ?_⟩
  walk_at "d"
  rw [if_pos (decide_eq_true h1), decide_eq_true h2]
  exact hZ
theorem range_snoc_filter (f : Nat → Bool) (n : Nat) : (List.range (n + 1)).filter f = if f n = true then (List.range n).filter f ++ [n] else (List.range n).filter f := by
  rw [List.range_succ, filt_snoc]
theorem kept_len (r : Row) (k : Nat) : ((List.range k).filter (cnt r)).length ≤ k := by
  have := List.length_filter_le (cnt r) (List.range k)
  simpa using this
theorem law_counting (ds : List PyData) (Z : Rs → PyData → Prop) (hl : ds.length = ct_counting.n) (h : ct_counting.pre ds Z) : d_counting (endsD ct_counting.io Z) (startD 6 ct_counting.io ds) := by
  obtain ⟨r, rfl, F, hZ⟩ := h
  show d_counting (endsD none Z) [some (.fz (rowD r)), none, none, none, none, none]
  have hfew := F.few
  obtain ⟨p0, hp0⟩ := get_at (l := r.ps) (k := 0) (List.length_pos_iff.mpr F.good.p0)
  have hpm := get_mem hp0
  have hpn := F.good.inn p0 hpm
  have hd0 : r.ps.getD 0 0 = p0 := getD_of hp0
  unfold d_counting
  refine dSeq_by (fun ρ => ρ = [some (.fz (rowD r)), some (.fz (intsT r.ls)), some (.fz (natsT r.ps)), none, none, none]) (fun W hW => ?_) fun ρ ee => ?_
  · unfold rowD at hW ⊢
    walk_at "d"
    exact hW _ rfl
  subst ee
  refine dSeq_by (fun ρ => ρ = [some (.fz (rowD r)), some (.fz (intsT r.ls)), some (.fz (natsT r.ps)), some (.ow (.list [])), some (.fz (.int 1)), none]) (fun W hW => ?_) fun ρ ee => ?_
  · walk_at "d"
    exact hW _ rfl
  subst ee
  refine dSeq_by (fun ρ => ∃ a b, ρ = [some (.fz (rowD r)), some (.fz (intsT r.ls)), some (.fz (natsT r.ps)), some (.ow (.list ((kept r).map natD))), a, b]) (fun W hW => ?_) fun ρ ee => ?_
  rotate_left
  · obtain ⟨a, b, rfl⟩ := ee
    walk_at "d"
    exact hZ
  unfold intsT natsT at hW ⊢
  simp only [dFor]
  walk_at "e"
  refine ⟨_, atI_map (i := 0) hp0, ?_⟩
  refine ⟨by omega, ?_⟩
  rw [show ((r.ls.length : Int) - (p0 : Int)).toNat = r.ls.length - p0 by omega]
  refine loopD_inv (fun k ρ => ∃ (D : Int) (b : Option Sl), (p0 + k ∈ r.ps ∨ D = dst r.ls r.ps (p0 + k)) ∧ ρ = [some (.fz (rowD r)), some (.fz (.tuple (r.ls.map PyData.int))), some (.fz (.tuple (r.ps.map fun (n : Nat) => PyData.int (n : Int)))), some (.ow (.list (((List.range (p0 + k)).filter (cnt r)).map natD))), some (.fz (.int D)), b])
    ⟨1, none, .inl hpm, ?_⟩ (fun k x ρ V hx I hV => ?_) fun ρ I => ?_
  · rw [Nat.add_zero, List.filter_eq_nil_iff.mpr]
    · rfl
    · intro i hi
      have := List.mem_range.mp hi
      unfold cnt
      rw [hd0, decide_eq_false (by omega)]
      exact Bool.false_ne_true
  · obtain ⟨D, b, hD, rfl⟩ := I
    obtain ⟨hk, rfl⟩ := rngD_at hx
    rw [← Int.natCast_add]
    have hlt : p0 + k < r.ls.length := by omega
    obtain ⟨l, el⟩ := get_at hlt
    have hdst : (if p0 + k ∈ r.ps then 1 else D) = dst r.ls r.ps (p0 + k) := by
      by_cases c : p0 + k ∈ r.ps
      · rw [if_pos c]
        cases hi : p0 + k with
        | zero => rfl
        | succ i => unfold dst; rw [if_pos (hi ▸ c)]
      · rw [if_neg c]
        exact hD.resolve_left c
    -- what follows the first test
    have fin : ∀ (V2 : DEnv → Prop), (∀ D', (p0 + (k + 1) ∈ r.ps ∨ D' = dst r.ls r.ps (p0 + (k + 1))) → V2 [some (.fz (rowD r)), some (.fz (.tuple (r.ls.map PyData.int))), some (.fz (.tuple (r.ps.map fun (n : Nat) => PyData.int (n : Int)))), some (.ow (.list (((List.range (p0 + (k + 1))).filter (cnt r)).map natD))), some (.fz (.int D')), some (.fz (.int ((p0 + k : Nat) : Int)))]) → ∀ DD : DEnds, DD.nx = V2 →
        (dSeq (dIfS (dTest (dOp2 oGt (dOp2 oIx (dVar 1) (dVar 5)) (dVar 4))) (dAppS 3 (dVar 5)) dNext)
          (dAsg (dCB oMax2 (dCons (dVar 4) (dCons (dOp2 oIx (dVar 1) (dVar 5)) dNil))) (dgName 4))) DD [some (.fz (rowD r)), some (.fz (.tuple (r.ls.map PyData.int))), some (.fz (.tuple (r.ps.map fun (n : Nat) => PyData.int (n : Int)))), some (.ow (.list (((List.range (p0 + k)).filter (cnt r)).map natD))), some (.fz (.int (dst r.ls r.ps (p0 + k)))), some (.fz (.int ((p0 + k : Nat) : Int)))] := by
      intro V2 hV2 DD hDD
      subst hDD
      have hkl := kept_len r (p0 + k)
      have hnext : ∀ D', D' = max (dst r.ls r.ps (p0 + k)) l → p0 + (k + 1) ∈ r.ps ∨ D' = dst r.ls r.ps (p0 + (k + 1)) := fun D' e => by
        by_cases c : p0 + (k + 1) ∈ r.ps
        · exact .inl c
        · refine .inr ?_
          rw [show p0 + (k + 1) = (p0 + k) + 1 by omega] at c ⊢
          unfold dst
          rw [if_neg c, getD_of el]
          exact e
      have hcnt : cnt r (p0 + k) = decide (dst r.ls r.ps (p0 + k) < l) := by
        unfold cnt
        rw [hd0, decide_eq_true (by omega), Bool.true_and, getD_of el]
      rw [show p0 + (k + 1) = (p0 + k) + 1 by omega] at hnext hV2
      rw [range_snoc_filter, hcnt] at hV2
      by_cases c : dst r.ls r.ps (p0 + k) < l
      · rw [if_pos (decide_eq_true c), List.map_append] at hV2
        walk_at "d"
        refine ⟨_, atI_map el, ?_⟩
        walk_at "d"
        rw [if_pos (decide_eq_true c)]
        refine ⟨⟨_, _, rfl, rfl, rfl⟩, by omega, ?_⟩
        refine ⟨_, atI_map el, ?_⟩
        walk_at "d"
        refine hV2 _ (hnext _ ?_)
        omega
      · rw [if_neg (by rw [decide_eq_false c]; exact Bool.false_ne_true)] at hV2
        walk_at "d"
        refine ⟨_, atI_map el, ?_⟩
        walk_at "d"
        rw [if_neg (by rw [decide_eq_false c]; exact Bool.false_ne_true)]
        refine ⟨_, atI_map el, ?_⟩
        walk_at "d"
        refine hV2 _ (hnext _ ?_)
        omega
    by_cases c : p0 + k ∈ r.ps
    · rw [if_pos c] at hdst
      rw [dgName, dSeq, dIfS]
      walk_at "e"
      refine oIn_nats ?_
      rw [decide_eq_true c]
      walk_at "e"
      rw [dAsg]
      walk_at "e"
      rw [dgName]
      rw [hdst]
      exact fin V (fun D' h => hV _ ⟨D', _, h, rfl⟩) _ rfl
    · rw [if_neg c] at hdst
      rw [dgName, dSeq, dIfS]
      walk_at "e"
      refine oIn_nats ?_
      rw [decide_eq_false c]
      walk_at "e"
      rw [dNext, hdst]
      exact fin V (fun D' h => hV _ ⟨D', _, h, rfl⟩) _ rfl
  · obtain ⟨D, b, _, rfl⟩ := I
    rw [rngD_len, show p0 + (r.ls.length - p0) = r.ls.length by omega]
    exact hW _ ⟨_, _, rfl⟩
def nfL (r : Row) (d : PyData) : PyData := match d with
    | .int i => .int (r.ls.getD i.toNat 0)
    | d => d
def nfP (r : Row) (d : PyData) : PyData := match d with
    | .int q => .int ((kc (cnt r) q.toNat : Nat) : Int)
    | d => d
def ltF (q : Nat) (d : PyData) : Option PyData := match d with
    | .int i => if i < (q : Int) then some (.int i) else none
    | _ => none
theorem ltF_map (q : Nat) : ∀ L : List Nat, (L.map natD).filterMap (ltF q) = (L.filter fun i => decide (i < q)).map natD
  | [] => rfl
  | i :: L => by
    rw [List.map_cons, List.filterMap_cons, ltF_map q L]
    unfold natD ltF
    simp only
    by_cases c : i < q
    · rw [if_pos (by omega), List.filter_cons_of_pos (p := fun i => decide (i < q)) (decide_eq_true c)]
      rfl
    · rw [if_neg (by omega), List.filter_cons_of_neg (p := fun i => decide (i < q)) (by rw [decide_eq_false c]; exact Bool.false_ne_true)]
theorem range_lt (f : Nat → Bool) {q n : Nat} (h : q ≤ n) : ((List.range n).filter f).filter (fun i => decide (i < q)) = (List.range q).filter f := by
  have e3 : List.range n = List.range' 0 q ++ List.range' q (n - q) := by
    have := List.range'_append_1 (s := 0) (m := q) (n := n - q)
    rw [Nat.zero_add] at this
    rw [this, List.range_eq_range']
    congr 1
    omega
  rw [List.filter_filter, e3, List.filter_append, List.range_eq_range']
  have e4 : (List.range' q (n - q)).filter (fun i => decide (i < q) && f i) = [] := by
    refine List.filter_eq_nil_iff.mpr fun i hi => ?_
    rw [decide_eq_false (by have := (List.mem_range'_1.mp hi).1; omega)]
    simp
  rw [e4, List.append_nil]
  refine List.filter_congr fun i hi => ?_
  rw [decide_eq_true (by have := (List.mem_range'_1.mp hi).2; omega), Bool.true_and]
theorem nf_ints (r : Row) : ((kept r).map natD).map (nfL r) = (St.nf r).ls.map PyData.int := by
  show _ = (red (cnt r) 0 r.ls).map PyData.int
  rw [← red_get (cnt r) 0 r.ls, List.map_map, List.map_map]
  rfl
theorem nf_nats (r : Row) : (r.ps.map fun (n : Nat) => PyData.int (n : Int)).map (nfP r) = (St.nf r).ps.map fun (n : Nat) => PyData.int (n : Int) := by
  show _ = (r.ps.map (kc (cnt r))).map _
  rw [List.map_map, List.map_map]
  rfl
theorem law_normal_form (ds : List PyData) (Z : Rs → PyData → Prop) (hl : ds.length = ct_normal_form.n) (h : ct_normal_form.pre ds Z) : d_normal_form (endsD ct_normal_form.io Z) (startD 6 ct_normal_form.io ds) := by
  obtain ⟨r, rfl, F, hZ⟩ := h
  show d_normal_form (endsD none Z) [some (.fz (rowD r)), none, none, none, none, none]
  have hfew := F.few
  have hfp := F.fewP
  have hkl := kept_len r r.ls.length
  unfold d_normal_form
  refine dSeq_by (fun ρ => ρ = [some (.fz (rowD r)), some (.fz (intsT r.ls)), some (.fz (natsT r.ps)), none, none, none]) (fun W hW => ?_) fun ρ ee => ?_
  · unfold rowD at hW ⊢
    walk_at "d"
    exact hW _ rfl
  subst ee
  refine dSeq_by (fun ρ => ρ = [some (.fz (rowD r)), some (.fz (intsT r.ls)), some (.fz (natsT r.ps)), some (.fz (.list ((kept r).map natD))), none, none]) (fun W hW => ?_) fun ρ ee => ?_
  · walk_at "d"
    refine ⟨rfl, r, rfl, F, ?_⟩
    walk_at "d"
    exact hW _ rfl
  subst ee
  have hklen : (kept r).length ≤ 100 := by unfold kept; omega
  have hkr : ∀ i ∈ kept r, i < r.ls.length := fun i hi => List.mem_range.mp (List.mem_filter.mp hi).1
  unfold intsT natsT
  simp only [dRet]
  walk_at "e"
  rw [dLc]
  walk_at "e"
  refine ⟨rfl, by omega, ?_⟩
  refine lcLoop_map (nfL r) (fun x hx V hV => ?_) ?_
  · obtain ⟨i, hi, rfl⟩ := List.mem_map.mp hx
    obtain ⟨l, el⟩ := get_at (hkr i hi)
    unfold natD nfL at hV
    unfold natD
    simp only [Int.toNat_natCast, getD_of el] at hV
    walk_at "d"
    exact ⟨_, atI_map el, hV⟩
  walk_at "e"
  rw [dLc]
  walk_at "e"
  refine ⟨rfl, by omega, ?_⟩
  refine lcLoop_map (nfP r) (fun x hx V hV => ?_) ?_
  · obtain ⟨q, hq, rfl⟩ := List.mem_map.mp hx
    unfold nfP at hV
    simp only [Int.toNat_natCast] at hV
    walk_at "d"
    rw [dLc]
    walk_at "e"
    refine ⟨rfl, by omega, ?_⟩
    refine lcLoop_pure (ltF q) (fun x hx V2 hV2 => ?_) ?_
    · obtain ⟨i, hi, rfl⟩ := List.mem_map.mp hx
      unfold natD ltF at hV2
      unfold natD
      simp only at hV2
      walk_at "d"
      by_cases c : (i : Int) < (q : Int)
      · rw [if_pos c] at hV2
        rw [if_pos (decide_eq_true c)]
        exact hV2
      · rw [if_neg c] at hV2
        rw [if_neg (by rw [decide_eq_false c]; exact Bool.false_ne_true)]
        exact hV2
    · have e : (((kept r).map natD).filterMap (ltF q)).length = kc (cnt r) q := by
        rw [ltF_map, List.length_map]
        unfold kept
        rw [range_lt (cnt r) (F.good.inn q hq)]
        rfl
      walk_at "d"
      rw [e]
      exact hV
  rw [nf_ints, nf_nats]
  exact hZ
def subF (d : PyData) : PyData := match d with
    | .int l => .int (l - 1)
    | d => d
theorem subF_map (ls : List Int) : (ls.map PyData.int).map subF = (ls.map (· - 1)).map PyData.int := by
  rw [List.map_map, List.map_map]
  rfl
theorem law_greatest_age (ds : List PyData) (Z : Rs → PyData → Prop) (hl : ds.length = ct_greatest_age.n) (h : ct_greatest_age.pre ds Z) : d_greatest_age (endsD ct_greatest_age.io Z) (startD 5 ct_greatest_age.io ds) := by
  obtain ⟨r, c, p, rfl, hp, F, hZ⟩ := h
  show d_greatest_age (endsD none Z) [some (.fz (rowD r)), some (.fz (.int (c : Int))), none, none, none]
  have hfew := F.nf.few
  unfold d_greatest_age
  refine dSeq_by (fun ρ => ρ = [some (.fz (rowD r)), some (.fz (.int (c : Int))), some (.fz (intsT (St.nf r).ls)), some (.fz (natsT (St.nf r).ps)), none]) (fun W hW => ?_) fun ρ ee => ?_
  · walk_at "d"
    refine ⟨rfl, r, rfl, F, ?_⟩
    generalize St.nf r = r' at hW ⊢
    unfold rowD
    walk_at "d"
    exact hW _ rfl
  subst ee
  unfold intsT natsT
  simp only [dRet]
  walk_at "e"
  rw [dLc]
  walk_at "e"
  refine ⟨_, atI_map (nf_ps hp), ?_⟩
  refine ⟨_, rfl, rfl, ?_⟩
  rw [cut_from, ← List.map_drop]
  refine ⟨by rw [List.length_map, List.length_drop]; omega, ?_⟩
  refine lcLoop_map subF (fun x hx V hV => ?_) ?_
  · obtain ⟨l, _, rfl⟩ := List.mem_map.mp hx
    walk_at "d"
    exact hV
  rw [subF_map]
  walk_at "e"
  refine ⟨_, intsOf_map _, ?_⟩
  exact hZ
def lmF (i : Int) (d : PyData) : Option PyData := match d with
    | .tuple [.int c, .int p] => if p ≤ i then some (.int c) else none
    | _ => none
theorem natsT_range (ps : List Nat) : (ps.map fun (n : Nat) => PyData.int (n : Int)) = (List.range ps.length).map fun c => PyData.int ((ps.getD c 0 : Nat) : Int) := by
  refine List.ext_getElem? fun i => ?_
  by_cases h : i < ps.length
  · obtain ⟨p, e⟩ := get_at h
    rw [List.getElem?_map, e, List.getElem?_map, List.getElem?_range h]
    simp only [Option.map_some]
    rw [getD_of e]
  · rw [List.getElem?_eq_none (by simp; omega), List.getElem?_eq_none (by simp; omega)]
theorem enum_range (f : Nat → PyData) (m : Nat) : enumDs 0 ((List.range m).map f) = (List.range m).map fun (i : Nat) => .tuple [.int (i : Int), f i] := by
  apply List.ext_getElem?
  intro i
  by_cases h : i < m
  · rw [enumDs_get (x := f i) (by simp [h])]
    simp [h]
  · rw [List.getElem?_eq_none (by rw [enumDs_len]; simp; omega), List.getElem?_eq_none (by simp; omega)]
theorem lmF_map (ps : List Nat) (i : Nat) : (enumDs 0 (ps.map fun (n : Nat) => PyData.int (n : Int))).filterMap (lmF (i : Int)) = (((List.range ps.length).filter fun c => decide (ps.getD c 0 ≤ i)).map fun (n : Nat) => ((n : Nat) : Int)).map PyData.int := by
  rw [natsT_range, enum_range]
  generalize List.range ps.length = L
  induction L with
  | nil => rfl
  | cons c L ih =>
    rw [List.map_cons, List.filterMap_cons, ih]
    unfold lmF
    simp only
    by_cases h : ps.getD c 0 ≤ i
    · rw [if_pos (by omega), List.filter_cons_of_pos (p := fun c => decide (ps.getD c 0 ≤ i)) (decide_eq_true h)]
      rfl
    · rw [if_neg (by omega), List.filter_cons_of_neg (p := fun c => decide (ps.getD c 0 ≤ i)) (by rw [decide_eq_false h]; exact Bool.false_ne_true)]
theorem oMax_ints3 {Z : Rs → Prop} {ns : List Int} (h0 : 0 < ns.length) (h : ∀ m, m ∈ ns → (∀ y, y ∈ ns → y ≤ m) → Z (.fz (.int m))) : oMax [.list (ns.map PyData.int)] Z := ⟨ns, intsOf_map ns, h0, h⟩
theorem law_last_moments (ds : List PyData) (Z : Rs → PyData → Prop) (hl : ds.length = ct_last_moments.n) (h : ct_last_moments.pre ds Z) : d_last_moments (endsD ct_last_moments.io Z) (startD 9 ct_last_moments.io ds) := by
  obtain ⟨r, low, rfl, ⟨q0, hq0, hq1⟩, hlow, F, hZ⟩ := h
  show d_last_moments (endsD none Z) [some (.fz (intsT r.ls)), some (.fz (natsT r.ps)), some (.fz (.int (low : Int))), none, none, none, none, none, none]
  have hfew := F.few
  have hfp := F.fewP
  unfold d_last_moments
  refine dSeq_by (fun ρ => ρ = [some (.fz (intsT r.ls)), some (.fz (natsT r.ps)), some (.fz (.int (low : Int))), some (.ow (.list [])), some (.fz (.int 0)), none, none, none, none]) (fun W hW => ?_) fun ρ ee => ?_
  · walk_at "d"
    exact hW _ rfl
  subst ee
  refine dSeq_by (fun ρ => ∃ a b, ρ = [some (.fz (intsT r.ls)), some (.fz (natsT r.ps)), some (.fz (.int (low : Int))), some (.ow (.list ((lastM r (r.ls.length - low)).map tcD))), some (.fz (.int (ageS r.ls low))), a, b, none, none]) (fun W hW => ?_) fun ρ ee => ?_
  rotate_left
  · obtain ⟨a, b, rfl⟩ := ee
    walk_at "d"
    exact ⟨fun _ => trivial, hZ⟩
  unfold intsT natsT at hW ⊢
  simp only [dFor]
  walk_at "e"
  refine ⟨_, RgC.neg (by omega) (by omega) (by omega) (by omega), ?_⟩
  rw [show ((r.ls.length : Int) - 1 - ((low : Int) - 1)).toNat = r.ls.length - low by omega]
  refine loopD_inv (fun k ρ => ∃ a b, ρ = [some (.fz (.tuple (r.ls.map PyData.int))), some (.fz (.tuple (r.ps.map fun (n : Nat) => PyData.int (n : Int)))), some (.fz (.int (low : Int))), some (.ow (.list ((lastM r k).map tcD))), some (.fz (.int (ageS r.ls (r.ls.length - k)))), a, b, none, none])
    ⟨none, none, by rw [Nat.sub_zero, ageS_end (Nat.le_refl _)]; rfl⟩ (fun k x ρ V hx I hV => ?_) fun ρ I => ?_
  · obtain ⟨a, b, rfl⟩ := I
    have hk := get_lt hx
    rw [rngC_len] at hk
    have hi : ∃ i, i + 1 + k = r.ls.length := ⟨r.ls.length - 1 - k, by omega⟩
    obtain ⟨i, hi⟩ := hi
    have hx2 : x = .int (i : Int) := by
      unfold rngC at hx
      rw [List.getElem?_map, List.getElem?_range hk] at hx
      have e := Option.some.inj hx
      rw [← e]
      show PyData.int ((r.ls.length : Int) - 1 + (k : Int) * (-1)) = PyData.int (i : Int)
      rw [show ((r.ls.length : Int) - 1 + (k : Int) * (-1)) = (i : Int) by omega]
    subst hx2
    obtain ⟨l, el⟩ := get_at (show i < r.ls.length by omega)
    have hml := lastM_len r k
    rw [lastM, show r.ls.length - 1 - k = i by omega, show r.ls.length - k = i + 1 by omega, show r.ls.length - (k + 1) = i by omega, ageS_get el, List.map_append, List.map_cons, List.map_nil, tcD_mk] at hV
    rw [show r.ls.length - k = i + 1 by omega]
    walk_at "d"
    rw [dLc]
    walk_at "e"
    refine ⟨rfl, by rw [enumDs_len, List.length_map]; omega, ?_⟩
    refine lcLoop_pure (lmF (i : Int)) (fun x hx V2 hV2 => ?_) ?_
    · obtain ⟨j, hj, e2⟩ := List.getElem_of_mem hx
      have hx2 := List.getElem?_eq_some_iff.mpr ⟨hj, e2⟩
      rw [enumDs_len, List.length_map] at hj
      obtain ⟨y, hy⟩ := get_at hj
      have hx3 := enumDs_get (k := 0) (xs := r.ps.map fun (n : Nat) => PyData.int (n : Int)) (i := j) (x := .int (y : Int)) (by rw [List.getElem?_map, hy]; rfl)
      rw [hx2] at hx3
      cases hx3
      unfold lmF at hV2
      simp only at hV2
      walk_at "d"
      by_cases h : (y : Int) ≤ (i : Int)
      · rw [if_pos h] at hV2
        rw [if_pos (decide_eq_true h)]
        exact hV2
      · rw [if_neg h] at hV2
        rw [if_neg (by rw [decide_eq_false h]; exact Bool.false_ne_true)]
        exact hV2
    · rw [lmF_map]
      walk_at "d"
      obtain ⟨n1, p, n2, n3, n4⟩ := near_props F.good.up hq0 (show q0 ≤ i by omega)
      have hmem : near r.ps i ∈ (List.range r.ps.length).filter fun c => decide (r.ps.getD c 0 ≤ i) := by
        refine List.mem_filter.mpr ⟨List.mem_range.mpr n1, ?_⟩
        rw [getD_of n2]
        exact decide_eq_true n3
      refine oMax_ints3 (List.length_pos_iff.mpr fun z => ?_) fun m h1 h2 => ?_
      · rw [List.map_eq_nil_iff.mp z] at hmem
        cases hmem
      · obtain ⟨n, hn, rfl⟩ := List.mem_map.mp h1
        have en : n = near r.ps i := by
          have := foldl_max_eq hn fun y hy => by
            have := h2 _ (List.mem_map.mpr ⟨y, hy, rfl⟩)
            omega
          exact this.symm
        subst en
        walk_at "d"
        refine ⟨⟨_, _, rfl, rfl, rfl⟩, by omega, ?_⟩
        refine ⟨_, atI_map el, ?_⟩
        rw [Int.add_comm (l - 1)] at hV
        exact hV _ ⟨_, _, rfl⟩
  · obtain ⟨a, b, rfl⟩ := I
    rw [rngC_len, show r.ls.length - (r.ls.length - low) = low by omega]
    exact hW _ ⟨_, _, rfl⟩
theorem law_oldest (ds : List PyData) (Z : Rs → PyData → Prop) (hl : ds.length = ct_oldest.n) (h : ct_oldest.pre ds Z) : d_oldest (endsD ct_oldest.io Z) (startD 6 ct_oldest.io ds) := by
  obtain ⟨r, c, p, rfl, hp, F, hZ⟩ := h
  show d_oldest (endsD none Z) [some (.fz (rowD r)), some (.fz (.int (c : Int))), none, none, none, none]
  have hp2 := nf_ps hp
  have F2 := F.nf
  have hfew := F2.few
  unfold d_oldest
  refine dSeq_by (fun ρ => ρ = [some (.fz (rowD r)), some (.fz (.int (c : Int))), some (.fz (intsT (St.nf r).ls)), some (.fz (natsT (St.nf r).ps)), none, none]) (fun W hW => ?_) fun ρ ee => ?_
  · walk_at "d"
    refine ⟨rfl, r, rfl, F, ?_⟩
    generalize St.nf r = r' at hW ⊢
    unfold rowD
    walk_at "d"
    exact hW _ rfl
  subst ee
  have hle := F2.good.inn _ (get_mem hp2)
  generalize kc (cnt r) p = p2 at hZ hp2 hle
  have hlm := lastM_len (St.nf r) ((St.nf r).ls.length - p2)
  refine dSeq_by (fun ρ => ρ = [some (.fz (rowD r)), some (.fz (.int (c : Int))), some (.fz (intsT (St.nf r).ls)), some (.fz (natsT (St.nf r).ps)), some (.fz (.list ((lastM (St.nf r) ((St.nf r).ls.length - p2)).map tcD))), some (.fz (.int (ageS (St.nf r).ls p2)))]) (fun W hW => ?_) fun ρ ee => ?_
  · rw [dAsg]
    unfold natsT at hW ⊢
    walk_at "e"
    refine ⟨_, atI_map hp2, ?_⟩
    refine ⟨rfl, St.nf r, p2, rfl, ⟨p2, get_mem hp2, Nat.le_refl _⟩, hle, F2, ?_⟩
    walk_at "d"
    exact hW _ rfl
  subst ee
  walk_at "d"
  refine ⟨by omega, ?_⟩
  unfold oldS schD at hZ
  rw [List.map_append, List.map_cons, List.map_nil, tcD_mk] at hZ
  exact hZ
theorem law_is_schedule (ds : List PyData) (Z : Rs → PyData → Prop) (hl : ds.length = ct_is_schedule.n) (h : ct_is_schedule.pre ds Z) : d_is_schedule (endsD ct_is_schedule.io Z) (startD 6 ct_is_schedule.io ds) := by
  obtain ⟨r, s, m, rfl, hm, hlen, hx, up, hZ⟩ := h
  show d_is_schedule (endsD none Z) [some (.fz (rowD r)), some (.fz (schD s)), some (.fz (.int m)), none, none, none]
  unfold d_is_schedule
  refine dSeq_by (fun ρ => ρ = [some (.fz (rowD r)), some (.fz (schD s)), some (.fz (.int m)), none, none, none]) (fun W hW => ?_) fun ρ ee => ?_
  · unfold schD at hW ⊢
    walk_at "d"
    rw [if_neg (by rw [decide_eq_false (by omega)]; exact Bool.false_ne_true)]
    exact hW _ rfl
  subst ee
  refine dSeq_by (fun ρ => ∃ a, ρ = [some (.fz (rowD r)), some (.fz (schD s)), some (.fz (.int m)), a, none, none]) (fun W hW => ?_) fun ρ ee => ?_
  · unfold schD at hW ⊢
    simp only [dFor]
    walk_at "e"
    refine loopD_inv (fun k ρ => ∃ a, ρ = [some (.fz (rowD r)), some (.fz (.tuple (s.map tcD))), some (.fz (.int m)), a, none, none]) ⟨_, rfl⟩ (fun k x ρ V hx2 I hV => ?_) fun ρ I => hW _ I
    obtain ⟨a, rfl⟩ := I
    obtain ⟨⟨t, c⟩, hs, rfl⟩ := map_get hx2
    obtain ⟨h1, h2, h3⟩ := hx _ (get_mem hs)
    rw [tcD_mk]
    unfold rowD natsT at hV ⊢
    walk_at "d"
    refine ⟨by decide, rfl, t, 0, _, rfl, by omega, by simpa using h3, ?_⟩
    walk_at "d"
    refine ⟨rfl, c, 0, _, rfl, by omega, by omega, ?_⟩
    walk_at "d"
    exact hV _ ⟨_, rfl⟩
  obtain ⟨a, rfl⟩ := ee
  have hcl : cut (s.map tcD) (some 1) none = (s.drop 1).map tcD := by
    have := cut_from (s.map tcD) 1
    rw [List.map_drop]
    exact this
  unfold schD
  rw [dRet]
  walk_at "e"
  rw [dLc]
  walk_at "e"
  refine ⟨_, _, rfl, rfl, rfl, ?_, ?_⟩
  · have := (zipDs_len (s.map tcD) (cut (s.map tcD) (some 1) none)).1
    rw [List.length_map] at this
    omega
  rw [hcl]
  refine lcLoop_pure (fun _ => none) (fun x hx2 V hV => ?_) ?_
  · obtain ⟨i, hi, e2⟩ := List.getElem_of_mem hx2
    obtain ⟨y, z, hy, hz, hyz⟩ := zipDs_get hi
    have hx3 := List.getElem?_eq_some_iff.mpr ⟨hi, e2⟩
    rw [hyz] at hx3
    cases hx3
    obtain ⟨⟨t, c⟩, h1, rfl⟩ := map_get hy
    obtain ⟨⟨t2, c2⟩, h2, rfl⟩ := map_get hz
    rw [List.getElem?_drop] at h2
    obtain ⟨b1, b2⟩ := List.getElem?_eq_some_iff.mp h1
    obtain ⟨c1, c2⟩ := List.getElem?_eq_some_iff.mp h2
    have := List.pairwise_iff_getElem.mp up i (1 + i) b1 c1 (by omega)
    rw [b2, c2] at this
    simp only at this
    rw [tcD_mk, tcD_mk]
    walk_at "d"
    rw [if_neg (by rw [decide_eq_false (by omega)]; exact Bool.false_ne_true)]
    exact hV
  · have e : (zipDs (s.map tcD) ((s.drop 1).map tcD)).filterMap (fun _ => (none : Option PyData)) = [] := by simp
    rw [e]
    refine oEq_same (n := 1) (by decide) (nob_ints 0 []).flat ?_
    walk_at "d"
    exact hZ
/-- the dict of the distances behind k caches -/
structure DistOk (r : Row) (p0 k : Nat) (m : List (Int × Int)) : Prop where
  has : ∀ i : Nat, i < k → p0 ≤ i → aget m (i : Int) = some (dst r.ls r.ps i)
  non : ∀ j : Int, (j < (p0 : Int) ∨ (k : Int) ≤ j) → aget m j = none
  len : m.length ≤ k
theorem DistOk.put {r : Row} {p0 k : Nat} {m : List (Int × Int)} (D : DistOk r p0 k m) (h : p0 ≤ k) : DistOk r p0 (k + 1) (aput m (k : Int) (dst r.ls r.ps k)) := by
  refine ⟨fun i h1 h2 => ?_, fun j h1 => ?_, by have := aput_len m (k : Int) (dst r.ls r.ps k); have := D.len; omega⟩
  · rw [aget_aput]
    by_cases e : (k : Int) = (i : Int)
    · rw [if_pos e]
      have : k = i := by omega
      rw [this]
    · rw [if_neg e]
      exact D.has i (by omega) h2
  · rw [aget_aput, if_neg (by omega)]
    exact D.non j (by omega)
theorem DistOk.skip {r : Row} {p0 k : Nat} {m : List (Int × Int)} (D : DistOk r p0 k m) (h : k < p0) : DistOk r p0 (k + 1) m :=
  ⟨fun i h1 h2 => D.has i (by omega) h2, fun j h1 => D.non j (by omega), by have := D.len; omega⟩
theorem law_lcounting (ds : List PyData) (Z : Rs → PyData → Prop) (hl : ds.length = ct_lcounting.n) (h : ct_lcounting.pre ds Z) : d_lcounting (endsD ct_lcounting.io Z) (startD 6 ct_lcounting.io ds) := by
  obtain ⟨r, rfl, F, hZ⟩ := h
  show d_lcounting (endsD none Z) [some (.fz (rowD r)), none, none, none, none, none]
  have hfew := F.few
  obtain ⟨p0, hp0⟩ := get_at (l := r.ps) (k := 0) (List.length_pos_iff.mpr F.good.p0)
  have hpm := get_mem hp0
  have hpn := F.good.inn p0 hpm
  have hd0 : r.ps.getD 0 0 = p0 := getD_of hp0
  unfold d_lcounting
  refine dSeq_by (fun ρ => ρ = [some (.fz (rowD r)), some (.fz (intsT r.ls)), some (.fz (natsT r.ps)), none, none, none]) (fun W hW => ?_) fun ρ ee => ?_
  · unfold rowD at hW ⊢
    walk_at "d"
    exact hW _ rfl
  subst ee
  refine dSeq_by (fun ρ => ρ = [some (.fz (rowD r)), some (.fz (intsT r.ls)), some (.fz (natsT r.ps)), some (.ow (.list [])), some (.ow (.dict (([] : List (Int × Int)).map dkv))), none]) (fun W hW => ?_) fun ρ ee => ?_
  · walk_at "d"
    exact hW _ rfl
  subst ee
  refine dSeq_by (fun ρ => ∃ a b, ρ = [some (.fz (rowD r)), some (.fz (intsT r.ls)), some (.fz (natsT r.ps)), some (.ow (.list ((kept r).map natD))), a, b]) (fun W hW => ?_) fun ρ ee => ?_
  rotate_left
  · obtain ⟨a, b, rfl⟩ := ee
    walk_at "d"
    exact hZ
  unfold intsT natsT at hW ⊢
  simp only [dFor]
  walk_at "e"
  refine ⟨by omega, by omega, ?_⟩
  refine loopD_inv (fun k ρ => ∃ (m : List (Int × Int)) (b : Option Sl), DistOk r p0 k m ∧ ρ = [some (.fz (rowD r)), some (.fz (.tuple (r.ls.map PyData.int))), some (.fz (.tuple (r.ps.map fun (n : Nat) => PyData.int (n : Int)))), some (.ow (.list (((List.range k).filter (cnt r)).map natD))), some (.ow (.dict (m.map dkv))), b])
    ⟨[], none, ⟨fun i h => absurd h (by omega), fun j _ => rfl, Nat.le_refl _⟩, rfl⟩ (fun k x ρ V hx I hV => ?_) fun ρ I => ?_
  · obtain ⟨m, b, D, rfl⟩ := I
    obtain ⟨hk, rfl⟩ := rngD_at hx
    have hlt : k < r.ls.length := by omega
    obtain ⟨l, el⟩ := get_at hlt
    rw [Int.zero_add, dgName]
    refine dSeq_by (fun ρ => ∃ m', DistOk r p0 (k + 1) m' ∧ ρ = [some (.fz (rowD r)), some (.fz (.tuple (r.ls.map PyData.int))), some (.fz (.tuple (r.ps.map fun (n : Nat) => PyData.int (n : Int)))), some (.ow (.list (((List.range k).filter (cnt r)).map natD))), some (.ow (.dict (m'.map dkv))), some (.fz (.int (k : Int)))]) (fun W2 hW2 => ?_) fun ρ ee => ?_
    · rw [dIfS]
      walk_at "e"
      refine oIn_nats ?_
      have hml := D.len
      by_cases c : k ∈ r.ps
      · have hle : p0 ≤ k := by have := least F.good.up c; omega
        have hd : dst r.ls r.ps k = 1 := by
          cases hi : k with
          | zero => rfl
          | succ i => unfold dst; rw [if_pos (hi ▸ c)]
        rw [decide_eq_true c]
        walk_at "d"
        refine putsD_dm (by omega) ?_
        rw [← hd]
        exact hW2 _ ⟨_, D.put hle, rfl⟩
      · rw [decide_eq_false c]
        walk_at "d"
        refine atD_dm ?_
        by_cases c2 : p0 < k
        · have hg := D.has (k - 1) (by omega) (by omega)
          rw [show ((k - 1 : Nat) : Int) = (k : Int) - 1 by omega] at hg
          obtain ⟨l', el'⟩ := get_at (show k - 1 < r.ls.length by omega)
          have hd : dst r.ls r.ps k = max (dst r.ls r.ps (k - 1)) l' := by
            obtain ⟨i, rfl⟩ : ∃ i, k = i + 1 := ⟨k - 1, by omega⟩
            conv => lhs; unfold dst
            rw [if_neg c]
            simp only [Nat.add_sub_cancel] at el' ⊢
            rw [getD_of el']
          rw [hg]
          simp only [Option.map_some, Option.isSome_some]
          walk_at "d"
          unfold dDGet
          walk_at "e"
          unfold oDGet
          refine atD_dm ?_
          rw [hg]
          refine ⟨_, rfl, ?_⟩
          walk_at "d"
          rw [show (k : Int) - 1 = ((k - 1 : Nat) : Int) by omega]
          refine ⟨_, atI_map el', ?_⟩
          walk_at "d"
          refine putsD_dm (by omega) ?_
          have e : (if l' > dst r.ls r.ps (k - 1) then l' else dst r.ls r.ps (k - 1)) = dst r.ls r.ps k := by
            rw [hd]
            omega
          rw [e]
          exact hW2 _ ⟨_, D.put (by omega), rfl⟩
        · have hne : k ≠ p0 := fun z => c (z ▸ hpm)
          have hg := D.non ((k : Int) - 1) (.inl (by omega))
          rw [hg]
          simp only [Option.map_none, Option.isSome_none]
          walk_at "d"
          exact hW2 _ ⟨_, D.skip (by omega), rfl⟩
    · obtain ⟨m', D', rfl⟩ := ee
      have hkl := kept_len r k
      rw [range_snoc_filter] at hV
      rw [dIfS]
      walk_at "e"
      refine atD_dm ?_
      by_cases c2 : p0 ≤ k
      · have hg := D'.has k (by omega) c2
        have hcnt : cnt r k = decide (dst r.ls r.ps k < l) := by
          unfold cnt
          rw [hd0, decide_eq_true c2, Bool.true_and, getD_of el]
        rw [hcnt] at hV
        rw [hg]
        simp only [Option.map_some, Option.isSome_some]
        walk_at "e"
        refine ⟨_, atI_map el, ?_⟩
        unfold dDGet
        walk_at "e"
        unfold oDGet
        refine atD_dm ?_
        rw [hg]
        refine ⟨_, rfl, ?_⟩
        walk_at "d"
        by_cases c : dst r.ls r.ps k < l
        · rw [if_pos (decide_eq_true c), List.map_append] at hV
          rw [if_pos (decide_eq_true c)]
          exact ⟨⟨_, _, rfl, rfl, rfl⟩, by omega, hV _ ⟨_, _, D', rfl⟩⟩
        · rw [if_neg (by rw [decide_eq_false c]; exact Bool.false_ne_true)] at hV
          rw [if_neg (by rw [decide_eq_false c]; exact Bool.false_ne_true)]
          exact hV _ ⟨_, _, D', rfl⟩
      · have hg := D'.non (k : Int) (.inl (by omega))
        have hcnt : cnt r k = false := by
          unfold cnt
          rw [hd0, decide_eq_false c2, Bool.false_and]
        rw [hcnt, if_neg Bool.false_ne_true] at hV
        rw [hg]
        simp only [Option.map_none, Option.isSome_none]
        walk_at "d"
        exact hV _ ⟨_, _, D', rfl⟩
  · obtain ⟨m, b, _, rfl⟩ := I
    rw [rngD_len]
    exact hW _ ⟨_, _, rfl⟩
end St
set_option Elab.async false
set_option linter.all false
set_option maxRecDepth 100000
set_option maxHeartbeats 4000000
namespace St
open PySem L2 Dl
/-! the data reading unfolded as far as it goes -/
local macro_rules | `(tactic| walk_at "d") => `(tactic| simp (config := { decide := false }) only [dSeq, dAsg, dAsgO, dAppS, dApp, dSetS, dSet, dAug, dRet, dRetN, dDrop, dDPut, dDGet2, dDNewK, dDNewT, dIfS, dFor, dNext, dBreak, dCont, dOp1, dOp2, dTup, dLst, dCons, dNil, dC, dCB, dVar, dVarR, dIfE, dTest, dAnd, dOr, dNot, dAndV, dOrV, dNotV, dChain, dCall, dCallL, dCallIO, dIsi, dSl, dPart, dNoPart, dSeqI, dRng1, dRng2, dDGet2, dDNewK, dDNewT, dRng3, dEnum, dZip, stoAll, itemsD, Option.some.injEq, exists_eq_left', dYes, dIx0, dRetT, dgName, dgTup, dgCons, dgNil, oFdiv, oMod, oPow, oLt, oLe, oGt, oGe, cmpD,
  wipeD, restD, Option.getD_some, Option.getD_none, Int.zero_add, Int.toNat_natCast, isi_lt_lst, isi_lt_tup, isi_lt_non, isi_lt_bl, isi_lt_int, isi_lt_str, isi_int_non, isi_int_bl, isi_int_int, isi_int_str, isi_int_lst, isi_int_tup, isi_bl_non, isi_bl_bl, isi_bl_int, isi_bl_str, isi_bl_lst, isi_bl_tup, isi_tup_non, isi_tup_bl, isi_tup_int, isi_tup_str, isi_tup_lst, isi_tup_tup, oEq_int, oNe_int, oEq_bl, oNe_bl, eq_self, decide_true, ixN_31, ixN_32, atI_0, atI_1, atI_2, atI_3, oIx_tup, oIx_lst, oLen_tup, oLen_lst, oListOf_tup, oListOf_lst, oTupOf_tup, oTupOf_lst, oAdd_int, oAdd_tup, oAdd_lst, oMul_int, oMul_tup, oMul_lst, dI0_int, dI_int, oIs_non, oIs_bl, isN_non, isN_int, isN_tup, isN_lst, isN_bl, oNeg_int, oMin2_int, oMax2_int, oInt_int, oInt_bl, oSl_tup, oSl_lst, ends_fz, ends_nw, ends_np, ends_nx, ends_br, ends_fzi, ends_nwi, ends_bri, retD_br,
  List.getElem?_cons_zero, List.getElem?_cons_succ, List.set_cons_zero, List.set_cons_succ, List.length_cons, List.length_nil, List.length_map, List.map_cons, List.map_nil, List.length_append, dat_fz, dat_nw, dat_br, dat_np, sto_fz, sto_nw, sto_np, sto_br, stoAll, datAt, Sl.dat, Sl.own, Sl.with, ioSlot, stoBut, if_true, true_and, and_true, reduceCtorEq, Option.some.injEq, PyData.int.injEq, PyData.tuple.injEq, PyData.list.injEq, PyData.bool.injEq,  exists_eq_left', exists_eq_left, Bool.true_eq_false, Bool.false_eq_true, if_false, Bool.true_xor, Bool.false_xor, Bool.not_true, Bool.not_false,
  Nat.reduceAdd, Nat.reduceLeDiff, Nat.reduceEqDiff, Nat.reduceLT, Int.reduceNeg, Int.reduceLE, Int.reduceLT, Nat.zero_le, ne_eq, not_false_eq_true, List.cons_ne_nil, not_true_eq_false])
local macro_rules | `(tactic| walk_at "e") => `(tactic| simp (config := { decide := false }) only [dOp1, dOp2, dTup, dLst, dCons, dNil, dC, dCB, dVar, dVarR, dIfE, dTest, dAnd, dOr, dNot, dAndV, dOrV, dNotV, dChain, dCall, dCallL, dCallIO, dIsi, dSl, dPart, dNoPart, dSeqI, dRng1, dRng2, dDGet2, dDNewK, dDNewT, dRng3, dEnum, dZip, stoAll, itemsD, Option.some.injEq, exists_eq_left', dYes, dIx0, oFdiv, oMod, oPow, oLt, oLe, oGt, oGe, cmpD,
  wipeD, restD, Option.getD_some, Option.getD_none, Int.zero_add, Int.toNat_natCast, isi_lt_lst, isi_lt_tup, isi_lt_non, isi_lt_bl, isi_lt_int, isi_lt_str, isi_int_non, isi_int_bl, isi_int_int, isi_int_str, isi_int_lst, isi_int_tup, isi_bl_non, isi_bl_bl, isi_bl_int, isi_bl_str, isi_bl_lst, isi_bl_tup, isi_tup_non, isi_tup_bl, isi_tup_int, isi_tup_str, isi_tup_lst, isi_tup_tup, oEq_int, oNe_int, oEq_bl, oNe_bl, eq_self, decide_true, ixN_31, ixN_32, atI_0, atI_1, atI_2, atI_3, oIx_tup, oIx_lst, oLen_tup, oLen_lst, oListOf_tup, oListOf_lst, oTupOf_tup, oTupOf_lst, oAdd_int, oAdd_tup, oAdd_lst, oMul_int, oMul_tup, oMul_lst, dI0_int, dI_int, oIs_non, oIs_bl, isN_non, isN_int, isN_tup, isN_lst, isN_bl, oNeg_int, oMin2_int, oMax2_int, oInt_int, oInt_bl, oSl_tup, oSl_lst, ends_fz, ends_nw, ends_np, ends_nx, ends_br, ends_fzi, ends_nwi, ends_bri, retD_br,
  List.getElem?_cons_zero, List.getElem?_cons_succ, List.set_cons_zero, List.set_cons_succ, List.length_cons, List.length_nil, List.length_map, List.map_cons, List.map_nil, List.length_append, dat_fz, dat_nw, dat_br, dat_np, sto_fz, sto_nw, sto_np, sto_br, stoAll, datAt, Sl.dat, Sl.own, Sl.with, ioSlot, stoBut, if_true, true_and, and_true, reduceCtorEq, Option.some.injEq, PyData.int.injEq, PyData.tuple.injEq, PyData.list.injEq, PyData.bool.injEq,  exists_eq_left', exists_eq_left, Bool.true_eq_false, Bool.false_eq_true, if_false, Bool.true_xor, Bool.false_xor, Bool.not_true, Bool.not_false,
  Nat.reduceAdd, Nat.reduceLeDiff, Nat.reduceEqDiff, Nat.reduceLT, Int.reduceNeg, Int.reduceLE, Int.reduceLT, Nat.zero_le, ne_eq, not_false_eq_true, List.cons_ne_nil, not_true_eq_false])
def itD (x : Nat × Int) : PyData := .tuple [.int (x.1 : Int), .int x.2]
def itemsR (r : Row) : List (Nat × Int) := itm r (r.ls.length + r.ps.length) 0 r.ps.length
def ct_items : CT := CT.mk 1 none fun ds Z => ∃ r : Row, ds = [rowD r] ∧ Fine r ∧ r.ps.getD 0 0 = 0 ∧ Z (.nw (.list ((itemsR r).map itD))) .none
def ct_equal : CT := CT.mk 2 none fun ds Z => ∃ r1 r2 : Row, ds = [rowD r1, rowD r2] ∧ Fine r1 ∧ Fine r2 ∧ Z (.fz (.bool (decide ((St.nf r1).ls = (St.nf r2).ls ∧ (St.nf r1).ps = (St.nf r2).ps)))) .none
/-- reads of both rows, answered otherwise -/
structure SepOk (r1 r2 : Row) (s : Sch) : Prop where
  len : s.length ≤ 1 + r1.ls.length + 1
  cl : ∀ x ∈ s, x.2 < r1.ps.length ∧ 0 ≤ x.1
  hi : ∀ w : Int, 0 ≤ w → (∀ l ∈ r1.ls, l ≤ w + 1) → ∀ x ∈ s, x.1 ≤ w * r1.ls.length + w + 1
  up : s.Pairwise (fun x y => x.1 ≤ y.1)
  ne : answers r1 s ≠ answers r2 s
def ct_separating : CT := CT.mk 2 none fun ds Z => ∃ r1 r2 : Row, ds = [rowD r1, rowD r2] ∧ Fine r1 ∧ Fine r2 ∧ r1.ps.length = r2.ps.length ∧ (St.nf r1 = St.nf r2 → Z (.fz .none) .none) ∧ (St.nf r1 ≠ St.nf r2 → ∀ s, SepOk r1 r2 s → Z (.fz (schD s)) .none)
def t_items (K : PySem.W.Frag) : TS := (tSeq (tAsg (tVar 0) (gTup K 2 (gCons (gName 1) (gCons (gName 2) gNil))))
  (tSeq (tAsg (tLst tNil) (gName 3))
  (tSeq (tFor (iRng3 (tCons (tCB (rLenU K) (tCons (tVar 1) tNil)) (tCons (tUn (rU fun i => .int (-i)) (tC (.int 1))) (tCons (tUn (rU fun i => .int (-i)) (tC (.int 1))) tNil)))) (gName 4) (tSeq (tDrop (tBM K "list" rExtend (tVar 3) (tCons (tLc (iRng3 (tCons (tOp (rI0 fun i j => .int (i - j)) (tCB (rLenU K) (tCons (tVar 2) tNil)) (tC (.int 1))) (tCons (tUn (rU fun i => .int (-i)) (tC (.int 1))) (tCons (tUn (rU fun i => .int (-i)) (tC (.int 1))) tNil)))) (gName 5) (tTest (tOp (rEqD K) (tOp (rIx K) (tVar 2) (tVar 5)) (tVar 4))) (tTup (tCons (tC (.int 0)) (tCons (tVar 5) tNil))) [5]) tNil)))
  (tIfS (tTest (tOp (rI0 fun i j => .bl (decide (j < i))) (tVar 4) (tC (.int 0)))) (tDrop (tBM K "list" rAppend (tVar 3) (tCons (tTup (tCons (tC (.int 1)) (tCons (tOp (rIx K) (tVar 1) (tOp (rI0 fun i j => .int (i - j)) (tVar 4) (tC (.int 1)))) tNil))) tNil))) tNext)))
  (tRet (tVar 3)))))

def d_items : DS := (dSeq (dAsg (dVar 0) (dgTup 2 (dgCons (dgName 1) (dgCons (dgName 2) dgNil))))
  (dSeq (dAsgO (dLst dNil) 3)
  (dSeq (dFor (dRng3 (dCons (dCB oLen (dCons (dVar 1) dNil)) (dCons (dOp1 oNeg (dC (.int 1))) (dCons (dOp1 oNeg (dC (.int 1))) dNil)))) (dgName 4) (dSeq (dExtS 3 (dLc (dRng3 (dCons (dOp2 (dI0 fun i j => .int (i - j)) (dCB oLen (dCons (dVar 2) dNil)) (dC (.int 1))) (dCons (dOp1 oNeg (dC (.int 1))) (dCons (dOp1 oNeg (dC (.int 1))) dNil)))) (dgName 5) (dTest (dOp2 oEq (dOp2 oIx (dVar 2) (dVar 5)) (dVar 4))) (dTup (dCons (dC (.int 0)) (dCons (dVar 5) dNil))) [5]))
  (dIfS (dTest (dOp2 oGt (dVar 4) (dC (.int 0)))) (dAppS 3 (dTup (dCons (dC (.int 1)) (dCons (dOp2 oIx (dVar 1) (dOp2 (dI0 fun i j => .int (i - j)) (dVar 4) (dC (.int 1)))) dNil)))) dNext)))
  (dRet (dVar 3)))))

theorem sim_items {K : PySem.W.Frag} : SimS (t_items K) d_items := (simS_seq (simS_asg simE_var (simG_tup (simGs_cons simG_name (simGs_cons simG_name simGs_nil))))
  (simS_seq (simS_asgO (i := 3) (simE_lst simA_nil))
  (simS_seq (simS_for (simI_rng3 (simA_cons (simE_cb simRN_len (simA_cons simE_var simA_nil)) (simA_cons (simE_op1 simR1_neg (simE_c fun _ _ => .int _)) (simA_cons (simE_op1 simR1_neg (simE_c fun _ _ => .int _)) simA_nil)))) simG_name (simS_seq (simS_ext (simE_lc (simI_rng3 (simA_cons (simE_op2 simR2_sub (simE_cb simRN_len (simA_cons simE_var simA_nil)) (simE_c fun _ _ => .int _)) (simA_cons (simE_op1 simR1_neg (simE_c fun _ _ => .int _)) (simA_cons (simE_op1 simR1_neg (simE_c fun _ _ => .int _)) simA_nil)))) simG_name (tg_name (by decide)) (simT_test (simE_op2 simR2_eq (simE_op2 simR2_ix simE_var simE_var) simE_var)) (simE_tup (simA_cons (simE_c fun _ _ => .int _) (simA_cons simE_var simA_nil)))))
  (simS_if (simT_test (simE_op2 simR2_gt simE_var (simE_c fun _ _ => .int _))) (simS_app (simE_tup (simA_cons (simE_c fun _ _ => .int _) (simA_cons (simE_op2 simR2_ix simE_var (simE_op2 simR2_sub simE_var (simE_c fun _ _ => .int _))) simA_nil)))) simS_next)))
  (simS_ret simE_var))))

def t_equal (K : PySem.W.Frag) : TS := (tRet (tOp (rEqD K) (tCall (spD ct_normal_form) [] E0 (tCons (tVar 0) tNil)) (tCall (spD ct_normal_form) [] E0 (tCons (tVar 1) tNil))))

def d_equal : DS := (dRet (dOp2 oEq (dCall ct_normal_form (dCons (dVar 0) dNil)) (dCall ct_normal_form (dCons (dVar 1) dNil))))

theorem sim_equal {K : PySem.W.Frag} : SimS (t_equal K) d_equal := (simS_ret (simE_op2 simR2_eq (simE_call rfl (simA_cons simE_var simA_nil)) (simE_call rfl (simA_cons simE_var simA_nil))))

def t_separating (K : PySem.W.Frag) : TS := (tSeq (tIfS (tB (tCall (spD ct_equal) [] E0 (tCons (tVar 0) (tCons (tVar 1) tNil)))) (tRet (tC .non)) tNext)
  (tSeq (tPar 2 3 (tCons (tCall (spD ct_items) [] E0 (tCons (tCall (spD ct_normal_form) [] E0 (tCons (tVar 0) tNil)) tNil)) (tCons (tCall (spD ct_items) [] E0 (tCons (tCall (spD ct_normal_form) [] E0 (tCons (tVar 1) tNil)) tNil)) tNil)))
  (tSeq (tAsg (tOp (rIx K) (tLc (iEnumZip K (tCons (tVar 2) (tCons (tVar 3) tNil))) (gTup K 2 (gCons (gName 13) (gCons (gTup K 2 (gCons (gName 14) (gCons (gName 15) gNil))) gNil))) (tTest (tOp (rNeD K) (tVar 14) (tVar 15))) (tVar 13) [13, 14, 15]) (tC (.int 0))) (gName 4))
  (tSeq (tAsg (tCB (rLenU K) (tCons (tLc (iSeq K (tSl (rSlU K) (tVar 2) tNoPart (tPart (tVar 4)))) (gTup K 2 (gCons (gName 16) (gCons (gName 17) gNil))) (tTest (tOp (rEqD K) (tVar 16) (tC (.int 1)))) (tVar 16) [16, 17]) tNil)) (gName 5))
  (tSeq (tAsg (tOp (rI0 fun i j => .int (i - j)) (tOp (rI0 fun i j => .int (i - j)) (tCB (rLenU K) (tCons (tOp (rIx K) (tVar 0) (tC (.int 1))) tNil)) (tC (.int 1))) (tOp (rI0 fun i j => .int (i - j)) (tVar 4) (tVar 5))) (gName 6))
  (tSeq (tAsg (tCall (spD ct_normal_form) [] E0 (tCons (tVar 0) tNil)) (gTup K 2 (gCons (gName 7) (gCons (gName 8) gNil))))
  (tSeq (tAsg (tOp (rI0 fun i j => .int (i - j)) (tCB (rLenU K) (tCons (tVar 7) tNil)) (tVar 5)) (gName 9))
  (tSeq (tAsg (tCall (spD ct_last_moments) [] E0 (tCons (tVar 7) (tCons (tVar 8) (tCons (tVar 9) tNil)))) (gTup K 2 (gCons (gName 10) (gCons (gName 11) gNil))))
  (tSeq (tAsg (tCB (rMin K) (tCons (tLc (iSeq K (tTup (tCons (tOp (rIx K) (tVar 2) (tVar 4)) (tCons (tOp (rIx K) (tVar 3) (tVar 4)) tNil)))) (gTup K 2 (gCons (gName 16) (gCons (gName 17) gNil))) tYes (tIf (tTest (tOp (rEqD K) (tVar 16) (tC (.int 1)))) (tVar 17) (tC (.int 1))) [16, 17]) tNil)) (gName 12))
  (tRet (tCB (rTupOf K) (tCons (tOp (rAddU K) (tVar 10) (tLst (tCons (tTup (tCons (tVar 11) (tCons (tVar 6) tNil))) (tCons (tTup (tCons (tOp (rAddU K) (tVar 11) (tVar 12)) (tCons (tVar 6) tNil))) tNil)))) tNil))))))))))))

def d_separating : DS := (dSeq (dIfS (dTest (dCall ct_equal (dCons (dVar 0) (dCons (dVar 1) dNil)))) (dRet (dC .none)) dNext)
  (dSeq (dSeq (dAsg (dCall ct_items (dCons (dCall ct_normal_form (dCons (dVar 0) dNil)) dNil)) (dgName 2)) (dAsg (dCall ct_items (dCons (dCall ct_normal_form (dCons (dVar 1) dNil)) dNil)) (dgName 3)))
  (dSeq (dAsg (dOp2 oIx (dLc (dEnumZip (dCons (dVar 2) (dCons (dVar 3) dNil))) (dgTup 2 (dgCons (dgName 13) (dgCons (dgTup 2 (dgCons (dgName 14) (dgCons (dgName 15) dgNil))) dgNil))) (dTest (dOp2 oNe (dVar 14) (dVar 15))) (dVar 13) [13, 14, 15]) (dC (.int 0))) (dgName 4))
  (dSeq (dAsg (dCB oLen (dCons (dLc (dSeqI (dSl (dVar 2) dNoPart (dPart (dVar 4)))) (dgTup 2 (dgCons (dgName 16) (dgCons (dgName 17) dgNil))) (dTest (dOp2 oEq (dVar 16) (dC (.int 1)))) (dVar 16) [16, 17]) dNil)) (dgName 5))
  (dSeq (dAsg (dOp2 (dI0 fun i j => .int (i - j)) (dOp2 (dI0 fun i j => .int (i - j)) (dCB oLen (dCons (dOp2 oIx (dVar 0) (dC (.int 1))) dNil)) (dC (.int 1))) (dOp2 (dI0 fun i j => .int (i - j)) (dVar 4) (dVar 5))) (dgName 6))
  (dSeq (dAsg (dCall ct_normal_form (dCons (dVar 0) dNil)) (dgTup 2 (dgCons (dgName 7) (dgCons (dgName 8) dgNil))))
  (dSeq (dAsg (dOp2 (dI0 fun i j => .int (i - j)) (dCB oLen (dCons (dVar 7) dNil)) (dVar 5)) (dgName 9))
  (dSeq (dAsg (dCall ct_last_moments (dCons (dVar 7) (dCons (dVar 8) (dCons (dVar 9) dNil)))) (dgTup 2 (dgCons (dgName 10) (dgCons (dgName 11) dgNil))))
  (dSeq (dAsg (dCB oMin (dCons (dLc (dSeqI (dTup (dCons (dOp2 oIx (dVar 2) (dVar 4)) (dCons (dOp2 oIx (dVar 3) (dVar 4)) dNil)))) (dgTup 2 (dgCons (dgName 16) (dgCons (dgName 17) dgNil))) dYes (dIfE (dTest (dOp2 oEq (dVar 16) (dC (.int 1)))) (dVar 17) (dC (.int 1))) [16, 17]) dNil)) (dgName 12))
  (dRet (dCB oTupOf (dCons (dOp2 oAdd (dVar 10) (dLst (dCons (dTup (dCons (dVar 11) (dCons (dVar 6) dNil))) (dCons (dTup (dCons (dOp2 oAdd (dVar 11) (dVar 12)) (dCons (dVar 6) dNil))) dNil)))) dNil))))))))))))

theorem sim_separating {K : PySem.W.Frag} : SimS (t_separating K) d_separating := (simS_seq (simS_if (simT_B (simE_call rfl (simA_cons simE_var (simA_cons simE_var simA_nil)))) (simS_ret (simE_c fun _ _ => .non)) simS_next)
  (simS_seq (simS_par (simS_seq (simS_asg (simE_call rfl (simA_cons (simE_call rfl (simA_cons simE_var simA_nil)) simA_nil)) simG_name) (simS_asg (simE_call rfl (simA_cons (simE_call rfl (simA_cons simE_var simA_nil)) simA_nil)) simG_name)) (ind_call (ind_cons (ind_call (ind_cons (ind_var (by decide)) ind_nil)) ind_nil)))
  (simS_seq (simS_asg (simE_op2 simR2_ix (simE_lc (simI_enumZip (simA_cons simE_var (simA_cons simE_var simA_nil))) (simG_tup (simGs_cons simG_name (simGs_cons (simG_tup (simGs_cons simG_name (simGs_cons simG_name simGs_nil))) simGs_nil))) (tg_tup (tgs_cons (tg_name (by decide)) (tgs_cons (tg_tup (tgs_cons (tg_name (by decide)) (tgs_cons (tg_name (by decide)) tgs_nil))) tgs_nil))) (simT_test (simE_op2 simR2_ne simE_var simE_var)) simE_var) (simE_c fun _ _ => .int _)) simG_name)
  (simS_seq (simS_asg (simE_cb simRN_len (simA_cons (simE_lc (simI_seq (simE_sl simE_var simO_none (simO_some simE_var))) (simG_tup (simGs_cons simG_name (simGs_cons simG_name simGs_nil))) (tg_tup (tgs_cons (tg_name (by decide)) (tgs_cons (tg_name (by decide)) tgs_nil))) (simT_test (simE_op2 simR2_eq simE_var (simE_c fun _ _ => .int _))) simE_var) simA_nil)) simG_name)
  (simS_seq (simS_asg (simE_op2 simR2_sub (simE_op2 simR2_sub (simE_cb simRN_len (simA_cons (simE_op2 simR2_ix simE_var (simE_c fun _ _ => .int _)) simA_nil)) (simE_c fun _ _ => .int _)) (simE_op2 simR2_sub simE_var simE_var)) simG_name)
  (simS_seq (simS_asg (simE_call rfl (simA_cons simE_var simA_nil)) (simG_tup (simGs_cons simG_name (simGs_cons simG_name simGs_nil))))
  (simS_seq (simS_asg (simE_op2 simR2_sub (simE_cb simRN_len (simA_cons simE_var simA_nil)) simE_var) simG_name)
  (simS_seq (simS_asg (simE_call rfl (simA_cons simE_var (simA_cons simE_var (simA_cons simE_var simA_nil)))) (simG_tup (simGs_cons simG_name (simGs_cons simG_name simGs_nil))))
  (simS_seq (simS_asg (simE_cb simRN_min (simA_cons (simE_lc (simI_seq (simE_tup (simA_cons (simE_op2 simR2_ix simE_var simE_var) (simA_cons (simE_op2 simR2_ix simE_var simE_var) simA_nil)))) (simG_tup (simGs_cons simG_name (simGs_cons simG_name simGs_nil))) (tg_tup (tgs_cons (tg_name (by decide)) (tgs_cons (tg_name (by decide)) tgs_nil))) simT_yes (simE_if (simT_test (simE_op2 simR2_eq simE_var (simE_c fun _ _ => .int _))) simE_var (simE_c fun _ _ => .int _))) simA_nil)) simG_name)
  (simS_ret (simE_cb simRN_tupOf (simA_cons (simE_op2 simR2_add simE_var (simE_lst (simA_cons (simE_tup (simA_cons simE_var (simA_cons simE_var simA_nil))) (simA_cons (simE_tup (simA_cons (simE_op2 simR2_add simE_var simE_var) (simA_cons simE_var simA_nil))) simA_nil)))) simA_nil))))))))))))

/-! ### the items of a row -/
def blk (ps : List Nat) (c i : Nat) : List (Nat × Int) := ((List.range c).reverse.filter fun q => decide (ps.getD q 0 = i)).map fun (q : Nat) => (0, (q : Int))
theorem blk_t {ps : List Nat} {c i : Nat} (h : ps.getD c 0 = i) : blk ps (c + 1) i = (0, (c : Int)) :: blk ps c i := by
  unfold blk
  rw [List.range_succ, List.reverse_append, List.reverse_singleton, List.singleton_append, List.filter_cons_of_pos (p := fun q => decide (ps.getD q 0 = i)) (decide_eq_true h)]
  rfl
theorem blk_f {ps : List Nat} {c i : Nat} (h : ¬ ps.getD c 0 = i) : blk ps (c + 1) i = blk ps c i := by
  unfold blk
  rw [List.range_succ, List.reverse_append, List.reverse_singleton, List.singleton_append, List.filter_cons_of_neg (p := fun q => decide (ps.getD q 0 = i)) (by rw [decide_eq_false h]; exact Bool.false_ne_true)]
theorem blk_nil {ps : List Nat} {i : Nat} : ∀ c, (∀ q, q < c → ps.getD q 0 ≠ i) → blk ps c i = []
  | 0, _ => rfl
  | c + 1, h => by rw [blk_f (h c (by omega)), blk_nil c fun q hq => h q (by omega)]
theorem blk_up {ps : List Nat} {i c : Nat} : ∀ d, (∀ q, c ≤ q → q < c + d → ps.getD q 0 ≠ i) → blk ps (c + d) i = blk ps c i
  | 0, _ => rfl
  | d + 1, h => by rw [← Nat.add_assoc, blk_f (h (c + d) (by omega) (by omega)), blk_up d fun q h1 h2 => h q h1 (by omega)]
theorem itm_len (r : Row) : ∀ f k c, (itm r f k c).length ≤ f
  | 0, k, c => by cases c <;> simp [itm]
  | f + 1, k, 0 => by simp [itm]
  | f + 1, k, c + 1 => by
    have h1 := itm_len r f k c
    have h2 := itm_len r f (k + 1) (c + 1)
    rw [itm]
    split
    · simp only [List.length_cons]; omega
    · simp only [List.length_cons]; omega
theorem itm_none (r : Row) (f k : Nat) : itm r f k 0 = [] := by cases f <;> rfl
/-- the clients at the index i -/
theorem itm_blk {r : Row} (up : r.ps.Pairwise (· ≤ ·)) {i k : Nat} (hik : i + k = r.ls.length) : ∀ (c f : Nat), c ≤ r.ps.length → (∀ q, q < c → r.ps.getD q 0 ≤ i) → i + c ≤ f →
    ∃ c' f', itm r f k c = blk r.ps c i ++ itm r f' k c' ∧ c' ≤ c ∧ i + c' ≤ f' ∧ (∀ q, q < c' → r.ps.getD q 0 < i) ∧ ∀ q, c' ≤ q → q < c → i ≤ r.ps.getD q 0
  | 0, f, _, _, hf => ⟨0, f, rfl, Nat.le_refl _, by omega, fun q hq => absurd hq (by omega), fun q _ hq => absurd hq (by omega)⟩
  | c + 1, 0, _, _, hf => by omega
  | c + 1, f + 1, hc, h, hf => by
    have h0 := h c (by omega)
    by_cases e : r.ps.getD c 0 = i
    · obtain ⟨c', f', a, b, d, g, j⟩ := itm_blk up hik c f (by omega) (fun q hq => h q (by omega)) (by omega)
      refine ⟨c', f', ?_, by omega, d, g, fun q h1 h2 => ?_⟩
      · rw [itm, if_pos (by omega), a, blk_t e]
        rfl
      · by_cases z : q = c
        · rw [z, e]; exact Nat.le_refl _
        · exact j q h1 (by omega)
    · have hlt : ∀ q, q < c + 1 → r.ps.getD q 0 < i := fun q hq => by
        have := up_getD up (show q ≤ c by omega) (by omega)
        omega
      refine ⟨c + 1, f + 1, ?_, Nat.le_refl _, by omega, hlt, fun q h1 h2 => absurd h1 (by omega)⟩
      rw [blk_nil _ fun q hq => by have := hlt q hq; omega]
      rfl
def itF (ps : List Nat) (i : Nat) (d : PyData) : Option PyData := match d with
    | .int q => if ps.getD q.toNat 0 = i then some (.tuple [.int 0, .int q]) else none
    | _ => none
theorem rng_down (m : Nat) : rngC ((m : Int) - 1) (-1) m = (List.range m).reverse.map natD := by
  refine List.ext_getElem? fun i => ?_
  unfold rngC
  by_cases h : i < m
  · rw [List.getElem?_map, List.getElem?_range h, List.getElem?_map, List.getElem?_reverse (by simpa using h), List.length_range, List.getElem?_range (by omega)]
    simp only [Option.map_some]
    unfold natD
    rw [show ((m : Int) - 1 + (i : Int) * (-1)) = ((m - 1 - i : Nat) : Int) by omega]
  · rw [List.getElem?_eq_none (by simp; omega), List.getElem?_eq_none (by simp; omega)]
theorem itF_map (ps : List Nat) (i m : Nat) : (rngC ((m : Int) - 1) (-1) m).filterMap (itF ps i) = (blk ps m i).map itD := by
  rw [rng_down]
  unfold blk
  generalize (List.range m).reverse = L
  induction L with
  | nil => rfl
  | cons q L ih =>
    rw [List.map_cons, List.filterMap_cons, ih]
    unfold itF natD
    simp only [Int.toNat_natCast]
    by_cases h : ps.getD q 0 = i
    · rw [if_pos h, List.filter_cons_of_pos (p := fun q => decide (ps.getD q 0 = i)) (decide_eq_true h)]
      rfl
    · rw [if_neg h, List.filter_cons_of_neg (p := fun q => decide (ps.getD q 0 = i)) (by rw [decide_eq_false h]; exact Bool.false_ne_true)]
theorem law_items (ds : List PyData) (Z : Rs → PyData → Prop) (hl : ds.length = ct_items.n) (h : ct_items.pre ds Z) : d_items (endsD ct_items.io Z) (startD 6 ct_items.io ds) := by
  obtain ⟨r, rfl, F, hlow, hZ⟩ := h
  show d_items (endsD none Z) [some (.fz (rowD r)), none, none, none, none, none]
  have hfew := F.few
  have hfp := F.fewP
  unfold d_items
  refine dSeq_by (fun ρ => ρ = [some (.fz (rowD r)), some (.fz (intsT r.ls)), some (.fz (natsT r.ps)), none, none, none]) (fun W hW => ?_) fun ρ ee => ?_
  · unfold rowD at hW ⊢
    walk_at "d"
    exact hW _ rfl
  subst ee
  refine dSeq_by (fun ρ => ρ = [some (.fz (rowD r)), some (.fz (intsT r.ls)), some (.fz (natsT r.ps)), some (.ow (.list [])), none, none]) (fun W hW => ?_) fun ρ ee => ?_
  · walk_at "d"
    exact hW _ rfl
  subst ee
  refine dSeq_by (fun ρ => ∃ a, ρ = [some (.fz (rowD r)), some (.fz (intsT r.ls)), some (.fz (natsT r.ps)), some (.ow (.list ((itemsR r).map itD))), a, none]) (fun W hW => ?_) fun ρ ee => ?_
  rotate_left
  · obtain ⟨a, rfl⟩ := ee
    walk_at "d"
    exact hZ
  have hT : (itemsR r).length ≤ r.ls.length + r.ps.length := itm_len r _ _ _
  unfold intsT natsT at hW ⊢
  simp only [dFor]
  walk_at "e"
  refine ⟨_, RgC.neg (by omega) (by omega) (by omega) (by omega), ?_⟩
  rw [show ((r.ls.length : Int) - -1).toNat = r.ls.length + 1 by omega]
  refine loopD_inv (fun k ρ => ∃ a pre c f, ρ = [some (.fz (rowD r)), some (.fz (.tuple (r.ls.map PyData.int))), some (.fz (.tuple (r.ps.map fun (n : Nat) => PyData.int (n : Int)))), some (.ow (.list (pre.map itD))), a, none]
      ∧ itemsR r = pre ++ itm r f k c ∧ c ≤ r.ps.length ∧ (∀ q, q < c → r.ps.getD q 0 + k ≤ r.ls.length) ∧ (∀ q, c ≤ q → q < r.ps.length → r.ls.length < r.ps.getD q 0 + k) ∧ (r.ls.length - k) + c ≤ f)
    ⟨none, [], r.ps.length, _, rfl, rfl, Nat.le_refl _, fun q hq => ?_, fun q h1 h2 => absurd h1 (by omega), by omega⟩ (fun k x ρ V hx I hV => ?_) fun ρ I => ?_
  · rw [List.getD_eq_getElem?_getD, List.getElem?_eq_getElem hq]
    exact F.good.inn _ (List.getElem_mem hq)
  · obtain ⟨a, pre, c, f, rfl, i1, i2, i3, i4, i5⟩ := I
    have hk := get_lt hx
    rw [rngC_len] at hk
    have hi : ∃ i, i + k = r.ls.length := ⟨r.ls.length - k, by omega⟩
    obtain ⟨i, hi⟩ := hi
    have hx2 : x = .int (i : Int) := by
      unfold rngC at hx
      rw [List.getElem?_map, List.getElem?_range hk] at hx
      have e := Option.some.inj hx
      rw [← e]
      show PyData.int ((r.ls.length : Int) + (k : Int) * (-1)) = PyData.int (i : Int)
      rw [show ((r.ls.length : Int) + (k : Int) * (-1)) = (i : Int) by omega]
    subst hx2
    obtain ⟨c', f', b1, b2, b3, b4, b5⟩ := itm_blk F.good.up hi c f i2 (fun q hq => by have := i3 q hq; omega) (by omega)
    have hb : blk r.ps r.ps.length i = blk r.ps c i := by
      obtain ⟨d, hd⟩ := Nat.exists_eq_add_of_le i2
      rw [hd]
      exact blk_up d fun q h1 h2 => by have := i4 q h1 (by omega); omega
    rw [b1, ← List.append_assoc] at i1
    have hsz : (pre ++ blk r.ps c i).length ≤ r.ls.length + r.ps.length := by
      have := congrArg List.length i1
      rw [List.length_append] at this
      omega
    rw [List.length_append] at hsz
    have hbl : ((blk r.ps c i).map itD).length = (blk r.ps c i).length := List.length_map ..
    have hpl : (pre.map itD).length = pre.length := List.length_map ..
    refine dSeq_by (fun ρ => ρ = [some (.fz (rowD r)), some (.fz (.tuple (r.ls.map PyData.int))), some (.fz (.tuple (r.ps.map fun (n : Nat) => PyData.int (n : Int)))), some (.ow (.list ((pre ++ blk r.ps c i).map itD))), some (.fz (.int (i : Int))), none]) (fun W hW2 => ?_) fun ρ ee => ?_
    · rw [List.map_append] at hW2
      walk_at "d"
      rw [dExtS]
      refine ⟨⟨_, _, rfl, rfl, rfl⟩, ?_⟩
      rw [dExt]
      walk_at "e"
      rw [dLc]
      walk_at "e"
      refine ⟨_, RgC.neg (by omega) (by omega) (by omega) (by omega), ?_⟩
      rw [show ((r.ps.length : Int) - 1 - -1).toNat = r.ps.length by omega]
      refine ⟨rfl, by rw [rngC_len]; omega, ?_⟩
      refine lcLoop_pure (itF r.ps i) (fun x hx V2 hV2 => ?_) ?_
      · rw [rng_down] at hx
        obtain ⟨q, hq, rfl⟩ := List.mem_map.mp hx
        have hq := List.mem_range.mp (List.mem_reverse.mp hq)
        obtain ⟨p, hp⟩ := get_at hq
        unfold itF natD at hV2
        simp only [Int.toNat_natCast] at hV2
        have hpe : r.ps.getD q 0 = p := getD_of hp
        unfold natD
        walk_at "d"
        refine ⟨_, atI_map hp, ?_⟩
        walk_at "d"
        by_cases h : p = i
        · rw [if_pos (hpe.trans h)] at hV2
          rw [if_pos (decide_eq_true (by omega))]
          exact hV2
        · rw [if_neg (fun z => h (hpe.symm.trans z))] at hV2
          rw [if_neg (by rw [decide_eq_false (by omega)]; exact Bool.false_ne_true)]
          exact hV2
      · rw [itF_map, hb]
        walk_at "d"
        refine ⟨by omega, ?_⟩
        exact hW2 _ rfl
    subst ee
    walk_at "d"
    by_cases h0 : 0 < i
    · rw [if_pos (decide_eq_true (by omega))]
      have hm : 0 < r.ps.length := List.length_pos_iff.mpr F.good.p0
      have hc' : 0 < c' := by
        rcases Nat.eq_zero_or_pos c' with z | z
        · exfalso
          by_cases w : 0 < c
          · have := b5 0 (by omega) w
            rw [hlow] at this; omega
          · have := i4 0 (by omega) hm
            rw [hlow] at this; omega
        · exact z
      obtain ⟨j, hj⟩ : ∃ j, i = j + 1 := ⟨i - 1, by omega⟩
      obtain ⟨d, hd⟩ : ∃ d, c' = d + 1 := ⟨c' - 1, by omega⟩
      obtain ⟨g, hg⟩ : ∃ g, f' = g + 1 := ⟨f' - 1, by omega⟩
      obtain ⟨l, el⟩ := get_at (show j < r.ls.length by omega)
      have es : itm r f' k c' = (1, l) :: itm r g (k + 1) c' := by
        have := b4 d (by omega)
        rw [hg, hd, itm, if_neg (by omega), show r.ls.length - 1 - k = j by omega, getD_of el]
      rw [es] at i1
      have hj2 : ((i : Nat) : Int) - 1 = (j : Int) := by omega
      refine ⟨⟨_, _, rfl, rfl, rfl⟩, ?_⟩
      rw [hj2]
      refine ⟨_, atI_map el, ?_⟩
      refine ⟨by omega, ?_⟩
      have i1' : itemsR r = (pre ++ blk r.ps c i ++ [(1, l)]) ++ itm r g (k + 1) c' := by rw [i1]; simp
      refine hV _ ⟨some (.fz (.int (i : Int))), pre ++ blk r.ps c i ++ [(1, l)], c', g, ?_, i1', by omega, fun q hq => ?_, fun q h1 h2 => ?_, by omega⟩
      · simp only [List.map_append]
        rfl
      · have := b4 q hq; omega
      · by_cases w : q < c
        · have := b5 q h1 w; omega
        · have := i4 q (by omega) h2; omega
    · rw [if_neg (by rw [decide_eq_false (by omega)]; exact Bool.false_ne_true)]
      have hc' : c' = 0 := by
        rcases Nat.eq_zero_or_pos c' with z | z
        · exact z
        · have := b4 0 z; omega
      subst hc'
      refine hV _ ⟨_, pre ++ blk r.ps c i, 0, f', rfl, ?_, Nat.zero_le _, fun q hq => absurd hq (by omega), fun q h1 h2 => ?_, by omega⟩
      · rw [i1, itm_none, itm_none]
      · by_cases w : q < c
        · have := b5 q h1 w; omega
        · have := i4 q (by omega) h2; omega
  · obtain ⟨a, pre, c, f, rfl, i1, i2, i3, i4, i5⟩ := I
    rw [rngC_len] at i1 i3 i4
    have hc : c = 0 := by
      rcases Nat.eq_zero_or_pos c with z | z
      · exact z
      · have := i3 0 z; omega
    subst hc
    rw [itm_none, List.append_nil] at i1
    rw [i1] at hW
    exact hW _ ⟨_, rfl⟩
/-! ### reads that tell rows apart -/
theorem nob_row (n : Nat) (r : Row) : Nob (n + 2) (rowD r) := by
  simp only [rowD, Nob]
  intro x hx
  rcases List.mem_cons.mp hx with rfl | hx
  · simp only [intsT, Nob]
    intro y hy
    obtain ⟨i, _, rfl⟩ := List.mem_map.mp hy
    simp [Nob]
  · rw [List.mem_singleton] at hx
    subst hx
    simp only [natsT, Nob]
    intro y hy
    obtain ⟨i, _, rfl⟩ := List.mem_map.mp hy
    simp [Nob]
theorem row_inj (a b : Row) : rowD a = rowD b ↔ (a.ls = b.ls ∧ a.ps = b.ps) := by
  constructor
  · intro h
    unfold rowD intsT natsT at h
    simp only [PyData.tuple.injEq, List.cons.injEq, and_true] at h
    refine ⟨(List.map_inj_right (fun a b e => by injection e)).mp h.1, (List.map_inj_right (fun a b e => ?_)).mp h.2⟩
    injection e with e
    omega
  · rintro ⟨h1, h2⟩
    unfold rowD
    rw [h1, h2]
theorem law_equal (ds : List PyData) (Z : Rs → PyData → Prop) (hl : ds.length = ct_equal.n) (h : ct_equal.pre ds Z) : d_equal (endsD ct_equal.io Z) (startD 2 ct_equal.io ds) := by
  obtain ⟨r1, r2, rfl, F1, F2, hZ⟩ := h
  show d_equal (endsD none Z) [some (.fz (rowD r1)), some (.fz (rowD r2))]
  unfold d_equal
  walk_at "d"
  refine ⟨rfl, r1, rfl, F1, ?_⟩
  refine ⟨rfl, r2, rfl, F2, ?_⟩
  refine oEq_nob (n := 2) (by decide) (nob_row 0 _) (nob_row 0 _) (row_inj _ _) ?_
  exact hZ
theorem row_ext {a b : Row} : a = b ↔ (a.ls = b.ls ∧ a.ps = b.ps) := by
  obtain ⟨x, y⟩ := a
  obtain ⟨z, w⟩ := b
  simp
theorem wait_le (x y : Nat × Int) : waitI x y ≤ numI x := by unfold waitI; omega
theorem sep_ok {r1 r2 : Row} (F1 : Fine r1) (F2 : Fine r2) {f g j k c : Nat} (D : Dif (St.nf r1) (St.nf r2) 0 r1.ps.length f g j k c) :
    SepOk r1 r2 (sepS (St.nf r1) k c (waitI (nxI (St.nf r1) k c) (nxI (St.nf r2) k c))) := by
  have G1 := F1.nf.good
  have G2 := F2.nf.good
  have R1 := nf_rise F1.good
  have R2 := nf_rise F2.good
  obtain ⟨w1, ne⟩ := sep_ne G1 R1 G2 R2 D.B D.ne
  have hwl := wait_le (nxI (St.nf r1) k c) (nxI (St.nf r2) k c)
  generalize waitI (nxI (St.nf r1) k c) (nxI (St.nf r2) k c) = w at w1 ne hwl ⊢
  have hkn := D.B.a.kn
  have hps1 : (St.nf r1).ps.length = r1.ps.length := (redR_len _ _).2
  have hps2 : (St.nf r2).ps.length = r2.ps.length := (redR_len _ _).2
  have hls1 : (St.nf r1).ls.length ≤ r1.ls.length := (redR_len _ _).1
  have hc : c < r1.ps.length := by have := D.cc; omega
  have hm := D.B.m
  obtain ⟨p1, p2⟩ := lastM_props G1 (zero_mem G1 R1.low) k (by omega)
  have hage := (ageS_nn G1.lo ((St.nf r1).ls.length - k)).1
  have up : (sepS (St.nf r1) k c w).Pairwise (fun x y => x.1 ≤ y.1) := by
    unfold sepS
    refine List.pairwise_append.mpr ⟨List.pairwise_append.mpr ⟨p2, List.pairwise_singleton .., fun x hx y hy => ?_⟩, List.pairwise_singleton .., fun x hx y hy => ?_⟩
    · rw [List.mem_singleton] at hy
      subst hy
      exact (p1 x hx).2.2
    · rw [List.mem_singleton] at hy
      subst hy
      rcases List.mem_append.mp hx with hx | hx
      · have := (p1 x hx).2.2
        simp only
        omega
      · rw [List.mem_singleton] at hx
        subst hx
        simp only
        omega
  have all : ∀ x ∈ sepS (St.nf r1) k c w, x.2 < r1.ps.length ∧ 0 ≤ x.1 ∧ x.1 ≤ ageS (St.nf r1).ls ((St.nf r1).ls.length - k) + w := fun x hx => by
    unfold sepS at hx
    rcases List.mem_append.mp hx with hx | hx
    · rcases List.mem_append.mp hx with hx | hx
      · obtain ⟨a, b, e⟩ := p1 x hx
        exact ⟨by omega, b, by omega⟩
      · rw [List.mem_singleton] at hx
        subst hx
        exact ⟨hc, hage, by simp only; omega⟩
    · rw [List.mem_singleton] at hx
      subst hx
      exact ⟨hc, by simp only; omega, Int.le_refl _⟩
  refine ⟨?_, fun x hx => ⟨(all x hx).1, (all x hx).2.1⟩, fun v hv hi x hx => ?_, up, ?_⟩
  · unfold sepS
    simp only [List.length_append, lastM_len, List.length_cons, List.length_nil]
    omega
  · have h1 := (all x hx).2.2
    have hi2 : ∀ l ∈ (St.nf r1).ls, l ≤ v + 1 := fun l hl => hi l (red_mem hl)
    have h2 := ageS_hi hv hi2 ((St.nf r1).ls.length - k)
    have h3 := Int.mul_le_mul_of_nonneg_left (show ((St.nf r1).ls.length : Int) ≤ r1.ls.length by omega) hv
    have h4 : numI (nxI (St.nf r1) k c) ≤ v + 1 := by
      unfold nxI
      split
      · rw [numI_k]; omega
      · rename_i h
        rw [numI_c]
        obtain ⟨l, el⟩ := get_at (show (St.nf r1).ls.length - 1 - k < (St.nf r1).ls.length by omega)
        rw [getD_of el]
        exact hi2 l (get_mem el)
    omega
  · have a1 := red_answers F1.good (keeps_cnt r1) up fun x hx => (all x hx).1
    have a2 := red_answers F2.good (keeps_cnt r2) up fun x hx => by have := (all x hx).1; omega
    intro e
    refine ne ?_
    show answers (redR (cnt r1) r1) _ = answers (redR (cnt r2) r2) _
    rw [a1, a2, e]
theorem filterMap_first {α β : Type} (g : α → Option β) : ∀ {xs : List α} {j : Nat} {x : α} {y : β}, xs[j]? = some x → g x = some y → (∀ i z, i < j → xs[i]? = some z → g z = none) → ∃ t, xs.filterMap g = y :: t
  | [], j, x, y, h, _, _ => by simp at h
  | z :: xs, 0, x, y, h, hy, _ => by
    have : z = x := by simpa using h
    subst this
    exact ⟨_, by rw [List.filterMap_cons, hy]⟩
  | z :: xs, j + 1, x, y, h, hy, hn => by
    obtain ⟨t, e⟩ := filterMap_first g (xs := xs) (j := j) (by simpa using h) hy fun i z hi hz => hn (i + 1) z (by omega) (by simpa using hz)
    exact ⟨t, by rw [List.filterMap_cons, hn 0 z (by omega) rfl, e]⟩
def plF (d : PyData) : Option PyData := match d with
    | .tuple [.int a, .tuple [.tuple [.int w, .int n], .tuple [.int w', .int n']]] => if w = w' ∧ n = n' then none else some (.int a)
    | _ => none
theorem plF_mk (a : Int) (x y : Nat × Int) : plF (.tuple [.int a, .tuple [itD x, itD y]]) = if x = y then none else some (.int a) := by
  obtain ⟨w, n⟩ := x
  obtain ⟨w', n'⟩ := y
  show (if (w : Int) = (w' : Int) ∧ n = n' then none else some (PyData.int a)) = _
  by_cases h : (w, n) = (w', n')
  · cases h
    rw [if_pos ⟨rfl, rfl⟩, if_pos rfl]
  · rw [if_neg h, if_neg]
    rintro ⟨h1, h2⟩
    refine h ?_
    rw [h2, show w = w' by omega]
def cmF (d : PyData) : Option PyData := match d with
    | .tuple [.int w, .int n] => if w = 1 then some (.int w) else none
    | _ => none
theorem cmF_mk (w : Nat) (n : Int) : cmF (.tuple [.int (w : Int), .int n]) = if (w : Int) = 1 then some (PyData.int (w : Int)) else none := rfl
theorem cmF_len : ∀ L : List (Nat × Int), ((L.map itD).filterMap cmF).length = (L.filter isC).length
  | [] => rfl
  | (w, n) :: L => by
    have ih := cmF_len L
    rw [List.map_cons, List.filterMap_cons]
    have e : cmF (itD (w, n)) = if (w : Int) = 1 then some (PyData.int (w : Int)) else none := rfl
    rw [e]
    by_cases h : w = 1
    · rw [if_pos (by omega), List.filter_cons_of_pos (p := isC) (decide_eq_true h), List.length_cons]
      simp only [List.length_cons]
      rw [ih]
    · rw [if_neg (by omega), List.filter_cons_of_neg (p := isC) (by show ¬ decide (w = 1) = true; rw [decide_eq_false h]; exact Bool.false_ne_true)]
      exact ih
def waF (d : PyData) : PyData := match d with
    | .tuple [.int w, .int n] => .int (if w = 1 then n else 1)
    | d => d
theorem waF_mk (x : Nat × Int) : waF (itD x) = .int (numI x) := by
  obtain ⟨w, n⟩ := x
  show PyData.int (if (w : Int) = 1 then n else 1) = .int (if w = 1 then n else 1)
  by_cases h : w = 1
  · rw [if_pos h, if_pos (by omega)]
  · rw [if_neg h, if_neg (by omega)]
theorem itD_mk (w : Nat) (n : Int) : itD (w, n) = .tuple [.int (w : Int), .int n] := rfl
theorem oMin_two {Z : Rs → Prop} {a b : Int} (h : Z (.fz (.int (min a b)))) : oMin [.list [.int a, .int b]] Z := by
  refine ⟨[a, b], rfl, by simp, fun m hm hle => ?_⟩
  have h1 := hle a (by simp)
  have h2 := hle b (by simp)
  have h3 : m = a ∨ m = b := by simpa using hm
  have : m = min a b := by omega
  rw [this]
  exact h
theorem nob_it (n : Nat) (x : Nat × Int) : Nob (n + 1) (itD x) := by
  obtain ⟨a, b⟩ := x
  simp only [itD, Nob]
  intro y hy
  rcases List.mem_cons.mp hy with rfl | hy
  · simp [Nob]
  · rw [List.mem_singleton] at hy
    subst hy
    simp [Nob]
theorem it_inj (x y : Nat × Int) : itD x = itD y ↔ x = y := by
  obtain ⟨a, b⟩ := x
  obtain ⟨c, d⟩ := y
  unfold itD
  simp only [PyData.tuple.injEq, List.cons.injEq, PyData.int.injEq, and_true, Prod.mk.injEq]
  constructor
  · rintro ⟨h1, h2⟩; exact ⟨by omega, h2⟩
  · rintro ⟨h1, h2⟩; exact ⟨by omega, h2⟩
theorem law_separating (ds : List PyData) (Z : Rs → PyData → Prop) (hl : ds.length = ct_separating.n) (h : ct_separating.pre ds Z) : d_separating (endsD ct_separating.io Z) (startD 18 ct_separating.io ds) := by
  obtain ⟨r1, r2, rfl, F1, F2, hm, hZ1, hZ2⟩ := h
  show d_separating (endsD none Z) [some (.fz (rowD r1)), some (.fz (rowD r2)), none, none, none, none, none, none, none, none, none, none, none, none, none, none, none, none]
  unfold d_separating
  by_cases he : St.nf r1 = St.nf r2
  · rw [dSeq, dIfS]
    walk_at "e"
    refine ⟨rfl, r1, r2, rfl, F1, F2, ?_⟩
    rw [decide_eq_true (row_ext.mp he)]
    walk_at "d"
    exact hZ1 he
  have hZ := hZ2 he
  clear hZ1 hZ2
  refine dSeq_by (fun ρ => ρ = [some (.fz (rowD r1)), some (.fz (rowD r2)), none, none, none, none, none, none, none, none, none, none, none, none, none, none, none, none]) (fun W hW => ?_) fun ρ ee => ?_
  · rw [dIfS]
    walk_at "e"
    refine ⟨rfl, r1, r2, rfl, F1, F2, ?_⟩
    rw [decide_eq_false (fun z => he (row_ext.mpr z))]
    walk_at "d"
    exact hW _ rfl
  subst ee
  have hps1 : (St.nf r1).ps.length = r1.ps.length := (redR_len _ _).2
  have hps2 : (St.nf r2).ps.length = r2.ps.length := (redR_len _ _).2
  have H1 : Fine (St.nf r1) := F1.nf
  have H2 : Fine (St.nf r2) := F2.nf
  have w1 := (nf_rise F1.good).low
  have w2 := (nf_rise F2.good).low
  obtain ⟨j, k, c, D⟩ : ∃ j k c, Dif (St.nf r1) (St.nf r2) 0 (St.nf r1).ps.length ((St.nf r1).ls.length + (St.nf r1).ps.length) ((St.nf r2).ls.length + (St.nf r2).ps.length) j k c := by
    rcases lock H1.good.up H2.good.up ((St.nf r1).ls.length + (St.nf r1).ps.length) ((St.nf r2).ls.length + (St.nf r2).ps.length) 0 (St.nf r1).ps.length (both_zero H1.good H2.good (by omega)) (by omega) (by omega) with ⟨k', B⟩ | z
    · exact absurd (both_eq H1.good H2.good w1 w2 B) he
    · exact z
  have hS := hZ _ (sep_ok F1 F2 (hps1 ▸ D))
  clear hZ
  have hkn := D.B.a.kn
  have few1 := H1.few
  have few2 := H2.few
  have fewp1 := H1.fewP
  have fewp2 := H2.fewP
  have il1 := itm_len (St.nf r1) ((St.nf r1).ls.length + (St.nf r1).ps.length) 0 (St.nf r1).ps.length
  have il2 := itm_len (St.nf r2) ((St.nf r2).ls.length + (St.nf r2).ps.length) 0 (St.nf r2).ps.length
  have d1 := D.x
  have d2 := D.y
  have d3 := D.eq
  have d4 := D.cnt
  have d5 := D.pl
  have d6 := D.cc
  have d7 := D.ne
  have f1 : itemsR (St.nf r1) = itm (St.nf r1) ((St.nf r1).ls.length + (St.nf r1).ps.length) 0 (St.nf r1).ps.length := rfl
  have hmm : (St.nf r1).ps.length = (St.nf r2).ps.length := by omega
  have f2 : itemsR (St.nf r2) = itm (St.nf r2) ((St.nf r2).ls.length + (St.nf r2).ps.length) 0 (St.nf r1).ps.length := by unfold itemsR; rw [hmm]
  rw [← f1] at d1 d3 d4
  rw [← f2] at d2 d3
  have il1 : (itemsR (St.nf r1)).length ≤ 200 := by have := itm_len (St.nf r1) ((St.nf r1).ls.length + (St.nf r1).ps.length) 0 (St.nf r1).ps.length; rw [← f1] at this; omega
  clear D f1 f2
  have hj1 := get_lt d1
  have hj2 := get_lt d2
  have nn1 : St.nf r1 = St.nf r1 := rfl
  refine dSeq_by (fun ρ => ρ = [some (.fz (rowD r1)), some (.fz (rowD r2)), some (.fz (.list ((itemsR (St.nf r1)).map itD))), some (.fz (.list ((itemsR (St.nf r2)).map itD))), none, none, none, none, none, none, none, none, none, none, none, none, none, none]) (fun W hW => ?_) fun ρ ee => ?_
  · walk_at "d"
    refine ⟨rfl, r1, rfl, F1, ?_⟩
    walk_at "d"
    refine ⟨rfl, St.nf r1, rfl, H1, w1, ?_⟩
    walk_at "d"
    refine ⟨rfl, r2, rfl, F2, ?_⟩
    walk_at "d"
    refine ⟨rfl, St.nf r2, rfl, H2, w2, ?_⟩
    walk_at "d"
    exact hW _ rfl
  subst ee
  refine dSeq_by (fun ρ => ρ = [some (.fz (rowD r1)), some (.fz (rowD r2)), some (.fz (.list ((itemsR (St.nf r1)).map itD))), some (.fz (.list ((itemsR (St.nf r2)).map itD))), some (.fz (.int (j : Int))), none, none, none, none, none, none, none, none, none, none, none, none, none]) (fun W hW => ?_) fun ρ ee => ?_
  · rw [dAsg]
    walk_at "e"
    rw [dLc]
    rw [dEnumZip]
    walk_at "e"
    refine ⟨_, _, rfl, rfl, ?_⟩
    refine ⟨rfl, ?_, ?_⟩
    · have := (zipDs_len ((itemsR (St.nf r1)).map itD) ((itemsR (St.nf r2)).map itD)).1
      rw [List.length_map] at this
      rw [enumDs_len]
      omega
    refine lcLoop_pure plF (fun x hx V hV => ?_) ?_
    · obtain ⟨i, hi, e2⟩ := List.getElem_of_mem hx
      have hx2 := List.getElem?_eq_some_iff.mpr ⟨hi, e2⟩
      rw [enumDs_len] at hi
      obtain ⟨y, z, hy, hz, hyz⟩ := zipDs_get hi
      have hx3 := enumDs_get (k := 0) hyz
      rw [hx2] at hx3
      obtain ⟨y, _, rfl⟩ := map_get hy
      obtain ⟨z, _, rfl⟩ := map_get hz
      have hx3 := Option.some.inj hx3
      subst hx3
      rw [plF_mk] at hV
      walk_at "d"
      refine oNe_nob (n := 1) (by decide) (nob_it 0 _) (nob_it 0 _) (it_inj _ _) ?_
      walk_at "d"
      by_cases h : y = z
      · rw [if_pos h] at hV
        rw [decide_eq_true h, if_neg (by decide)]
        exact hV
      · rw [if_neg h] at hV
        rw [decide_eq_false h, if_pos (by decide)]
        exact hV
    · obtain ⟨t, ht⟩ : ∃ t, (enumDs 0 (zipDs ((itemsR (St.nf r1)).map itD) ((itemsR (St.nf r2)).map itD))).filterMap plF = .int (j : Int) :: t := by
        have key : ∀ (i : Nat) (x y : Nat × Int), (itemsR (St.nf r1))[i]? = some x → (itemsR (St.nf r2))[i]? = some y → (enumDs 0 (zipDs ((itemsR (St.nf r1)).map itD) ((itemsR (St.nf r2)).map itD)))[i]? = some (PyData.tuple [.int (i : Int), .tuple [itD x, itD y]]) := fun i x y h1 h2 => by
          have hl := (zipDs_len ((itemsR (St.nf r1)).map itD) ((itemsR (St.nf r2)).map itD)).2.2
          rw [List.length_map, List.length_map] at hl
          have a1 := get_lt h1
          have a2 := get_lt h2
          obtain ⟨u, v, hu, hv, huv⟩ := zipDs_get (xs := (itemsR (St.nf r1)).map itD) (ys := (itemsR (St.nf r2)).map itD) (i := i) (by omega)
          rw [List.getElem?_map, h1] at hu
          rw [List.getElem?_map, h2] at hv
          have := enumDs_get (k := 0) huv
          rw [this, ← Option.some.inj hu, ← Option.some.inj hv, Nat.zero_add]
        refine filterMap_first plF (key j _ _ d1 d2) (by rw [plF_mk, if_neg d7]) fun i z hi hz => ?_
        obtain ⟨x, hx⟩ := get_at (show i < (itemsR (St.nf r1)).length by omega)
        have hx2 := hx
        rw [d3 i hi] at hx2
        rw [key i _ _ hx hx2] at hz
        rw [← Option.some.inj hz, plF_mk, if_pos rfl]
      rw [ht]
      walk_at "d"
      exact hW _ rfl
  subst ee
  refine dSeq_by (fun ρ => ρ = [some (.fz (rowD r1)), some (.fz (rowD r2)), some (.fz (.list ((itemsR (St.nf r1)).map itD))), some (.fz (.list ((itemsR (St.nf r2)).map itD))), some (.fz (.int (j : Int))), some (.fz (.int (k : Int))), none, none, none, none, none, none, none, none, none, none, none, none]) (fun W hW => ?_) fun ρ ee => ?_
  · rw [dAsg]
    walk_at "e"
    rw [dLc]
    walk_at "e"
    rw [cut_to _ (by rw [List.length_map]; omega), ← List.map_take]
    refine ⟨rfl, by rw [List.length_map, List.length_take]; omega, ?_⟩
    refine lcLoop_pure cmF (fun x hx V hV => ?_) ?_
    · obtain ⟨⟨w, n⟩, _, rfl⟩ := List.mem_map.mp hx
      rw [itD_mk, cmF_mk] at hV
      rw [itD_mk]
      walk_at "d"
      by_cases h : (w : Int) = 1
      · rw [if_pos h] at hV
        rw [if_pos (decide_eq_true h)]
        exact hV
      · rw [if_neg h] at hV
        rw [if_neg (by rw [decide_eq_false h]; exact Bool.false_ne_true)]
        exact hV
    · walk_at "d"
      rw [cmF_len, show (List.filter isC (List.take j (itemsR (St.nf r1)))).length = k by omega]
      exact hW _ rfl
  subst ee
  refine dSeq_by (fun ρ => ρ = [some (.fz (rowD r1)), some (.fz (rowD r2)), some (.fz (.list ((itemsR (St.nf r1)).map itD))), some (.fz (.list ((itemsR (St.nf r2)).map itD))), some (.fz (.int (j : Int))), some (.fz (.int (k : Int))), some (.fz (.int (c : Int))), none, none, none, none, none, none, none, none, none, none, none]) (fun W hW => ?_) fun ρ ee => ?_
  · unfold rowD natsT at hW ⊢
    walk_at "d"
    rw [show ((r1.ps.length : Int) - 1 - ((j : Int) - (k : Int))) = (c : Int) by omega]
    exact hW _ rfl
  subst ee
  refine dSeq_by (fun ρ => ρ = [some (.fz (rowD r1)), some (.fz (rowD r2)), some (.fz (.list ((itemsR (St.nf r1)).map itD))), some (.fz (.list ((itemsR (St.nf r2)).map itD))), some (.fz (.int (j : Int))), some (.fz (.int (k : Int))), some (.fz (.int (c : Int))), some (.fz (intsT (St.nf r1).ls)), some (.fz (natsT (St.nf r1).ps)), none, none, none, none, none, none, none, none, none]) (fun W hW => ?_) fun ρ ee => ?_
  · walk_at "d"
    refine ⟨rfl, r1, rfl, F1, ?_⟩
    generalize St.nf r1 = r' at hW ⊢
    unfold rowD
    walk_at "d"
    exact hW _ rfl
  subst ee
  refine dSeq_by (fun ρ => ρ = [some (.fz (rowD r1)), some (.fz (rowD r2)), some (.fz (.list ((itemsR (St.nf r1)).map itD))), some (.fz (.list ((itemsR (St.nf r2)).map itD))), some (.fz (.int (j : Int))), some (.fz (.int (k : Int))), some (.fz (.int (c : Int))), some (.fz (intsT (St.nf r1).ls)), some (.fz (natsT (St.nf r1).ps)), some (.fz (.int (((St.nf r1).ls.length - k : Nat) : Int))), none, none, none, none, none, none, none, none]) (fun W hW => ?_) fun ρ ee => ?_
  · unfold intsT at hW ⊢
    walk_at "d"
    rw [show ((St.nf r1).ls.length : Int) - (k : Int) = (((St.nf r1).ls.length - k : Nat) : Int) by omega]
    exact hW _ rfl
  subst ee
  refine dSeq_by (fun ρ => ρ = [some (.fz (rowD r1)), some (.fz (rowD r2)), some (.fz (.list ((itemsR (St.nf r1)).map itD))), some (.fz (.list ((itemsR (St.nf r2)).map itD))), some (.fz (.int (j : Int))), some (.fz (.int (k : Int))), some (.fz (.int (c : Int))), some (.fz (intsT (St.nf r1).ls)), some (.fz (natsT (St.nf r1).ps)), some (.fz (.int (((St.nf r1).ls.length - k : Nat) : Int))), some (.fz (.list ((lastM (St.nf r1) k).map tcD))), some (.fz (.int (ageS (St.nf r1).ls ((St.nf r1).ls.length - k)))), none, none, none, none, none, none]) (fun W hW => ?_) fun ρ ee => ?_
  · rw [dAsg]
    walk_at "e"
    refine ⟨rfl, St.nf r1, (St.nf r1).ls.length - k, rfl, ⟨0, zero_mem H1.good w1, Nat.zero_le _⟩, by omega, H1, ?_⟩
    rw [show (St.nf r1).ls.length - ((St.nf r1).ls.length - k) = k by omega]
    walk_at "d"
    exact hW _ rfl
  subst ee
  refine dSeq_by (fun ρ => ρ = [some (.fz (rowD r1)), some (.fz (rowD r2)), some (.fz (.list ((itemsR (St.nf r1)).map itD))), some (.fz (.list ((itemsR (St.nf r2)).map itD))), some (.fz (.int (j : Int))), some (.fz (.int (k : Int))), some (.fz (.int (c : Int))), some (.fz (intsT (St.nf r1).ls)), some (.fz (natsT (St.nf r1).ps)), some (.fz (.int (((St.nf r1).ls.length - k : Nat) : Int))), some (.fz (.list ((lastM (St.nf r1) k).map tcD))), some (.fz (.int (ageS (St.nf r1).ls ((St.nf r1).ls.length - k)))), some (.fz (.int (waitI (nxI (St.nf r1) k c) (nxI (St.nf r2) k c)))), none, none, none, none, none]) (fun W hW => ?_) fun ρ ee => ?_
  · rw [dAsg]
    walk_at "e"
    rw [dLc]
    walk_at "e"
    refine ⟨_, atI_map d1, ?_⟩
    refine ⟨_, atI_map d2, ?_⟩
    refine ⟨rfl, ?_⟩
    refine lcLoop_map waF (fun x hx V hV => ?_) ?_
    · obtain ⟨⟨w, n⟩, rfl⟩ : ∃ y, x = itD y := by
        rcases List.mem_cons.mp hx with z | hx
        · exact ⟨_, z⟩
        · exact ⟨_, List.mem_singleton.mp hx⟩
      have e : waF (itD (w, n)) = .int (if (w : Int) = 1 then n else 1) := rfl
      rw [e] at hV
      rw [itD_mk]
      walk_at "d"
      by_cases h : (w : Int) = 1
      · rw [if_pos h] at hV
        rw [if_pos (decide_eq_true h)]
        exact hV
      · rw [if_neg h] at hV
        rw [if_neg (by rw [decide_eq_false h]; exact Bool.false_ne_true)]
        exact hV
    · rw [List.map_cons, List.map_cons, List.map_nil, waF_mk, waF_mk]
      walk_at "d"
      refine oMin_two ?_
      walk_at "d"
      exact hW _ rfl
  subst ee
  have hml := lastM_len (St.nf r1) k
  walk_at "d"
  refine ⟨by omega, ?_⟩
  unfold sepS schD at hS
  rw [List.map_append, List.map_append, List.append_assoc] at hS
  exact hS
end St
set_option Elab.async false
set_option linter.all false
set_option maxRecDepth 100000
set_option maxHeartbeats 4000000
namespace St
open PySem L2 Dl
/-! the data reading unfolded as far as it goes -/
local macro_rules | `(tactic| walk_at "d") => `(tactic| simp (config := { decide := false }) only [dSeq, dAsg, dAsgO, dAppS, dApp, dSetS, dSet, dAug, dRet, dRetN, dDrop, dDPut, dDGet2, dDNewK, dDNewT, dIfS, dFor, dNext, dBreak, dCont, dOp1, dOp2, dTup, dLst, dCons, dNil, dC, dCB, dVar, dVarR, dIfE, dTest, dAnd, dOr, dNot, dAndV, dOrV, dNotV, dChain, dCall, dCallL, dCallIO, dIsi, dSl, dPart, dNoPart, dSeqI, dRng1, dRng2, dDGet2, dDNewK, dDNewT, dRng3, dEnum, dZip, stoAll, itemsD, Option.some.injEq, exists_eq_left', dYes, dIx0, dRetT, dgName, dgTup, dgCons, dgNil, oFdiv, oMod, oPow, oLt, oLe, oGt, oGe, cmpD,
  wipeD, restD, Option.getD_some, Option.getD_none, Int.zero_add, Int.toNat_natCast, isi_lt_lst, isi_lt_tup, isi_lt_non, isi_lt_bl, isi_lt_int, isi_lt_str, isi_int_non, isi_int_bl, isi_int_int, isi_int_str, isi_int_lst, isi_int_tup, isi_bl_non, isi_bl_bl, isi_bl_int, isi_bl_str, isi_bl_lst, isi_bl_tup, isi_tup_non, isi_tup_bl, isi_tup_int, isi_tup_str, isi_tup_lst, isi_tup_tup, oEq_int, oNe_int, oEq_bl, oNe_bl, eq_self, decide_true, ixN_31, ixN_32, atI_0, atI_1, atI_2, atI_3, oIx_tup, oIx_lst, oLen_tup, oLen_lst, oListOf_tup, oListOf_lst, oTupOf_tup, oTupOf_lst, oAdd_int, oAdd_tup, oAdd_lst, oMul_int, oMul_tup, oMul_lst, dI0_int, dI_int, oIs_non, oIs_bl, isN_non, isN_int, isN_tup, isN_lst, isN_bl, oNeg_int, oMin2_int, oMax2_int, oInt_int, oInt_bl, oSl_tup, oSl_lst, ends_fz, ends_nw, ends_np, ends_nx, ends_br, ends_fzi, ends_nwi, ends_bri, retD_br,
  List.getElem?_cons_zero, List.getElem?_cons_succ, List.set_cons_zero, List.set_cons_succ, List.length_cons, List.length_nil, List.length_map, List.map_cons, List.map_nil, List.length_append, dat_fz, dat_nw, dat_br, dat_np, sto_fz, sto_nw, sto_np, sto_br, stoAll, datAt, Sl.dat, Sl.own, Sl.with, ioSlot, stoBut, if_true, true_and, and_true, reduceCtorEq, Option.some.injEq, PyData.int.injEq, PyData.tuple.injEq, PyData.list.injEq, PyData.bool.injEq,  exists_eq_left', exists_eq_left, Bool.true_eq_false, Bool.false_eq_true, if_false, Bool.true_xor, Bool.false_xor, Bool.not_true, Bool.not_false,
  Nat.reduceAdd, Nat.reduceLeDiff, Nat.reduceEqDiff, Nat.reduceLT, Int.reduceNeg, Int.reduceLE, Int.reduceLT, Nat.zero_le, ne_eq, not_false_eq_true, List.cons_ne_nil, not_true_eq_false])
local macro_rules | `(tactic| walk_at "e") => `(tactic| simp (config := { decide := false }) only [dOp1, dOp2, dTup, dLst, dCons, dNil, dC, dCB, dVar, dVarR, dIfE, dTest, dAnd, dOr, dNot, dAndV, dOrV, dNotV, dChain, dCall, dCallL, dCallIO, dIsi, dSl, dPart, dNoPart, dSeqI, dRng1, dRng2, dDGet2, dDNewK, dDNewT, dRng3, dEnum, dZip, stoAll, itemsD, Option.some.injEq, exists_eq_left', dYes, dIx0, oFdiv, oMod, oPow, oLt, oLe, oGt, oGe, cmpD,
  wipeD, restD, Option.getD_some, Option.getD_none, Int.zero_add, Int.toNat_natCast, isi_lt_lst, isi_lt_tup, isi_lt_non, isi_lt_bl, isi_lt_int, isi_lt_str, isi_int_non, isi_int_bl, isi_int_int, isi_int_str, isi_int_lst, isi_int_tup, isi_bl_non, isi_bl_bl, isi_bl_int, isi_bl_str, isi_bl_lst, isi_bl_tup, isi_tup_non, isi_tup_bl, isi_tup_int, isi_tup_str, isi_tup_lst, isi_tup_tup, oEq_int, oNe_int, oEq_bl, oNe_bl, eq_self, decide_true, ixN_31, ixN_32, atI_0, atI_1, atI_2, atI_3, oIx_tup, oIx_lst, oLen_tup, oLen_lst, oListOf_tup, oListOf_lst, oTupOf_tup, oTupOf_lst, oAdd_int, oAdd_tup, oAdd_lst, oMul_int, oMul_tup, oMul_lst, dI0_int, dI_int, oIs_non, oIs_bl, isN_non, isN_int, isN_tup, isN_lst, isN_bl, oNeg_int, oMin2_int, oMax2_int, oInt_int, oInt_bl, oSl_tup, oSl_lst, ends_fz, ends_nw, ends_np, ends_nx, ends_br, ends_fzi, ends_nwi, ends_bri, retD_br,
  List.getElem?_cons_zero, List.getElem?_cons_succ, List.set_cons_zero, List.set_cons_succ, List.length_cons, List.length_nil, List.length_map, List.map_cons, List.map_nil, List.length_append, dat_fz, dat_nw, dat_br, dat_np, sto_fz, sto_nw, sto_np, sto_br, stoAll, datAt, Sl.dat, Sl.own, Sl.with, ioSlot, stoBut, if_true, true_and, and_true, reduceCtorEq, Option.some.injEq, PyData.int.injEq, PyData.tuple.injEq, PyData.list.injEq, PyData.bool.injEq,  exists_eq_left', exists_eq_left, Bool.true_eq_false, Bool.false_eq_true, if_false, Bool.true_xor, Bool.false_xor, Bool.not_true, Bool.not_false,
  Nat.reduceAdd, Nat.reduceLeDiff, Nat.reduceEqDiff, Nat.reduceLT, Int.reduceNeg, Int.reduceLE, Int.reduceLT, Nat.zero_le, ne_eq, not_false_eq_true, List.cons_ne_nil, not_true_eq_false])
def ct_reduced : CT := CT.mk 2 none fun ds Z => ∃ (r : Row) (f : Nat → Bool), ds = [rowD r, .list (((List.range r.ls.length).filter f).map natD)] ∧ Fine r ∧ Z (.fz (rowD (redR f r))) .none
def ct_variant : CT := CT.mk 2 (some 0) fun ds Z => ∃ (tp : PyData) (r : Row), ds = [tp, rowD r] ∧ TapeOk tp ∧ RowIn 8 9 5 r ∧ ∀ r2 tp', RowIn 8 9 5 r2 → r2.ps.length = r.ps.length → TapeOk tp' → Z (.fz (rowD r2)) tp'
def t_reduced (K : PySem.W.Frag) : TS := (tSeq (tAsg (tLc (iSeq K (tOp (rIx K) (tVar 0) (tC (.int 1)))) (gName 3) tYes (tCB (rLenU K) (tCons (tLc (iSeq K (tVar 1)) (gName 4) (tTest (tOp (rI0 fun i j => .bl (decide (i < j))) (tVar 4) (tVar 3))) (tVar 4) [4]) tNil)) [3]) (gName 2))
  (tRet (tTup (tCons (tCB (rTupOf K) (tCons (tLc (iSeq K (tVar 1)) (gName 4) tYes (tOp (rIx K) (tOp (rIx K) (tVar 0) (tC (.int 0))) (tVar 4)) [4]) tNil)) (tCons (tCB (rTupOf K) (tCons (tVar 2) tNil)) tNil)))))

def d_reduced : DS := (dSeq (dAsg (dLc (dSeqI (dOp2 oIx (dVar 0) (dC (.int 1)))) (dgName 3) dYes (dCB oLen (dCons (dLc (dSeqI (dVar 1)) (dgName 4) (dTest (dOp2 oLt (dVar 4) (dVar 3))) (dVar 4) [4]) dNil)) [3]) (dgName 2))
  (dRet (dTup (dCons (dCB oTupOf (dCons (dLc (dSeqI (dVar 1)) (dgName 4) dYes (dOp2 oIx (dOp2 oIx (dVar 0) (dC (.int 0))) (dVar 4)) [4]) dNil)) (dCons (dCB oTupOf (dCons (dVar 2) dNil)) dNil)))))

theorem sim_reduced {K : PySem.W.Frag} : SimS (t_reduced K) d_reduced := (simS_seq (simS_asg (simE_lc (simI_seq (simE_op2 simR2_ix simE_var (simE_c fun _ _ => .int _))) simG_name (tg_name (by decide)) simT_yes (simE_cb simRN_len (simA_cons (simE_lc (simI_seq simE_var) simG_name (tg_name (by decide)) (simT_test (simE_op2 simR2_lt simE_var simE_var)) simE_var) simA_nil))) simG_name)
  (simS_ret (simE_tup (simA_cons (simE_cb simRN_tupOf (simA_cons (simE_lc (simI_seq simE_var) simG_name (tg_name (by decide)) simT_yes (simE_op2 simR2_ix (simE_op2 simR2_ix simE_var (simE_c fun _ _ => .int _)) simE_var)) simA_nil)) (simA_cons (simE_cb simRN_tupOf (simA_cons simE_var simA_nil)) simA_nil)))))

def t_variant (K : PySem.W.Frag) : TS := (tSeq (tAsg (tVar 1) (gTup K 2 (gCons (gName 2) (gCons (gName 3) gNil))))
  (tSeq (tAsg (tCall (spD ct_draw) [] E0 (tCons (tVar 0) (tCons (tC (.int 5)) tNil))) (gName 4))
  (tSeq (tIfS (tOr (tTest (tOp (rEqD K) (tVar 2) (tTup tNil))) (tTest (tOp (rEqD K) (tVar 4) (tC (.int 0))))) (tSeq (tAsg (tOp (rIx K) (tCall (spD ct_row) [] E0 (tCons (tVar 0) (tCons (tC (.int 8)) (tCons (tC (.int 9)) (tCons (tC (.int 1)) tNil))))) (tC (.int 0))) (gName 5))
  (tRet (tTup (tCons (tVar 5) (tCons (tCB (rTupOf K) (tCons (tCB (rSortedI K) (tCons (tLc (iSeq K (tVar 3)) (gName 10) tYes (tCall (spD ct_draw) [] E0 (tCons (tVar 0) (tCons (tOp (rAddU K) (tCB (rLenU K) (tCons (tVar 5) tNil)) (tC (.int 1))) tNil))) [10]) tNil)) tNil)) tNil))))) tNext)
  (tSeq (tAsg (tCall (spD ct_draw) [] E0 (tCons (tVar 0) (tCons (tCB (rLenU K) (tCons (tVar 2) tNil)) tNil))) (gName 6))
  (tSeq (tIfS (tTest (tOp (rEqD K) (tVar 4) (tC (.int 1)))) (tSeq (tAsg (tOp (rAddU K) (tSl (rSlU K) (tVar 2) tNoPart (tPart (tVar 6))) (tSl (rSlU K) (tVar 2) (tPart (tOp (rAddU K) (tVar 6) (tC (.int 1)))) tNoPart)) (gName 7))
  (tRet (tTup (tCons (tVar 7) (tCons (tCB (rTupOf K) (tCons (tLc (iSeq K (tVar 3)) (gName 10) tYes (tOp (rI0 fun i j => .int (i - j)) (tVar 10) (tCB rInt1 (tCons (tOp (rI0 fun i j => .bl (decide (j < i))) (tVar 10) (tVar 6)) tNil))) [10]) tNil)) tNil))))) tNext)
  (tSeq (tIfS (tAnd (tTest (tOp (rEqD K) (tVar 4) (tC (.int 2)))) (tTest (tOp (rI0 fun i j => .bl (decide (i < j))) (tCB (rLenU K) (tCons (tVar 2) tNil)) (tC (.int 8))))) (tSeq (tAsg (tOp (rAddU K) (tOp (rAddU K) (tSl (rSlU K) (tVar 2) tNoPart (tPart (tVar 6))) (tTup (tCons (tOp (rAddU K) (tC (.int 1)) (tCall (spD ct_draw) [] E0 (tCons (tVar 0) (tCons (tC (.int 9)) tNil)))) tNil))) (tSl (rSlU K) (tVar 2) (tPart (tVar 6)) tNoPart)) (gName 8))
  (tRet (tTup (tCons (tVar 8) (tCons (tCB (rTupOf K) (tCons (tLc (iSeq K (tVar 3)) (gName 10) tYes (tOp (rAddU K) (tVar 10) (tCB rInt1 (tCons (tOp (rI0 fun i j => .bl (decide (j < i))) (tVar 10) (tVar 6)) tNil))) [10]) tNil)) tNil))))) tNext)
  (tSeq (tIfS (tTest (tOp (rEqD K) (tVar 4) (tC (.int 3)))) (tSeq (tAsg (tLc (iSeq K (tVar 3)) (gName 10) tYes (tIf (tTest (tOp (rI0 fun i j => .bl (decide (j < i))) (tCall (spD ct_draw) [] E0 (tCons (tVar 0) (tCons (tC (.int 3)) tNil))) (tC (.int 0)))) (tVar 10) (tCall (spD ct_draw) [] E0 (tCons (tVar 0) (tCons (tOp (rAddU K) (tCB (rLenU K) (tCons (tVar 2) tNil)) (tC (.int 1))) tNil)))) [10]) (gName 9))
  (tRet (tTup (tCons (tVar 2) (tCons (tCB (rTupOf K) (tCons (tCB (rSortedI K) (tCons (tVar 9) tNil)) tNil)) tNil))))) tNext)
  (tRet (tTup (tCons (tOp (rAddU K) (tOp (rAddU K) (tSl (rSlU K) (tVar 2) tNoPart (tPart (tVar 6))) (tTup (tCons (tOp (rAddU K) (tC (.int 1)) (tCall (spD ct_draw) [] E0 (tCons (tVar 0) (tCons (tC (.int 9)) tNil)))) tNil))) (tSl (rSlU K) (tVar 2) (tPart (tOp (rAddU K) (tVar 6) (tC (.int 1)))) tNoPart)) (tCons (tVar 3) tNil)))))))))))

def d_variant : DS := (dSeq (dAsg (dVar 1) (dgTup 2 (dgCons (dgName 2) (dgCons (dgName 3) dgNil))))
  (dSeq (dAsg (dCallIO ct_draw 0 (dCons (dVar 0) (dCons (dC (.int 5)) dNil))) (dgName 4))
  (dSeq (dIfS (dOr (dTest (dOp2 oEq (dVar 2) (dTup dNil))) (dTest (dOp2 oEq (dVar 4) (dC (.int 0))))) (dSeq (dAsg (dOp2 oIx (dCallIO ct_row 0 (dCons (dVar 0) (dCons (dC (.int 8)) (dCons (dC (.int 9)) (dCons (dC (.int 1)) dNil))))) (dC (.int 0))) (dgName 5))
  (dRet (dTup (dCons (dVar 5) (dCons (dCB oTupOf (dCons (dCB oSorted (dCons (dLc (dSeqI (dVar 3)) (dgName 10) dYes (dCallIO ct_draw 0 (dCons (dVar 0) (dCons (dOp2 oAdd (dCB oLen (dCons (dVar 5) dNil)) (dC (.int 1))) dNil))) [10]) dNil)) dNil)) dNil))))) dNext)
  (dSeq (dAsg (dCallIO ct_draw 0 (dCons (dVar 0) (dCons (dCB oLen (dCons (dVar 2) dNil)) dNil))) (dgName 6))
  (dSeq (dIfS (dTest (dOp2 oEq (dVar 4) (dC (.int 1)))) (dSeq (dAsg (dOp2 oAdd (dSl (dVar 2) dNoPart (dPart (dVar 6))) (dSl (dVar 2) (dPart (dOp2 oAdd (dVar 6) (dC (.int 1)))) dNoPart)) (dgName 7))
  (dRet (dTup (dCons (dVar 7) (dCons (dCB oTupOf (dCons (dLc (dSeqI (dVar 3)) (dgName 10) dYes (dOp2 (dI0 fun i j => .int (i - j)) (dVar 10) (dCB oInt (dCons (dOp2 oGt (dVar 10) (dVar 6)) dNil))) [10]) dNil)) dNil))))) dNext)
  (dSeq (dIfS (dAnd (dTest (dOp2 oEq (dVar 4) (dC (.int 2)))) (dTest (dOp2 oLt (dCB oLen (dCons (dVar 2) dNil)) (dC (.int 8))))) (dSeq (dAsg (dOp2 oAdd (dOp2 oAdd (dSl (dVar 2) dNoPart (dPart (dVar 6))) (dTup (dCons (dOp2 oAdd (dC (.int 1)) (dCallIO ct_draw 0 (dCons (dVar 0) (dCons (dC (.int 9)) dNil)))) dNil))) (dSl (dVar 2) (dPart (dVar 6)) dNoPart)) (dgName 8))
  (dRet (dTup (dCons (dVar 8) (dCons (dCB oTupOf (dCons (dLc (dSeqI (dVar 3)) (dgName 10) dYes (dOp2 oAdd (dVar 10) (dCB oInt (dCons (dOp2 oGt (dVar 10) (dVar 6)) dNil))) [10]) dNil)) dNil))))) dNext)
  (dSeq (dIfS (dTest (dOp2 oEq (dVar 4) (dC (.int 3)))) (dSeq (dAsg (dLc (dSeqI (dVar 3)) (dgName 10) dYes (dIfE (dTest (dOp2 oGt (dCallIO ct_draw 0 (dCons (dVar 0) (dCons (dC (.int 3)) dNil))) (dC (.int 0)))) (dVar 10) (dCallIO ct_draw 0 (dCons (dVar 0) (dCons (dOp2 oAdd (dCB oLen (dCons (dVar 2) dNil)) (dC (.int 1))) dNil)))) [10]) (dgName 9))
  (dRet (dTup (dCons (dVar 2) (dCons (dCB oTupOf (dCons (dCB oSorted (dCons (dVar 9) dNil)) dNil)) dNil))))) dNext)
  (dRet (dTup (dCons (dOp2 oAdd (dOp2 oAdd (dSl (dVar 2) dNoPart (dPart (dVar 6))) (dTup (dCons (dOp2 oAdd (dC (.int 1)) (dCallIO ct_draw 0 (dCons (dVar 0) (dCons (dC (.int 9)) dNil)))) dNil))) (dSl (dVar 2) (dPart (dOp2 oAdd (dVar 6) (dC (.int 1)))) dNoPart)) (dCons (dVar 3) dNil)))))))))))

theorem sim_variant {K : PySem.W.Frag} : SimS (t_variant K) d_variant := (simS_seq (simS_asg simE_var (simG_tup (simGs_cons simG_name (simGs_cons simG_name simGs_nil))))
  (simS_seq (simS_asg (simE_callIO (k := 0) rfl (simA_cons simE_var (simA_cons (simE_c fun _ _ => .int _) simA_nil))) simG_name)
  (simS_seq (simS_if (simT_or (simT_test (simE_op2 simR2_eq simE_var (simE_tup simA_nil))) (simT_test (simE_op2 simR2_eq simE_var (simE_c fun _ _ => .int _)))) (simS_seq (simS_asg (simE_op2 simR2_ix (simE_callIO (k := 0) rfl (simA_cons simE_var (simA_cons (simE_c fun _ _ => .int _) (simA_cons (simE_c fun _ _ => .int _) (simA_cons (simE_c fun _ _ => .int _) simA_nil))))) (simE_c fun _ _ => .int _)) simG_name)
  (simS_ret (simE_tup (simA_cons simE_var (simA_cons (simE_cb simRN_tupOf (simA_cons (simE_cb simRN_sorted (simA_cons (simE_lc (simI_seq simE_var) simG_name (tg_name (by decide)) simT_yes (simE_callIO (k := 0) rfl (simA_cons simE_var (simA_cons (simE_op2 simR2_add (simE_cb simRN_len (simA_cons simE_var simA_nil)) (simE_c fun _ _ => .int _)) simA_nil)))) simA_nil)) simA_nil)) simA_nil))))) simS_next)
  (simS_seq (simS_asg (simE_callIO (k := 0) rfl (simA_cons simE_var (simA_cons (simE_cb simRN_len (simA_cons simE_var simA_nil)) simA_nil))) simG_name)
  (simS_seq (simS_if (simT_test (simE_op2 simR2_eq simE_var (simE_c fun _ _ => .int _))) (simS_seq (simS_asg (simE_op2 simR2_add (simE_sl simE_var simO_none (simO_some simE_var)) (simE_sl simE_var (simO_some (simE_op2 simR2_add simE_var (simE_c fun _ _ => .int _))) simO_none)) simG_name)
  (simS_ret (simE_tup (simA_cons simE_var (simA_cons (simE_cb simRN_tupOf (simA_cons (simE_lc (simI_seq simE_var) simG_name (tg_name (by decide)) simT_yes (simE_op2 simR2_sub simE_var (simE_cb simRN_int (simA_cons (simE_op2 simR2_gt simE_var simE_var) simA_nil)))) simA_nil)) simA_nil))))) simS_next)
  (simS_seq (simS_if (simT_and (simT_test (simE_op2 simR2_eq simE_var (simE_c fun _ _ => .int _))) (simT_test (simE_op2 simR2_lt (simE_cb simRN_len (simA_cons simE_var simA_nil)) (simE_c fun _ _ => .int _)))) (simS_seq (simS_asg (simE_op2 simR2_add (simE_op2 simR2_add (simE_sl simE_var simO_none (simO_some simE_var)) (simE_tup (simA_cons (simE_op2 simR2_add (simE_c fun _ _ => .int _) (simE_callIO (k := 0) rfl (simA_cons simE_var (simA_cons (simE_c fun _ _ => .int _) simA_nil)))) simA_nil))) (simE_sl simE_var (simO_some simE_var) simO_none)) simG_name)
  (simS_ret (simE_tup (simA_cons simE_var (simA_cons (simE_cb simRN_tupOf (simA_cons (simE_lc (simI_seq simE_var) simG_name (tg_name (by decide)) simT_yes (simE_op2 simR2_add simE_var (simE_cb simRN_int (simA_cons (simE_op2 simR2_gt simE_var simE_var) simA_nil)))) simA_nil)) simA_nil))))) simS_next)
  (simS_seq (simS_if (simT_test (simE_op2 simR2_eq simE_var (simE_c fun _ _ => .int _))) (simS_seq (simS_asg (simE_lc (simI_seq simE_var) simG_name (tg_name (by decide)) simT_yes (simE_if (simT_test (simE_op2 simR2_gt (simE_callIO (k := 0) rfl (simA_cons simE_var (simA_cons (simE_c fun _ _ => .int _) simA_nil))) (simE_c fun _ _ => .int _))) simE_var (simE_callIO (k := 0) rfl (simA_cons simE_var (simA_cons (simE_op2 simR2_add (simE_cb simRN_len (simA_cons simE_var simA_nil)) (simE_c fun _ _ => .int _)) simA_nil))))) simG_name)
  (simS_ret (simE_tup (simA_cons simE_var (simA_cons (simE_cb simRN_tupOf (simA_cons (simE_cb simRN_sorted (simA_cons simE_var simA_nil)) simA_nil)) simA_nil))))) simS_next)
  (simS_ret (simE_tup (simA_cons (simE_op2 simR2_add (simE_op2 simR2_add (simE_sl simE_var simO_none (simO_some simE_var)) (simE_tup (simA_cons (simE_op2 simR2_add (simE_c fun _ _ => .int _) (simE_callIO (k := 0) rfl (simA_cons simE_var (simA_cons (simE_c fun _ _ => .int _) simA_nil)))) simA_nil))) (simE_sl simE_var (simO_some (simE_op2 simR2_add simE_var (simE_c fun _ _ => .int _))) simO_none)) (simA_cons simE_var simA_nil)))))))))))

def t_law_k05 (K : PySem.W.Frag) : TS := (tSeq (tFor (iRng1 (tCons (tC (.int 8)) tNil)) (gName 2) (tSeq (tAsg (tCall (spD ct_row) [] E0 (tCons (tVar 1) (tCons (tC (.int 8)) (tCons (tC (.int 9)) (tCons (tC (.int 5)) tNil))))) (gName 3))
  (tSeq (tAsg (tCall (spD ct_variant) [] E0 (tCons (tVar 1) (tCons (tVar 3) tNil))) (gName 4))
  (tSeq (tAsg (tOp (rEqD K) (tCall (spD ct_reduced) [] E0 (tCons (tVar 3) (tCons (tCall (spD ct_lcounting) [] E0 (tCons (tVar 3) tNil)) tNil))) (tCall (spD ct_reduced) [] E0 (tCons (tVar 4) (tCons (tCall (spD ct_lcounting) [] E0 (tCons (tVar 4) tNil)) tNil)))) (gName 5))
  (tSeq (tAsg (tCall (spD ct_separating) [] E0 (tCons (tVar 3) (tCons (tVar 4) tNil))) (gName 6))
  (tSeq (tIfS (tOr (tNot (tB (tCall (spD (ct_like 4)) [] E0 (tCons (tCall (spD ct_equal) [] E0 (tCons (tVar 3) (tCons (tVar 4) tNil))) (tCons (tVar 5) tNil))))) (tTest (tOp (rNeD K) (tOp rIsU (tVar 6) (tC .non)) (tVar 5)))) (tRet (tC (.bl false))) tNext)
  (tIfS (tTest (tOp rIsU (tVar 6) (tC .non))) (tFor (iRng1 (tCons (tC (.int 3)) tNil)) (gName 7) (tSeq (tAsg (tCall (spD ct_near_schedule) [] E0 (tCons (tVar 1) (tCons (tVar 3) (tCons (tC (.int 30)) tNil)))) (gName 8))
  (tIfS (tTest (tOp (rNeD K) (tCall (spD ct_lanswers) [] E0 (tCons (tVar 3) (tCons (tVar 8) tNil))) (tCall (spD ct_lanswers) [] E0 (tCons (tVar 4) (tCons (tVar 8) tNil))))) (tRet (tC (.bl false))) tNext))) (tIfS (tOr (tNot (tB (tCall (spD ct_is_schedule) [] E0 (tCons (tVar 3) (tCons (tVar 6) (tCons (tC (.int 40)) tNil)))))) (tTest (tOp (rEqD K) (tCall (spD ct_lanswers) [] E0 (tCons (tVar 3) (tCons (tVar 6) tNil))) (tCall (spD ct_lanswers) [] E0 (tCons (tVar 4) (tCons (tVar 6) tNil)))))) (tRet (tC (.bl false))) tNext))))))))
  (tRet (tC (.bl true))))

def d_law_k05 : DS := (dSeq (dFor (dRng1 (dCons (dC (.int 8)) dNil)) (dgName 2) (dSeq (dAsg (dCallIO ct_row 0 (dCons (dVar 1) (dCons (dC (.int 8)) (dCons (dC (.int 9)) (dCons (dC (.int 5)) dNil))))) (dgName 3))
  (dSeq (dAsg (dCallIO ct_variant 0 (dCons (dVar 1) (dCons (dVar 3) dNil))) (dgName 4))
  (dSeq (dAsg (dOp2 oEq (dCall ct_reduced (dCons (dVar 3) (dCons (dCall ct_lcounting (dCons (dVar 3) dNil)) dNil))) (dCall ct_reduced (dCons (dVar 4) (dCons (dCall ct_lcounting (dCons (dVar 4) dNil)) dNil)))) (dgName 5))
  (dSeq (dAsg (dCall ct_separating (dCons (dVar 3) (dCons (dVar 4) dNil))) (dgName 6))
  (dSeq (dIfS (dOr (dNot (dTest (dCall (ct_like 4) (dCons (dCall ct_equal (dCons (dVar 3) (dCons (dVar 4) dNil))) (dCons (dVar 5) dNil))))) (dTest (dOp2 oNe (dOp2 (oIs false) (dVar 6) (dC .none)) (dVar 5)))) (dRet (dC (.bool false))) dNext)
  (dIfS (dTest (dOp2 (oIs false) (dVar 6) (dC .none))) (dFor (dRng1 (dCons (dC (.int 3)) dNil)) (dgName 7) (dSeq (dAsg (dCallIO ct_near_schedule 0 (dCons (dVar 1) (dCons (dVar 3) (dCons (dC (.int 30)) dNil)))) (dgName 8))
  (dIfS (dTest (dOp2 oNe (dCall ct_lanswers (dCons (dVar 3) (dCons (dVar 8) dNil))) (dCall ct_lanswers (dCons (dVar 4) (dCons (dVar 8) dNil))))) (dRet (dC (.bool false))) dNext))) (dIfS (dOr (dNot (dTest (dCall ct_is_schedule (dCons (dVar 3) (dCons (dVar 6) (dCons (dC (.int 40)) dNil)))))) (dTest (dOp2 oEq (dCall ct_lanswers (dCons (dVar 3) (dCons (dVar 6) dNil))) (dCall ct_lanswers (dCons (dVar 4) (dCons (dVar 6) dNil)))))) (dRet (dC (.bool false))) dNext))))))))
  (dRet (dC (.bool true))))

theorem sim_law_k05 {K : PySem.W.Frag} : SimS (t_law_k05 K) d_law_k05 := (simS_seq (simS_for (simI_rng1 (simA_cons (simE_c fun _ _ => .int _) simA_nil)) simG_name (simS_seq (simS_asg (simE_callIO (k := 0) rfl (simA_cons simE_var (simA_cons (simE_c fun _ _ => .int _) (simA_cons (simE_c fun _ _ => .int _) (simA_cons (simE_c fun _ _ => .int _) simA_nil))))) simG_name)
  (simS_seq (simS_asg (simE_callIO (k := 0) rfl (simA_cons simE_var (simA_cons simE_var simA_nil))) simG_name)
  (simS_seq (simS_asg (simE_op2 simR2_eq (simE_call rfl (simA_cons simE_var (simA_cons (simE_call rfl (simA_cons simE_var simA_nil)) simA_nil))) (simE_call rfl (simA_cons simE_var (simA_cons (simE_call rfl (simA_cons simE_var simA_nil)) simA_nil)))) simG_name)
  (simS_seq (simS_asg (simE_call rfl (simA_cons simE_var (simA_cons simE_var simA_nil))) simG_name)
  (simS_seq (simS_if (simT_or (simT_not (simT_B (simE_call rfl (simA_cons (simE_call rfl (simA_cons simE_var (simA_cons simE_var simA_nil))) (simA_cons simE_var simA_nil))))) (simT_test (simE_op2 simR2_ne (simE_op2 simR2_is simE_var (simE_c fun _ _ => .non)) simE_var))) (simS_ret (simE_c fun _ _ => .bl _)) simS_next)
  (simS_if (simT_test (simE_op2 simR2_is simE_var (simE_c fun _ _ => .non))) (simS_for (simI_rng1 (simA_cons (simE_c fun _ _ => .int _) simA_nil)) simG_name (simS_seq (simS_asg (simE_callIO (k := 0) rfl (simA_cons simE_var (simA_cons simE_var (simA_cons (simE_c fun _ _ => .int _) simA_nil)))) simG_name)
  (simS_if (simT_test (simE_op2 simR2_ne (simE_call rfl (simA_cons simE_var (simA_cons simE_var simA_nil))) (simE_call rfl (simA_cons simE_var (simA_cons simE_var simA_nil))))) (simS_ret (simE_c fun _ _ => .bl _)) simS_next))) (simS_if (simT_or (simT_not (simT_B (simE_call rfl (simA_cons simE_var (simA_cons simE_var (simA_cons (simE_c fun _ _ => .int _) simA_nil)))))) (simT_test (simE_op2 simR2_eq (simE_call rfl (simA_cons simE_var (simA_cons simE_var simA_nil))) (simE_call rfl (simA_cons simE_var (simA_cons simE_var simA_nil)))))) (simS_ret (simE_c fun _ _ => .bl _)) simS_next))))))))
  (simS_ret (simE_c fun _ _ => .bl _)))

def rdL (r : Row) (d : PyData) : PyData := match d with
    | .int i => .int (r.ls.getD i.toNat 0)
    | d => d
def rdP (f : Nat → Bool) (d : PyData) : PyData := match d with
    | .int q => .int ((kc f q.toNat : Nat) : Int)
    | d => d
theorem rd_ints (f : Nat → Bool) (r : Row) : (((List.range r.ls.length).filter f).map natD).map (rdL r) = (redR f r).ls.map PyData.int := by
  show _ = (red f 0 r.ls).map PyData.int
  rw [← red_get f 0 r.ls, List.map_map, List.map_map]
  rfl
theorem rd_nats (f : Nat → Bool) (r : Row) : (r.ps.map fun (n : Nat) => PyData.int (n : Int)).map (rdP f) = (redR f r).ps.map fun (n : Nat) => PyData.int (n : Int) := by
  show _ = (r.ps.map (kc f)).map _
  rw [List.map_map, List.map_map]
  rfl
theorem flt_len (f : Nat → Bool) (k : Nat) : ((List.range k).filter f).length ≤ k := by
  have := List.length_filter_le f (List.range k)
  simpa using this
theorem law_reduced (ds : List PyData) (Z : Rs → PyData → Prop) (hl : ds.length = ct_reduced.n) (h : ct_reduced.pre ds Z) : d_reduced (endsD ct_reduced.io Z) (startD 5 ct_reduced.io ds) := by
  obtain ⟨r, f, rfl, F, hZ⟩ := h
  show d_reduced (endsD none Z) [some (.fz (rowD r)), some (.fz (.list (((List.range r.ls.length).filter f).map natD))), none, none, none]
  have hfew := F.few
  have hfp := F.fewP
  have hkl := flt_len f r.ls.length
  have hkr : ∀ i ∈ (List.range r.ls.length).filter f, i < r.ls.length := fun i hi => List.mem_range.mp (List.mem_filter.mp hi).1
  unfold d_reduced
  refine dSeq_by (fun ρ => ρ = [some (.fz (rowD r)), some (.fz (.list (((List.range r.ls.length).filter f).map natD))), some (.fz (.list ((redR f r).ps.map fun (n : Nat) => PyData.int (n : Int)))), none, none]) (fun W hW => ?_) fun ρ ee => ?_
  · unfold rowD natsT at hW ⊢
    rw [dAsg]
    rw [dLc]
    walk_at "e"
    refine ⟨rfl, by omega, ?_⟩
    refine lcLoop_map (rdP f) (fun x hx V hV => ?_) ?_
    · obtain ⟨q, hq, rfl⟩ := List.mem_map.mp hx
      unfold rdP at hV
      simp only [Int.toNat_natCast] at hV
      walk_at "d"
      rw [dLc]
      walk_at "e"
      refine ⟨rfl, by omega, ?_⟩
      refine lcLoop_pure (ltF q) (fun x hx V2 hV2 => ?_) ?_
      · obtain ⟨i, hi, rfl⟩ := List.mem_map.mp hx
        unfold natD ltF at hV2
        unfold natD
        simp only at hV2
        walk_at "d"
        by_cases c : (i : Int) < (q : Int)
        · rw [if_pos c] at hV2
          rw [if_pos (decide_eq_true c)]
          exact hV2
        · rw [if_neg c] at hV2
          rw [if_neg (by rw [decide_eq_false c]; exact Bool.false_ne_true)]
          exact hV2
      · have e : ((((List.range r.ls.length).filter f).map natD).filterMap (ltF q)).length = kc f q := by
          rw [ltF_map, List.length_map]
          rw [range_lt f (F.good.inn q hq)]
          rfl
        walk_at "d"
        rw [e]
        exact hV
    rw [rd_nats]
    walk_at "d"
    exact hW _ rfl
  subst ee
  unfold rowD intsT natsT
  simp only [dRet]
  walk_at "e"
  rw [dLc]
  walk_at "e"
  refine ⟨rfl, by omega, ?_⟩
  refine lcLoop_map (rdL r) (fun x hx V hV => ?_) ?_
  · obtain ⟨i, hi, rfl⟩ := List.mem_map.mp hx
    obtain ⟨l, el⟩ := get_at (hkr i hi)
    unfold natD rdL at hV
    unfold natD
    simp only [Int.toNat_natCast, getD_of el] at hV
    walk_at "d"
    exact ⟨_, atI_map el, hV⟩
  rw [rd_ints]
  walk_at "e"
  exact hZ
theorem nob_nats (n : Nat) (xs : List Nat) : Nob (n + 1) (.list (xs.map natD)) := by
  simp only [Nob]
  intro x hx
  obtain ⟨i, _, rfl⟩ := List.mem_map.mp hx
  simp [natD, Nob]
theorem likes_row (n : Nat) (r : Row) (h1 : r.ls.length ≤ 1000) (h2 : r.ps.length ≤ 1000) : Likes (n + 3) (rowD r) := by
  simp only [rowD, Likes]
  refine ⟨by simp, fun x hx => ?_⟩
  rcases List.mem_cons.mp hx with rfl | hx
  · simp only [intsT, Likes, List.length_map]
    refine ⟨h1, fun y hy => ?_⟩
    obtain ⟨i, _, rfl⟩ := List.mem_map.mp hy
    trivial
  · rw [List.mem_singleton] at hx
    subst hx
    simp only [natsT, Likes, List.length_map]
    refine ⟨h2, fun y hy => ?_⟩
    obtain ⟨i, _, rfl⟩ := List.mem_map.mp hy
    trivial
theorem oIn_natsL {n : Bool} {xs : List Nat} {i : Nat} {Z : Rs → Prop} (q : Z (.fz (.bool (n ^^ decide (i ∈ xs))))) : oIn n (.int (i : Int)) (.list (xs.map natD)) Z := by
  refine ⟨_, rfl, rfl, ?_, ?_⟩
  · rw [List.all_map]
    exact List.all_eq_true.mpr fun _ _ => rfl
  · have : inD (xs.map natD) (.int (i : Int)) = decide (i ∈ xs) := inD_nats xs i
    rw [this]
    exact q
def neF (j : Nat) (d : PyData) : Option PyData := match d with
    | .int i => if i = (j : Int) then none else some (.int i)
    | _ => none
theorem neF_map (j : Nat) : ∀ L : List Nat, (L.map natD).filterMap (neF j) = (L.filter fun i => decide (i ≠ j)).map natD
  | [] => rfl
  | i :: L => by
    rw [List.map_cons, List.filterMap_cons, neF_map j L]
    unfold natD neF
    simp only
    by_cases c : i = j
    · rw [if_pos (by omega), List.filter_cons_of_neg (p := fun i => decide (i ≠ j)) (by rw [decide_eq_false (by omega)]; exact Bool.false_ne_true)]
    · rw [if_neg (by omega), List.filter_cons_of_pos (p := fun i => decide (i ≠ j)) (decide_eq_true c)]
      rfl
def dnF (at' : Nat) (d : PyData) : PyData := match d with
    | .int p => .int (p - (if decide ((at' : Int) < p) = true then 1 else 0))
    | d => d
def upF (at' : Nat) (d : PyData) : PyData := match d with
    | .int p => .int (p + (if decide ((at' : Int) < p) = true then 1 else 0))
    | d => d
def dnN (a p : Nat) : Nat := if a < p then p - 1 else p
def upN (a p : Nat) : Nat := if a < p then p + 1 else p
theorem dnF_map (a : Nat) (ps : List Nat) : (ps.map fun (n : Nat) => PyData.int (n : Int)).map (dnF a) = (ps.map (dnN a)).map fun (n : Nat) => PyData.int (n : Int) := by
  rw [List.map_map, List.map_map]
  refine List.map_congr_left fun p _ => ?_
  simp only [Function.comp]
  unfold dnF dnN
  simp only
  by_cases h : a < p
  · rw [if_pos h, if_pos (decide_eq_true (by omega))]
    congr 1
    omega
  · rw [if_neg h, if_neg (by rw [decide_eq_false (by omega)]; exact Bool.false_ne_true)]
    congr 1
theorem upF_map (a : Nat) (ps : List Nat) : (ps.map fun (n : Nat) => PyData.int (n : Int)).map (upF a) = (ps.map (upN a)).map fun (n : Nat) => PyData.int (n : Int) := by
  rw [List.map_map, List.map_map]
  refine List.map_congr_left fun p _ => ?_
  simp only [Function.comp]
  unfold upF upN
  simp only
  by_cases h : a < p
  · rw [if_pos h, if_pos (decide_eq_true (by omega))]
    congr 1
  · rw [if_neg h, if_neg (by rw [decide_eq_false (by omega)]; exact Bool.false_ne_true)]
    congr 1
theorem nil_of_map {ps : List Nat} {f : Nat → Nat} (h : ps ≠ []) : ps.map f ≠ [] := fun z => h (List.map_eq_nil_iff.mp z)
theorem law_variant (ds : List PyData) (Z : Rs → PyData → Prop) (hl : ds.length = ct_variant.n) (h : ct_variant.pre ds Z) : d_variant (endsD ct_variant.io Z) (startD 11 ct_variant.io ds) := by
  obtain ⟨tp, r, rfl, T, R, hZ⟩ := h
  show d_variant (endsD (some 0) Z) [some (.io tp), some (.fz (rowD r)), none, none, none, none, none, none, none, none, none]
  have hpl : r.ps.length ≤ 5 := by have := R.p1; omega
  have hll : r.ls.length ≤ 8 := by have := R.ls; omega
  unfold d_variant
  refine dSeq_by (fun ρ => ρ = [some (.io tp), some (.fz (rowD r)), some (.fz (intsT r.ls)), some (.fz (natsT r.ps)), none, none, none, none, none, none, none]) (fun W hW => ?_) fun ρ ee => ?_
  · unfold rowD at hW ⊢
    walk_at "d"
    exact hW _ rfl
  subst ee
  refine dSeq_by (fun ρ => ∃ (tp : PyData) (way : Int), TapeOk tp ∧ ρ = [some (.io tp), some (.fz (rowD r)), some (.fz (intsT r.ls)), some (.fz (natsT r.ps)), some (.fz (.int way)), none, none, none, none, none, none]) (fun W hW => ?_) fun ρ ee => ?_
  · walk_at "d"
    refine ⟨rfl, tp, 5, rfl, T, by decide, by decide, fun way tp2 g0 g1 T2 => ?_⟩
    walk_at "d"
    exact hW _ ⟨tp2, way, T2, rfl⟩
  clear T
  obtain ⟨tp, way, T, rfl⟩ := ee
  have srt : ∀ (tp' : PyData) (ls : List Int) (ps qs : List Nat), TapeOk tp' → (ls.length : Int) ≤ 8 → (∀ x ∈ ls, 1 ≤ x) → (∀ x ∈ ls, x ≤ 9) → ps.length = r.ps.length → (∀ x ∈ ps, x ≤ ls.length) → qs.Perm ps → qs.Pairwise (· ≤ ·) → Z (.fz (rowD ⟨ls, qs⟩)) tp' := fun tp' ls ps qs T' l0 l1 l2 hlen hin hp hw => by
    have hlq := hp.length_eq
    refine hZ ⟨ls, qs⟩ tp' ⟨l0, l1, l2, fun z => R.p0 (List.eq_nil_of_length_eq_zero (by have z : qs = [] := z; rw [z] at hlq; simp at hlq; omega)), by show (qs.length : Int) ≤ 5; omega, fun p hq => hin p (hp.mem_iff.mp hq), hw⟩ (by show qs.length = _; omega) T'
  unfold intsT natsT
  by_cases hA : r.ls = [] ∨ way = 0
  · rw [dSeq, dIfS]
    have body : dSeq (dAsg (dOp2 oIx (dCallIO ct_row 0 (dCons (dVar 0) (dCons (dC (.int 8)) (dCons (dC (.int 9)) (dCons (dC (.int 1)) dNil))))) (dC (.int 0))) (dgName 5))
        (dRet (dTup (dCons (dVar 5) (dCons (dCB oTupOf (dCons (dCB oSorted (dCons (dLc (dSeqI (dVar 3)) (dgName 10) dYes (dCallIO ct_draw 0 (dCons (dVar 0) (dCons (dOp2 oAdd (dCB oLen (dCons (dVar 5) dNil)) (dC (.int 1))) dNil))) [10]) dNil)) dNil)) dNil))))
        (endsD (some 0) Z) [some (.io tp), some (.fz (rowD r)), some (.fz (.tuple (r.ls.map PyData.int))), some (.fz (.tuple (r.ps.map fun (n : Nat) => PyData.int (n : Int)))), some (.fz (.int way)), none, none, none, none, none, none] := by
      refine dSeq_by (fun ρ => ∃ (tp : PyData) (ls : List Int), TapeOk tp ∧ (ls.length : Int) ≤ 8 ∧ (∀ x ∈ ls, 1 ≤ x) ∧ (∀ x ∈ ls, x ≤ 9) ∧ ρ = [some (.io tp), some (.fz (rowD r)), some (.fz (.tuple (r.ls.map PyData.int))), some (.fz (.tuple (r.ps.map fun (n : Nat) => PyData.int (n : Int)))), some (.fz (.int way)), some (.fz (intsT ls)), none, none, none, none, none]) (fun W hW => ?_) fun ρ e => ?_
      · walk_at "d"
        refine ⟨rfl, _, 8, 9, 1, rfl, T, by decide, by decide, by decide, by decide, by decide, by decide, fun r2 tp2 R2 T2 => ?_⟩
        have e : rowD r2 = .tuple [intsT r2.ls, natsT r2.ps] := rfl
        rw [e]
        walk_at "d"
        exact hW _ ⟨tp2, r2.ls, T2, R2.ls, R2.lo, R2.hi, rfl⟩
      clear T
      obtain ⟨tp, ls, T, l0, l1, l2, rfl⟩ := e
      unfold intsT
      rw [dRet]
      walk_at "e"
      rw [dLc]
      walk_at "e"
      refine ⟨rfl, by omega, ?_⟩
      refine lcLoop_inv (fun j acc ρ => ∃ (tp : PyData) (ps : List Nat), TapeOk tp ∧ ps.length = j ∧ (∀ x ∈ ps, x ≤ ls.length) ∧ acc = (ps.map fun (n : Nat) => PyData.int (n : Int)) ∧ ρ = [some (.io tp), some (.fz (rowD r)), some (.fz (.tuple (r.ls.map PyData.int))), some (.fz (.tuple (r.ps.map fun (n : Nat) => PyData.int (n : Int)))), some (.fz (.int way)), some (.fz (.tuple (ls.map PyData.int))), none, none, none, none, none]) ⟨tp, [], T, rfl, by simp, rfl, rfl⟩ (fun j x acc ρ V hx I hV _ => ?_) fun acc ρ I => ?_
      · obtain ⟨tp, ps, T, hj, n1, rfl, rfl⟩ := I
        walk_at "d"
        refine ⟨rfl, tp, _, rfl, T, by omega, by omega, fun c tp' h0 h1 T' => ?_⟩
        obtain ⟨c, rfl⟩ := Int.eq_ofNat_of_zero_le h0
        walk_at "d"
        refine hV _ _ ⟨tp', ps ++ [c], T', by simp [hj], fun y hy => ?_, by simp, rfl⟩
        rcases List.mem_append.mp hy with hy | hy
        · exact n1 y hy
        · rw [List.mem_singleton] at hy; omega
      · obtain ⟨tp, ps, T, hj, n1, rfl, rfl⟩ := I
        rw [List.length_map] at hj
        walk_at "e"
        refine oSorted_nats fun qs hp hw => ?_
        walk_at "d"
        exact srt tp ls ps qs T l0 l1 l2 hj n1 hp hw
    walk_at "e"
    refine oEq_nob (n := 2) (p := r.ls = []) (by decide) (by simp only [Nob]; intro y hy; obtain ⟨i, _, rfl⟩ := List.mem_map.mp hy; simp [Nob]) (by simp [Nob]) (by simp) ?_
    walk_at "e"
    by_cases h1 : r.ls = []
    · rw [decide_eq_true h1]
      walk_at "e"
      exact body
    · rw [decide_eq_false h1]
      have h2 : way = 0 := by rcases hA with z | z; exact absurd z h1; exact z
      subst h2
      walk_at "e"
      exact body
  have hne : r.ls ≠ [] := fun z => hA (.inl z)
  have hw0 : way ≠ 0 := fun z => hA (.inr z)
  have hn0 : 0 < r.ls.length := List.length_pos_iff.mpr hne
  have hlm : (r.ls.map PyData.int).length = r.ls.length := List.length_map ..
  refine dSeq_by (fun ρ => ρ = [some (.io tp), some (.fz (rowD r)), some (.fz (.tuple (r.ls.map PyData.int))), some (.fz (.tuple (r.ps.map fun (n : Nat) => PyData.int (n : Int)))), some (.fz (.int way)), none, none, none, none, none, none]) (fun W hW => ?_) fun ρ ee => ?_
  · rw [dIfS]
    walk_at "e"
    refine oEq_nob (n := 2) (p := r.ls = []) (by decide) (by simp only [Nob]; intro y hy; obtain ⟨i, _, rfl⟩ := List.mem_map.mp hy; simp [Nob]) (by simp [Nob]) (by simp) ?_
    rw [decide_eq_false hne]
    walk_at "e"
    rw [decide_eq_false hw0]
    walk_at "d"
    exact hW _ rfl
  subst ee
  refine dSeq_by (fun ρ => ∃ (tp : PyData) (a : Nat), TapeOk tp ∧ a < r.ls.length ∧ ρ = [some (.io tp), some (.fz (rowD r)), some (.fz (.tuple (r.ls.map PyData.int))), some (.fz (.tuple (r.ps.map fun (n : Nat) => PyData.int (n : Int)))), some (.fz (.int way)), none, some (.fz (.int (a : Int))), none, none, none, none]) (fun W hW => ?_) fun ρ ee => ?_
  · walk_at "d"
    refine ⟨rfl, tp, _, rfl, T, by omega, by omega, fun a tp2 g0 g1 T2 => ?_⟩
    obtain ⟨a, rfl⟩ := Int.eq_ofNat_of_zero_le g0
    walk_at "d"
    exact hW _ ⟨tp2, a, T2, by omega, rfl⟩
  clear T
  obtain ⟨tp, a, T, ha, rfl⟩ := ee
  have e1 : ((a : Int) + 1) = ((a + 1 : Nat) : Int) := by omega
  by_cases h1 : way = 1
  · subst h1
    walk_at "d"
    rw [e1, cut_to _ (by omega), cut_from]
    refine ⟨by simp; omega, ?_⟩
    rw [dLc]
    walk_at "e"
    refine ⟨rfl, by omega, ?_⟩
    refine lcLoop_map (dnF a) (fun x hx V hV => ?_) ?_
    · obtain ⟨p, hp, rfl⟩ := List.mem_map.mp hx
      unfold dnF at hV
      simp only at hV
      walk_at "d"
      exact hV
    rw [dnF_map]
    walk_at "e"
    have hs : rowD ⟨r.ls.take a ++ r.ls.drop (a + 1), r.ps.map (dnN a)⟩ = .tuple [.tuple ((r.ls.map PyData.int).take a ++ (r.ls.map PyData.int).drop (a + 1)), .tuple ((r.ps.map (dnN a)).map fun (n : Nat) => PyData.int (n : Int))] := by
      unfold rowD intsT natsT
      simp only [List.map_append, List.map_take, List.map_drop]
    have hf := hZ ⟨r.ls.take a ++ r.ls.drop (a + 1), r.ps.map (dnN a)⟩ tp ⟨by simp only [List.length_append, List.length_take, List.length_drop]; omega, fun x hx => ?_, fun x hx => ?_, nil_of_map R.p0, by simp only [List.length_map]; omega, fun p hp => ?_, R.up.map _ fun p q h => ?_⟩ (by simp) T
    · rw [hs] at hf
      exact hf
    · rcases List.mem_append.mp hx with hx | hx
      · exact R.lo x (List.mem_of_mem_take hx)
      · exact R.lo x (List.mem_of_mem_drop hx)
    · rcases List.mem_append.mp hx with hx | hx
      · exact R.hi x (List.mem_of_mem_take hx)
      · exact R.hi x (List.mem_of_mem_drop hx)
    · obtain ⟨q, hq, rfl⟩ := List.mem_map.mp hp
      have := R.inn q hq
      simp only [List.length_append, List.length_take, List.length_drop]
      unfold dnN
      split <;> omega
    · unfold dnN
      split <;> split <;> omega
  have step1 : ∀ {W : DEnv → Prop} {b : DS}, W [some (.io tp), some (.fz (rowD r)), some (.fz (.tuple (r.ls.map PyData.int))), some (.fz (.tuple (r.ps.map fun (n : Nat) => PyData.int (n : Int)))), some (.fz (.int way)), none, some (.fz (.int (a : Int))), none, none, none, none] →
      dIfS (dTest (dOp2 oEq (dVar 4) (dC (.int 1)))) b dNext { nx := W, rt := (endsD (some 0) Z).rt, bk := (endsD (some 0) Z).bk, ct := (endsD (some 0) Z).ct } [some (.io tp), some (.fz (rowD r)), some (.fz (.tuple (r.ls.map PyData.int))), some (.fz (.tuple (r.ps.map fun (n : Nat) => PyData.int (n : Int)))), some (.fz (.int way)), none, some (.fz (.int (a : Int))), none, none, none, none] := fun {W b} hW => by
    rw [dIfS]
    walk_at "e"
    rw [decide_eq_false h1]
    walk_at "d"
    exact hW
  refine dSeq_by (fun ρ => ρ = [some (.io tp), some (.fz (rowD r)), some (.fz (.tuple (r.ls.map PyData.int))), some (.fz (.tuple (r.ps.map fun (n : Nat) => PyData.int (n : Int)))), some (.fz (.int way)), none, some (.fz (.int (a : Int))), none, none, none, none]) (fun W hW => step1 (hW _ rfl)) fun ρ ee => ?_
  subst ee
  clear step1
  by_cases h2 : way = 2 ∧ r.ls.length < 8
  · obtain ⟨h2, h3⟩ := h2
    subst h2
    rw [dSeq, dIfS]
    walk_at "e"
    rw [decide_eq_true (show (r.ls.length : Int) < 8 by omega)]
    walk_at "e"
    refine dSeq_by (fun ρ => ∃ (tp : PyData) (l : Int), TapeOk tp ∧ 0 ≤ l ∧ l < 9 ∧ ρ = [some (.io tp), some (.fz (rowD r)), some (.fz (.tuple (r.ls.map PyData.int))), some (.fz (.tuple (r.ps.map fun (n : Nat) => PyData.int (n : Int)))), some (.fz (.int 2)), none, some (.fz (.int (a : Int))), none, some (.fz (.tuple ((r.ls.map PyData.int).take a ++ [.int (1 + l)] ++ (r.ls.map PyData.int).drop a))), none, none]) (fun W hW => ?_) fun ρ ee => ?_
    · walk_at "d"
      refine ⟨rfl, tp, 9, rfl, T, by decide, by decide, fun l tp2 g0 g1 T2 => ?_⟩
      walk_at "d"
      rw [cut_to _ (by omega), cut_from]
      refine ⟨by simp; omega, by simp; omega, hW _ ⟨tp2, l, T2, g0, g1, rfl⟩⟩
    clear T
    obtain ⟨tp, l, T, g0, g1, rfl⟩ := ee
    rw [dRet]
    walk_at "e"
    rw [dLc]
    walk_at "e"
    refine ⟨rfl, by omega, ?_⟩
    refine lcLoop_map (upF a) (fun x hx V hV => ?_) ?_
    · obtain ⟨p, hp, rfl⟩ := List.mem_map.mp hx
      unfold upF at hV
      simp only at hV
      walk_at "d"
      exact hV
    rw [upF_map]
    walk_at "e"
    have hs : rowD ⟨r.ls.take a ++ [1 + l] ++ r.ls.drop a, r.ps.map (upN a)⟩ = .tuple [.tuple ((r.ls.map PyData.int).take a ++ [.int (1 + l)] ++ (r.ls.map PyData.int).drop a), .tuple ((r.ps.map (upN a)).map fun (n : Nat) => PyData.int (n : Int))] := by
      unfold rowD intsT natsT
      simp only [List.map_append, List.map_take, List.map_drop, List.map_cons, List.map_nil]
    have hf := hZ ⟨r.ls.take a ++ [1 + l] ++ r.ls.drop a, r.ps.map (upN a)⟩ tp ⟨by simp only [List.length_append, List.length_take, List.length_drop, List.length_cons, List.length_nil]; omega, fun x hx => ?_, fun x hx => ?_, nil_of_map R.p0, by simp only [List.length_map]; omega, fun p hp => ?_, R.up.map _ fun p q h => ?_⟩ (by simp) T
    · rw [hs] at hf
      exact hf
    · simp only [List.mem_append, List.mem_singleton] at hx
      rcases hx with (hx | hx) | hx
      · exact R.lo x (List.mem_of_mem_take hx)
      · omega
      · exact R.lo x (List.mem_of_mem_drop hx)
    · simp only [List.mem_append, List.mem_singleton] at hx
      rcases hx with (hx | hx) | hx
      · exact R.hi x (List.mem_of_mem_take hx)
      · omega
      · exact R.hi x (List.mem_of_mem_drop hx)
    · obtain ⟨q, hq, rfl⟩ := List.mem_map.mp hp
      have := R.inn q hq
      simp only [List.length_append, List.length_take, List.length_drop, List.length_cons, List.length_nil]
      unfold upN
      split <;> omega
    · unfold upN
      split <;> split <;> omega
  refine dSeq_by (fun ρ => ρ = [some (.io tp), some (.fz (rowD r)), some (.fz (.tuple (r.ls.map PyData.int))), some (.fz (.tuple (r.ps.map fun (n : Nat) => PyData.int (n : Int)))), some (.fz (.int way)), none, some (.fz (.int (a : Int))), none, none, none, none]) (fun W hW => ?_) fun ρ ee => ?_
  · rw [dIfS]
    walk_at "e"
    by_cases h3 : way = 2
    · rw [decide_eq_true h3]
      walk_at "e"
      rw [decide_eq_false (show ¬ (r.ls.length : Int) < 8 from fun z => h2 ⟨h3, by omega⟩)]
      walk_at "d"
      exact hW _ rfl
    · rw [decide_eq_false h3]
      walk_at "d"
      exact hW _ rfl
  subst ee
  by_cases h3 : way = 3
  · subst h3
    rw [dSeq, dIfS]
    walk_at "e"
    refine dSeq_by (fun ρ => ∃ (tp : PyData) (ps : List Nat), TapeOk tp ∧ ps.length = r.ps.length ∧ (∀ x ∈ ps, x ≤ r.ls.length) ∧ ρ = [some (.io tp), some (.fz (rowD r)), some (.fz (.tuple (r.ls.map PyData.int))), some (.fz (.tuple (r.ps.map fun (n : Nat) => PyData.int (n : Int)))), some (.fz (.int 3)), none, some (.fz (.int (a : Int))), none, none, some (.fz (.list (ps.map fun (n : Nat) => PyData.int (n : Int)))), none]) (fun W hW => ?_) fun ρ ee => ?_
    · rw [dAsg]
      walk_at "e"
      rw [dLc]
      walk_at "e"
      refine ⟨rfl, by omega, ?_⟩
      refine lcLoop_inv (fun j acc ρ => ∃ (tp : PyData) (ps : List Nat), TapeOk tp ∧ ps.length = j ∧ (∀ x ∈ ps, x ≤ r.ls.length) ∧ acc = (ps.map fun (n : Nat) => PyData.int (n : Int)) ∧ ρ = [some (.io tp), some (.fz (rowD r)), some (.fz (.tuple (r.ls.map PyData.int))), some (.fz (.tuple (r.ps.map fun (n : Nat) => PyData.int (n : Int)))), some (.fz (.int 3)), none, some (.fz (.int (a : Int))), none, none, none, none]) ⟨tp, [], T, rfl, by simp, rfl, rfl⟩ (fun j x acc ρ V hx I hV _ => ?_) fun acc ρ I => ?_
      · obtain ⟨tp, ps, T, hj, n1, rfl, rfl⟩ := I
        obtain ⟨p, hp, rfl⟩ := map_get hx
        have hpn := R.inn p (get_mem hp)
        walk_at "d"
        refine ⟨rfl, tp, 3, rfl, T, by decide, by decide, fun d tp1 d0 d1 T1 => ?_⟩
        walk_at "d"
        by_cases c : 0 < d
        · rw [if_pos (decide_eq_true c)]
          refine hV _ _ ⟨tp1, ps ++ [p], T1, by simp [hj], fun y hy => ?_, by simp, rfl⟩
          rcases List.mem_append.mp hy with hy | hy
          · exact n1 y hy
          · rw [List.mem_singleton] at hy; omega
        · rw [if_neg (by rw [decide_eq_false c]; exact Bool.false_ne_true)]
          refine ⟨rfl, tp1, _, rfl, T1, by omega, by omega, fun c tp' h0 h1 T' => ?_⟩
          obtain ⟨c, rfl⟩ := Int.eq_ofNat_of_zero_le h0
          walk_at "d"
          refine hV _ _ ⟨tp', ps ++ [c], T', by simp [hj], fun y hy => ?_, by simp, rfl⟩
          rcases List.mem_append.mp hy with hy | hy
          · exact n1 y hy
          · rw [List.mem_singleton] at hy; omega
      · obtain ⟨tp, ps, T, hj, n1, rfl, rfl⟩ := I
        rw [List.length_map] at hj
        walk_at "d"
        exact hW _ ⟨tp, ps, T, hj, n1, rfl⟩
    clear T
    obtain ⟨tp, ps, T, hj, n1, rfl⟩ := ee
    walk_at "d"
    refine oSorted_nats fun qs hp hw => ?_
    walk_at "d"
    exact srt tp r.ls ps qs T R.ls R.lo R.hi hj n1 hp hw
  refine dSeq_by (fun ρ => ρ = [some (.io tp), some (.fz (rowD r)), some (.fz (.tuple (r.ls.map PyData.int))), some (.fz (.tuple (r.ps.map fun (n : Nat) => PyData.int (n : Int)))), some (.fz (.int way)), none, some (.fz (.int (a : Int))), none, none, none, none]) (fun W hW => ?_) fun ρ ee => ?_
  · rw [dIfS]
    walk_at "e"
    rw [decide_eq_false h3]
    walk_at "d"
    exact hW _ rfl
  subst ee
  walk_at "d"
  refine ⟨rfl, tp, 9, rfl, T, by decide, by decide, fun l tp2 g0 g1 T2 => ?_⟩
  walk_at "d"
  rw [e1, cut_to _ (by omega), cut_from]
  refine ⟨by simp; omega, by simp; omega, ?_⟩
  have hs : rowD ⟨r.ls.take a ++ [1 + l] ++ r.ls.drop (a + 1), r.ps⟩ = .tuple [.tuple ((r.ls.map PyData.int).take a ++ [.int (1 + l)] ++ (r.ls.map PyData.int).drop (a + 1)), .tuple (r.ps.map fun (n : Nat) => PyData.int (n : Int))] := by
    unfold rowD intsT natsT
    simp only [List.map_append, List.map_take, List.map_drop, List.map_cons, List.map_nil]
  have hln : (r.ls.take a ++ [1 + l] ++ r.ls.drop (a + 1)).length = r.ls.length := by
    simp only [List.length_append, List.length_take, List.length_drop, List.length_cons, List.length_nil]; omega
  have hf := hZ ⟨r.ls.take a ++ [1 + l] ++ r.ls.drop (a + 1), r.ps⟩ tp2 ⟨by simp only [hln]; omega, fun x hx => ?_, fun x hx => ?_, R.p0, R.p1, fun p hp => by rw [hln]; exact R.inn p hp, R.up⟩ rfl T2
  · rw [hs] at hf
    exact hf
  · simp only [List.mem_append, List.mem_singleton] at hx
    rcases hx with (hx | hx) | hx
    · exact R.lo x (List.mem_of_mem_take hx)
    · omega
    · exact R.lo x (List.mem_of_mem_drop hx)
  · simp only [List.mem_append, List.mem_singleton] at hx
    rcases hx with (hx | hx) | hx
    · exact R.hi x (List.mem_of_mem_take hx)
    · omega
    · exact R.hi x (List.mem_of_mem_drop hx)
theorem nf_same {r1 r2 : Row} (G1 : Good r1) (G2 : Good r2) (e : St.nf r1 = St.nf r2) (hm : r1.ps.length = r2.ps.length) {s : Sch} (up : s.Pairwise (fun x y => x.1 ≤ y.1)) (cl : ∀ x ∈ s, x.2 < r1.ps.length) : answers r1 s = answers r2 s := by
  rw [← red_answers G1 (keeps_cnt r1) up cl, ← red_answers G2 (keeps_cnt r2) up fun x hx => by have := cl x hx; omega]
  show answers (St.nf r1) s = answers (St.nf r2) s
  rw [e]
theorem law_law_k05 (ns : List Int) (hns : ns.length ≤ 63) : d_law_k05 lawEnds (startL 9 ns) := by
  unfold d_law_k05
  refine dSeq_by (fun _ => True) (fun W hW => ?_) fun ρ _ => rfl
  walk_at "d"
  refine ⟨by decide, by decide, ?_⟩
  refine loopD_inv (fun k ρ => ∃ (tp : PyData) (o2 o3 o4 o5 o6 o7 o8 : Option Sl), TapeOk tp ∧ ρ = [none, some (.ow tp), o2, o3, o4, o5, o6, o7, o8]) ⟨_, none, none, none, none, none, none, none, ⟨ns, 0, 0, rfl, by decide, by decide, hns⟩, rfl⟩ (fun k x ρ V hx I hV => ?_) fun ρ I => hW _ trivial
  obtain ⟨tp, o2, o3, o4, o5, o6, o7, o8, T, rfl⟩ := I
  obtain ⟨hk, rfl⟩ := rngD_at hx
  rw [dgName]
  refine dSeq_by (fun ρ => ∃ (tp : PyData) (r : Row), TapeOk tp ∧ RowIn 8 9 5 r ∧ ρ = [none, some (.ow tp), some (.fz (.int (k : Int))), some (.fz (rowD r)), o4, o5, o6, o7, o8]) (fun W hW => ?_) fun ρ e => ?_
  · walk_at "d"
    refine ⟨rfl, tp, 8, 9, 5, rfl, T, by decide, by decide, by decide, by decide, by decide, by decide, fun r tp2 R T2 => ?_⟩
    walk_at "d"
    exact hW _ ⟨tp2, r, T2, R, rfl⟩
  clear T
  obtain ⟨tp, r, T, R, rfl⟩ := e
  refine dSeq_by (fun ρ => ∃ (tp : PyData) (r2 : Row), TapeOk tp ∧ RowIn 8 9 5 r2 ∧ r2.ps.length = r.ps.length ∧ ρ = [none, some (.ow tp), some (.fz (.int (k : Int))), some (.fz (rowD r)), some (.fz (rowD r2)), o5, o6, o7, o8]) (fun W hW => ?_) fun ρ e => ?_
  · walk_at "d"
    refine ⟨rfl, tp, r, rfl, T, R, fun r2 tp2 R2 h2 T2 => ?_⟩
    walk_at "d"
    exact hW _ ⟨tp2, r2, T2, R2, h2, rfl⟩
  clear T
  obtain ⟨tp, r2, T, R2, hm, rfl⟩ := e
  have hps : r.ps ≠ [] := R.p0
  have hpl : r.ps.length ≤ 5 := by have := R.p1; omega
  have hll : r.ls.length ≤ 8 := by have := R.ls; omega
  have hll2 : r2.ls.length ≤ 8 := by have := R2.ls; omega
  have F : Fine r := R.fine (by decide) (by decide)
  have F2 : Fine r2 := R2.fine (by decide) (by decide)
  have G := F.good
  have G2 := F2.good
  refine dSeq_by (fun ρ => ρ = [none, some (.ow tp), some (.fz (.int (k : Int))), some (.fz (rowD r)), some (.fz (rowD r2)), some (.fz (.bool (decide ((St.nf r).ls = (St.nf r2).ls ∧ (St.nf r).ps = (St.nf r2).ps)))), o6, o7, o8]) (fun W hW => ?_) fun ρ ee => ?_
  · walk_at "d"
    refine ⟨rfl, r, rfl, F, ?_⟩
    walk_at "d"
    refine ⟨rfl, r, cnt r, rfl, F, ?_⟩
    walk_at "d"
    refine ⟨rfl, r2, rfl, F2, ?_⟩
    walk_at "d"
    refine ⟨rfl, r2, cnt r2, rfl, F2, ?_⟩
    walk_at "d"
    refine oEq_nob (n := 2) (by decide) (nob_row 0 _) (nob_row 0 _) (row_inj _ _) ?_
    walk_at "d"
    exact hW _ rfl
  subst ee
  by_cases he : St.nf r = St.nf r2
  · rw [decide_eq_true (row_ext.mp he)]
    refine dSeq_by (fun ρ => ρ = [none, some (.ow tp), some (.fz (.int (k : Int))), some (.fz (rowD r)), some (.fz (rowD r2)), some (.fz (.bool true)), some (.fz .none), o7, o8]) (fun W hW => ?_) fun ρ ee => ?_
    · walk_at "d"
      refine ⟨rfl, r, r2, rfl, F, F2, hm.symm, fun _ => ?_, fun z => absurd he z⟩
      walk_at "d"
      exact hW _ rfl
    subst ee
    refine dSeq_by (fun ρ => ρ = [none, some (.ow tp), some (.fz (.int (k : Int))), some (.fz (rowD r)), some (.fz (rowD r2)), some (.fz (.bool true)), some (.fz .none), o7, o8]) (fun W hW => ?_) fun ρ ee => ?_
    · rw [dIfS]
      walk_at "e"
      refine ⟨rfl, r, r2, rfl, F, F2, ?_⟩
      rw [decide_eq_true (row_ext.mp he)]
      walk_at "e"
      refine ⟨rfl, _, rfl, trivial, ?_⟩
      walk_at "d"
      exact hW _ rfl
    subst ee
    rw [dIfS]
    walk_at "e"
    rw [dFor]
    walk_at "e"
    refine ⟨by decide, by decide, ?_⟩
    refine loopD_inv (fun j ρ => ∃ (tp : PyData) (o7 o8 : Option Sl), TapeOk tp ∧ ρ = [none, some (.ow tp), some (.fz (.int (k : Int))), some (.fz (rowD r)), some (.fz (rowD r2)), some (.fz (.bool true)), some (.fz .none), o7, o8])
      ⟨tp, o7, o8, T, rfl⟩ (fun j x ρ V2 hx I hV2 => ?_) fun ρ I => ?_
    rotate_left
    · obtain ⟨tp, o7, o8, T, rfl⟩ := I
      exact hV _ ⟨tp, _, _, _, _, _, _, _, T, rfl⟩
    clear T
    obtain ⟨tp, o7, o8, T, rfl⟩ := I
    obtain ⟨hj, rfl⟩ := rngD_at hx
    rw [dgName]
    refine dSeq_by (fun ρ => ∃ (tp : PyData) (s : Sch), TapeOk tp ∧ SchIn 30 r s ∧ ρ = [none, some (.ow tp), some (.fz (.int (k : Int))), some (.fz (rowD r)), some (.fz (rowD r2)), some (.fz (.bool true)), some (.fz .none), some (.fz (.int (0 + (j : Int)))), some (.fz (schD s))]) (fun W hW => ?_) fun ρ ee => ?_
    · rw [dAsg]
      walk_at "e"
      refine ⟨rfl, tp, r, 30, rfl, T, hps, by omega, by omega, R.lo, by decide, by decide, fun s tp1 S T1 => ?_⟩
      refine ⟨_, rfl, ?_⟩
      exact hW _ ⟨tp1, s, T1, S, by rw [Int.zero_add]; rfl⟩
    clear T
    obtain ⟨tp, s, T, S, rfl⟩ := ee
    have hsl := S.few
    rw [dIfS]
    walk_at "e"
    refine ⟨rfl, r, s, rfl, ⟨by omega, G.inn, by omega, S.cl⟩, hll, ?_⟩
    walk_at "e"
    refine ⟨rfl, r2, s, rfl, ⟨by omega, G2.inn, by omega, fun x hx => by have := S.cl x hx; omega⟩, hll2, ?_⟩
    rw [nf_same G G2 he hm.symm S.up S.cl]
    walk_at "e"
    refine oNe_same (n := 1) (by decide) (nob_ints 0 _).flat ?_
    walk_at "d"
    exact hV2 _ ⟨tp, _, _, T, rfl⟩
  · rw [decide_eq_false (fun z => he (row_ext.mpr z))]
    refine dSeq_by (fun ρ => ∃ s, SepOk r r2 s ∧ ρ = [none, some (.ow tp), some (.fz (.int (k : Int))), some (.fz (rowD r)), some (.fz (rowD r2)), some (.fz (.bool false)), some (.fz (schD s)), o7, o8]) (fun W hW => ?_) fun ρ ee => ?_
    · walk_at "d"
      refine ⟨rfl, r, r2, rfl, F, F2, hm.symm, fun z => absurd z he, fun _ s S => ?_⟩
      walk_at "d"
      exact hW _ ⟨s, S, rfl⟩
    obtain ⟨s, S, rfl⟩ := ee
    have hsl := S.len
    have hcl : ∀ x ∈ s, x.2 < r.ps.length := fun x hx => (S.cl x hx).1
    refine dSeq_by (fun ρ => ρ = [none, some (.ow tp), some (.fz (.int (k : Int))), some (.fz (rowD r)), some (.fz (rowD r2)), some (.fz (.bool false)), some (.fz (schD s)), o7, o8]) (fun W hW => ?_) fun ρ ee => ?_
    · unfold schD at hW ⊢
      rw [dIfS]
      walk_at "e"
      refine ⟨rfl, r, r2, rfl, F, F2, ?_⟩
      rw [decide_eq_false (fun z => he (row_ext.mpr z))]
      walk_at "e"
      refine ⟨rfl, _, rfl, trivial, ?_⟩
      walk_at "d"
      exact hW _ rfl
    subst ee
    have hhi : ∀ x ∈ s, x.1 ≤ 1000000000 := fun x hx => by
      have h1 := S.hi 8 (by decide) (fun l hl => by have := R.hi l hl; omega) x hx
      have : (8 : Int) * r.ls.length ≤ 8 * 8 := by omega
      omega
    unfold schD
    rw [dIfS]
    walk_at "e"
    rw [dIfS]
    walk_at "e"
    refine ⟨rfl, r, s, 40, rfl, by omega, by omega, fun x hx => ⟨hcl x hx, (S.cl x hx).2, hhi x hx⟩, S.up, ?_⟩
    walk_at "e"
    refine ⟨rfl, r, s, rfl, ⟨by omega, G.inn, by omega, hcl⟩, hll, ?_⟩
    walk_at "e"
    refine ⟨rfl, r2, s, rfl, ⟨by omega, G2.inn, by omega, fun x hx => by have := hcl x hx; omega⟩, hll2, ?_⟩
    walk_at "e"
    refine oEq_nob (n := 1) (by decide) (nob_ints 0 _) (nob_ints 0 _) ints_inj ?_
    rw [decide_eq_false S.ne]
    walk_at "d"
    exact hV _ ⟨tp, _, _, _, _, _, _, _, T, rfl⟩
end St
namespace St
open PySem L2 Dl
def topS (i : Nat) : Stmt := PySem.Challenge.pw_staletiers_k05_whole_equal_or_separated.main.body.getD i (.Pass ⟨0, 0, 0, 0⟩)
abbrev s_draw : Stmt := topS 10
theorem sc_draw : FnScope ["tape", "many", "prime", "cell", "found"] ["tape", "many"] (defScope s_draw) := ⟨rfl, rfl, rfl, by decide +kernel, rfl, by decide +kernel, by decide +kernel⟩
abbrev s_row : Stmt := topS 14
theorem sc_row : FnScope ["tape", "caches", "longest", "clients", "wide", "lifetimes", "positions", "k"] ["tape", "caches", "longest", "clients"] (defScope s_row) := ⟨rfl, rfl, rfl, by decide +kernel, rfl, by decide +kernel, by decide +kernel⟩
abbrev s_variant : Stmt := topS 22
theorem sc_variant : FnScope ["tape", "row", "lifetimes", "positions", "way", "other", "at", "shorter", "longer", "moved", "position"] ["tape", "row"] (defScope s_variant) := ⟨rfl, rfl, rfl, by decide +kernel, rfl, by decide +kernel, by decide +kernel⟩
abbrev s_reduced : Stmt := topS 20
theorem sc_reduced : FnScope ["row", "kept", "moved", "position", "index"] ["row", "kept"] (defScope s_reduced) := ⟨rfl, rfl, rfl, by decide +kernel, rfl, by decide +kernel, by decide +kernel⟩
abbrev s_lcounting : Stmt := topS 19
theorem sc_lcounting : FnScope ["row", "lifetimes", "positions", "found", "distances", "index"] ["row"] (defScope s_lcounting) := ⟨rfl, rfl, rfl, by decide +kernel, rfl, by decide +kernel, by decide +kernel⟩
abbrev s_counting : Stmt := topS 1
theorem sc_counting : FnScope ["row", "lifetimes", "positions", "found", "distance", "index"] ["row"] (defScope s_counting) := ⟨rfl, rfl, rfl, by decide +kernel, rfl, by decide +kernel, by decide +kernel⟩
abbrev s_normal_form : Stmt := topS 2
theorem sc_normal_form : FnScope ["row", "lifetimes", "positions", "kept", "index", "position"] ["row"] (defScope s_normal_form) := ⟨rfl, rfl, rfl, by decide +kernel, rfl, by decide +kernel, by decide +kernel⟩
abbrev s_equal : Stmt := topS 7
theorem sc_equal : FnScope ["one", "other"] ["one", "other"] (defScope s_equal) := ⟨rfl, rfl, rfl, by decide +kernel, rfl, by decide +kernel, by decide +kernel⟩
abbrev s_items : Stmt := topS 6
theorem sc_items : FnScope ["row", "lifetimes", "positions", "found", "index", "client"] ["row"] (defScope s_items) := ⟨rfl, rfl, rfl, by decide +kernel, rfl, by decide +kernel, by decide +kernel⟩
abbrev s_last_moments : Stmt := topS 4
theorem sc_last_moments : FnScope ["lifetimes", "positions", "low", "found", "time", "index", "nearest", "client", "position"] ["lifetimes", "positions", "low"] (defScope s_last_moments) := ⟨rfl, rfl, rfl, by decide +kernel, rfl, by decide +kernel, by decide +kernel⟩
abbrev s_separating : Stmt := topS 8
theorem sc_separating : FnScope ["one", "other", "first", "second", "place", "common", "client", "lifetimes", "positions", "low", "found", "time", "wait", "at", "item", "mate", "word", "number"] ["one", "other"] (defScope s_separating) := ⟨rfl, rfl, rfl, by decide +kernel, rfl, by decide +kernel, by decide +kernel⟩
abbrev s_like : Stmt := topS 13
theorem sc_like : FnScope ["one", "two", "k"] ["one", "two"] (defScope s_like) := ⟨rfl, rfl, rfl, by decide +kernel, rfl, by decide +kernel, by decide +kernel⟩
abbrev s_near_schedule : Stmt := topS 15
theorem sc_near_schedule : FnScope ["tape", "row", "reads", "found", "time", "k", "steps", "lifetime"] ["tape", "row", "reads"] (defScope s_near_schedule) := ⟨rfl, rfl, rfl, by decide +kernel, rfl, by decide +kernel, by decide +kernel⟩
abbrev s_ask : Stmt := topS 16
theorem sc_ask : FnScope ["row", "held", "time", "index", "told"] ["row", "held", "time", "index"] (defScope s_ask) := ⟨rfl, rfl, rfl, by decide +kernel, rfl, by decide +kernel, by decide +kernel⟩
abbrev s_walk : Stmt := topS 17
theorem sc_walk : FnScope ["row", "schedule", "held", "found", "time", "client"] ["row", "schedule"] (defScope s_walk) := ⟨rfl, rfl, rfl, by decide +kernel, rfl, by decide +kernel, by decide +kernel⟩
abbrev s_lanswers : Stmt := topS 18
theorem sc_lanswers : FnScope ["row", "schedule", "told"] ["row", "schedule"] (defScope s_lanswers) := ⟨rfl, rfl, rfl, by decide +kernel, rfl, by decide +kernel, by decide +kernel⟩
abbrev s_whole : Stmt := topS 11
theorem sc_whole : FnScope ["item"] ["item"] (defScope s_whole) := ⟨rfl, rfl, rfl, by decide +kernel, rfl, by decide +kernel, by decide +kernel⟩
abbrev s_within : Stmt := topS 12
theorem sc_within : FnScope ["item", "low", "high"] ["item", "low", "high"] (defScope s_within) := ⟨rfl, rfl, rfl, by decide +kernel, rfl, by decide +kernel, by decide +kernel⟩
abbrev s_is_schedule : Stmt := topS 21
theorem sc_is_schedule : FnScope ["row", "item", "most", "my_read", "one", "two"] ["row", "item", "most"] (defScope s_is_schedule) := ⟨rfl, rfl, rfl, by decide +kernel, rfl, by decide +kernel, by decide +kernel⟩
abbrev s_law : Stmt := topS 23
theorem sc_law : FnScope ["script", "tape", "turn", "one", "other", "alike", "told", "ask", "schedule"] ["script"] (defScope s_law) := ⟨rfl, rfl, rfl, by decide +kernel, rfl, by decide +kernel, by decide +kernel⟩
section
variable {P : Program} {w : World} {K : PySem.W.Frag} {mg : Str → Option Value} {base : Heap}
theorem ok_draw {f : Addr} {fd : FuncData} (F : Fun K "_law_draw" "_law_draw" s_draw f fd) (m_len : mg "len" = none) : FnOk P w K mg base CX0 1 f fd ["tape", "many"] (spD ct_draw) :=
  okD F sc_draw rfl (fun cdv A outer s H E hr => (pss_cons (ps_set (i := 2) sc_draw.nd rfl (by first | exact .inl rfl | exact .inr rfl) pe_int)
  (pss_cons (ps_if (pt_cmpR op_lt (pe_ix ix_seq (pv 0) pe_int (fun _ _ => rfl)) (pv 1) (nomark _)) (pss_cons (ps_set (i := 3) sc_draw.nd rfl (by first | exact .inl rfl | exact .inr rfl) pe_int)
  (pss_cons (ps_if (pt_cmpR op_gt (pe_callB call_lenU (by rfl) m_len (by decide +kernel) (pa_cons (pe_ix ix_seq (pv 0) pe_int (fun _ _ => rfl)) pa_nil)) pe_int (nomark _)) (pss_one (ps_set (i := 3) sc_draw.nd rfl (by first | exact .inl rfl | exact .inr rfl) (pe_ix ix_seq (pe_ix ix_seq (pv 0) pe_int (fun _ _ => rfl)) (pe_op op_mod (pe_ix ix_seq (pv 0) pe_int (fun _ _ => rfl)) (pe_callB call_lenU (by rfl) m_len (by decide +kernel) (pa_cons (pe_ix ix_seq (pv 0) pe_int (fun _ _ => rfl)) pa_nil))) (fun _ _ => rfl)))) pss_nil)
  (pss_cons (ps_if (PW.pt (pw_or (pt_cmpR op_ge (pe_ix ix_seq (pv 0) pe_int (fun _ _ => rfl)) (pe_callB call_lenU (by rfl) m_len (by decide +kernel) (pa_cons (pe_ix ix_seq (pv 0) pe_int (fun _ _ => rfl)) pa_nil)) (nomark _)) (pw_or1 (pt_cmpR op_lt (pv 3) (pe_op op_pow pe_int pe_int) (nomark _))))) (pss_cons (ps_set (i := 3) sc_draw.nd rfl (by first | exact .inl rfl | exact .inr rfl) (pe_op op_mod (pe_op op_addU (pv 3) (pe_op op_mulU pe_int (pe_ix ix_seq (pv 0) pe_int (fun _ _ => rfl)))) (pv 2)))
  (pss_cons (ps_set (i := 3) sc_draw.nd rfl (by first | exact .inl rfl | exact .inr rfl) (pe_op op_mod (pe_op op_addU (pe_op op_addU (pe_op op_mulU (pv 3) (pv 3)) (pe_op op_mulU pe_int (pv 3))) pe_int) (pv 2)))
  (pss_one (ps_set (i := 3) sc_draw.nd rfl (by first | exact .inl rfl | exact .inr rfl) (pe_op op_mod (pe_op op_addU (pe_op op_mulU (pv 3) (pv 3)) pe_int) (pv 2)))))) pss_nil)
  (pss_cons (ps_asg (pe_op op_addU (pe_ix ix_seq (pv 0) pe_int (fun _ _ => rfl)) pe_int) (pg_sub (pv 0) pe_int set_list))
  (pss_one (ps_asg (pv 3) (pg_sub (pv 0) pe_int set_list))))))) pss_nil)
  (pss_cons (ps_set (i := 4) sc_draw.nd rfl (by first | exact .inl rfl | exact .inr rfl) (pe_op op_mod (pe_ix ix_seq (pv 0) pe_int (fun _ _ => rfl)) (pv 1)))
  (pss_cons (ps_asg (pe_op op_fdivU (pe_ix ix_seq (pv 0) pe_int (fun _ _ => rfl)) (pv 1)) (pg_sub (pv 0) pe_int set_list))
  (pss_one (ps_ret (pv 4)))))))) (sim_draw (K := K)) law_draw
theorem ok_row {f : Addr} {fd : FuncData} (F : Fun K "_law_row" "_law_row" s_row f fd) {f_draw : Addr} {fd_draw : FuncData} (F_draw : Fun K "_law_draw" "_law_draw" s_draw f_draw fd_draw) (g_draw : mg "_law_draw" = some (.ref f_draw)) (b_draw : Binds K fd_draw ["tape", "many"] []) (G_draw : FnOk P w K mg base CX0 1 f_draw fd_draw ["tape", "many"] (spD ct_draw)) (m_tuple : mg "tuple" = none) (m_range : mg "range" = none) (m_min : mg "min" = none) (m_len : mg "len" = none) (m_sorted : mg "sorted" = none) : FnOk P w K mg base CX0 2 f fd ["tape", "caches", "longest", "clients"] (spD ct_row) :=
  okD F sc_row rfl (fun cdv A outer s H E hr => (pss_cons (ps_set (i := 4) sc_row.nd rfl (by first | exact .inl rfl | exact .inr rfl) (pe_ix ix_seq (pe_lst (pa_cons pe_int (pa_cons pe_int (pa_cons (pv 2) pa_nil)))) (pe_call G_draw (hr.mono (by decide)) (by rfl) g_draw F_draw.kp b_draw .nil pass0 (pa_cons (pv 0) (pa_cons pe_int pa_nil))) (fun _ _ => rfl)))
  (pss_cons (ps_set (i := 5) sc_row.nd rfl (by first | exact .inl rfl | exact .inr rfl) (pe_callTy call_tupOf (by rfl) m_tuple (by decide +kernel) (pa_cons (pe_lc (own := [("k", 7)]) (g := (gName 7)) rfl sc_row.nd (pi_range1 (by rfl) m_range (pa_cons (pe_call G_draw (hr.mono (by decide)) (by rfl) g_draw F_draw.kp b_draw .nil pass0 (pa_cons (pv 0) (pa_cons (pe_op op_addU (pv 1) pe_int) pa_nil))) pa_nil)) (blkOk_by (N := ["tape", "caches", "longest", "clients", "wide", "lifetimes", "positions", "k"]) (sc := defScope s_row) (by decide +kernel)) (fun _ _ _ _ _ => (pg_name (i := 7) sc_row.nd rfl (by first | exact .inl rfl | exact .inr rfl))) (fun _ _ _ _ _ => pts_nil) (fun _ _ _ _ _ => (pe_op op_addU pe_int (pe_call G_draw (hr.mono (by decide)) (by rfl) g_draw F_draw.kp b_draw .nil pass0 (pa_cons (pv 0) (pa_cons (pe_callB (call_min2 rfl) (by rfl) m_min (by decide +kernel) (pa_cons (pv 4) (pa_cons (pv 2) pa_nil))) pa_nil)))))) pa_nil)))
  (pss_cons (ps_set (i := 6) sc_row.nd rfl (by first | exact .inl rfl | exact .inr rfl) (pe_lst pa_nil))
  (pss_cons (ps_for PassesOwn.never rfl (pi_range1 (by rfl) m_range (pa_cons (pe_op op_addU pe_int (pe_call G_draw (hr.mono (by decide)) (by rfl) g_draw F_draw.kp b_draw .nil pass0 (pa_cons (pv 0) (pa_cons (pv 3) pa_nil)))) pa_nil)) (pg_name (i := 7) sc_row.nd rfl (by first | exact .inl rfl | exact .inr rfl)) (pss_one (ps_expr (pe_bm PySem.F.plainAttrs_list PySem.F.slot_list_append PySem.F.type_list_append mt_append (pv 6) (pa_cons (pe_ix ix_seq (pe_lst (pa_cons pe_int (pa_cons (pe_call G_draw (hr.mono (by decide)) (by rfl) g_draw F_draw.kp b_draw .nil pass0 (pa_cons (pv 0) (pa_cons (pe_op op_addU (pe_callB call_lenU (by rfl) m_len (by decide +kernel) (pa_cons (pv 5) pa_nil)) pe_int) pa_nil))) pa_nil))) (pe_callB (call_min2 rfl) (by rfl) m_min (by decide +kernel) (pa_cons pe_int (pa_cons (pe_call G_draw (hr.mono (by decide)) (by rfl) g_draw F_draw.kp b_draw .nil pass0 (pa_cons (pv 0) (pa_cons pe_int pa_nil))) pa_nil))) (fun _ _ => rfl)) pa_nil)))))
  (pss_one (ps_ret (pe_tup (pa_cons (pv 5) (pa_cons (pe_callTy call_tupOf (by rfl) m_tuple (by decide +kernel) (pa_cons (pe_callB cr_sortedI (by rfl) m_sorted (by decide +kernel) (pa_cons (pv 6) pa_nil)) pa_nil)) pa_nil)))))))))) (sim_row (K := K)) law_row
theorem ok_variant {f : Addr} {fd : FuncData} (F : Fun K "_law_variant" "_law_variant" s_variant f fd) {f_draw : Addr} {fd_draw : FuncData} (F_draw : Fun K "_law_draw" "_law_draw" s_draw f_draw fd_draw) (g_draw : mg "_law_draw" = some (.ref f_draw)) (b_draw : Binds K fd_draw ["tape", "many"] []) (G_draw : FnOk P w K mg base CX0 1 f_draw fd_draw ["tape", "many"] (spD ct_draw)) {f_row : Addr} {fd_row : FuncData} (F_row : Fun K "_law_row" "_law_row" s_row f_row fd_row) (g_row : mg "_law_row" = some (.ref f_row)) (b_row : Binds K fd_row ["tape", "caches", "longest", "clients"] []) (G_row : FnOk P w K mg base CX0 2 f_row fd_row ["tape", "caches", "longest", "clients"] (spD ct_row)) (m_tuple : mg "tuple" = none) (m_sorted : mg "sorted" = none) (m_len : mg "len" = none) (m_int : mg "int" = none) : FnOk P w K mg base CX0 3 f fd ["tape", "row"] (spD ct_variant) :=
  okD F sc_variant rfl (fun cdv A outer s H E hr => (pss_cons (ps_asg (pv 1) (pg_tupK (n := 2) rfl (pgs_cons (pg_name (i := 2) sc_variant.nd rfl (by first | exact .inl rfl | exact .inr rfl)) (pgs_cons (pg_name (i := 3) sc_variant.nd rfl (by first | exact .inl rfl | exact .inr rfl)) pgs_nil))))
  (pss_cons (ps_set (i := 4) sc_variant.nd rfl (by first | exact .inl rfl | exact .inr rfl) (pe_call G_draw (hr.mono (by decide)) (by rfl) g_draw F_draw.kp b_draw .nil pass0 (pa_cons (pv 0) (pa_cons pe_int pa_nil))))
  (pss_cons (ps_if (PW.pt (pw_or (pt_cmpR (op_eqD hr.units) (pv 2) (pe_tup pa_nil) (nomark _)) (pw_or1 (pt_cmpR (op_eqD hr.units) (pv 4) pe_int (nomark _))))) (pss_cons (ps_set (i := 5) sc_variant.nd rfl (by first | exact .inl rfl | exact .inr rfl) (pe_ix ix_seq (pe_call G_row (hr.mono (by decide)) (by rfl) g_row F_row.kp b_row .nil pass0 (pa_cons (pv 0) (pa_cons pe_int (pa_cons pe_int (pa_cons pe_int pa_nil))))) pe_int (fun _ _ => rfl)))
  (pss_one (ps_ret (pe_tup (pa_cons (pv 5) (pa_cons (pe_callTy call_tupOf (by rfl) m_tuple (by decide +kernel) (pa_cons (pe_callB cr_sortedI (by rfl) m_sorted (by decide +kernel) (pa_cons (pe_lc (own := [("position", 10)]) (g := (gName 10)) rfl sc_variant.nd (pi_seq (pv 3)) (blkOk_by (N := ["tape", "row", "lifetimes", "positions", "way", "other", "at", "shorter", "longer", "moved", "position"]) (sc := defScope s_variant) (by decide +kernel)) (fun _ _ _ _ _ => (pg_name (i := 10) sc_variant.nd rfl (by first | exact .inl rfl | exact .inr rfl))) (fun _ _ _ _ _ => pts_nil) (fun _ _ _ _ _ => (pe_call G_draw (hr.mono (by decide)) (by rfl) g_draw F_draw.kp b_draw .nil pass0 (pa_cons (pv 0) (pa_cons (pe_op op_addU (pe_callB call_lenU (by rfl) m_len (by decide +kernel) (pa_cons (pv 5) pa_nil)) pe_int) pa_nil))))) pa_nil)) pa_nil)) pa_nil)))))) pss_nil)
  (pss_cons (ps_set (i := 6) sc_variant.nd rfl (by first | exact .inl rfl | exact .inr rfl) (pe_call G_draw (hr.mono (by decide)) (by rfl) g_draw F_draw.kp b_draw .nil pass0 (pa_cons (pv 0) (pa_cons (pe_callB call_lenU (by rfl) m_len (by decide +kernel) (pa_cons (pv 2) pa_nil)) pa_nil))))
  (pss_cons (ps_if (pt_cmpR (op_eqD hr.units) (pv 4) pe_int (nomark _)) (pss_cons (ps_set (i := 7) sc_variant.nd rfl (by first | exact .inl rfl | exact .inr rfl) (pe_op op_addU (pe_slice sl_U (pv 2) po_none (po_some (pv 6))) (pe_slice sl_U (pv 2) (po_some (pe_op op_addU (pv 6) pe_int)) po_none)))
  (pss_one (ps_ret (pe_tup (pa_cons (pv 7) (pa_cons (pe_callTy call_tupOf (by rfl) m_tuple (by decide +kernel) (pa_cons (pe_lc (own := [("position", 10)]) (g := (gName 10)) rfl sc_variant.nd (pi_seq (pv 3)) (blkOk_by (N := ["tape", "row", "lifetimes", "positions", "way", "other", "at", "shorter", "longer", "moved", "position"]) (sc := defScope s_variant) (by decide +kernel)) (fun _ _ _ _ _ => (pg_name (i := 10) sc_variant.nd rfl (by first | exact .inl rfl | exact .inr rfl))) (fun _ _ _ _ _ => pts_nil) (fun _ _ _ _ _ => (pe_op op_sub (pv 10) (pe_callTy call_int1 (by rfl) m_int (by decide +kernel) (pa_cons (pe_cmpR op_gt (pv 10) (pv 6) (nomark _)) pa_nil))))) pa_nil)) pa_nil)))))) pss_nil)
  (pss_cons (ps_if (PW.pt (pw_and (pt_cmpR (op_eqD hr.units) (pv 4) pe_int (nomark _)) (pw_and1 (pt_cmpR op_lt (pe_callB call_lenU (by rfl) m_len (by decide +kernel) (pa_cons (pv 2) pa_nil)) pe_int (nomark _))))) (pss_cons (ps_set (i := 8) sc_variant.nd rfl (by first | exact .inl rfl | exact .inr rfl) (pe_op op_addU (pe_op op_addU (pe_slice sl_U (pv 2) po_none (po_some (pv 6))) (pe_tup (pa_cons (pe_op op_addU pe_int (pe_call G_draw (hr.mono (by decide)) (by rfl) g_draw F_draw.kp b_draw .nil pass0 (pa_cons (pv 0) (pa_cons pe_int pa_nil)))) pa_nil))) (pe_slice sl_U (pv 2) (po_some (pv 6)) po_none)))
  (pss_one (ps_ret (pe_tup (pa_cons (pv 8) (pa_cons (pe_callTy call_tupOf (by rfl) m_tuple (by decide +kernel) (pa_cons (pe_lc (own := [("position", 10)]) (g := (gName 10)) rfl sc_variant.nd (pi_seq (pv 3)) (blkOk_by (N := ["tape", "row", "lifetimes", "positions", "way", "other", "at", "shorter", "longer", "moved", "position"]) (sc := defScope s_variant) (by decide +kernel)) (fun _ _ _ _ _ => (pg_name (i := 10) sc_variant.nd rfl (by first | exact .inl rfl | exact .inr rfl))) (fun _ _ _ _ _ => pts_nil) (fun _ _ _ _ _ => (pe_op op_addU (pv 10) (pe_callTy call_int1 (by rfl) m_int (by decide +kernel) (pa_cons (pe_cmpR op_gt (pv 10) (pv 6) (nomark _)) pa_nil))))) pa_nil)) pa_nil)))))) pss_nil)
  (pss_cons (ps_if (pt_cmpR (op_eqD hr.units) (pv 4) pe_int (nomark _)) (pss_cons (ps_setLc (i := 9) (own := [("position", 10)]) (g := (gName 10)) rfl sc_variant.nd rfl rfl (sw_true rfl rfl rfl (by decide +kernel)) (pi_seq (pv 3)) (blkOk_by (N := ["tape", "row", "lifetimes", "positions", "way", "other", "at", "shorter", "longer", "moved", "position"]) (sc := defScope s_variant) (by decide +kernel)) (fun _ _ _ _ _ => (pg_name (i := 10) sc_variant.nd rfl (by first | exact .inl rfl | exact .inr rfl))) (fun _ _ _ _ _ => pts_nil) (fun _ _ _ _ _ => (pe_ifExp (pt_cmpR op_gt (pe_call G_draw (hr.mono (by decide)) (by rfl) g_draw F_draw.kp b_draw .nil pass0 (pa_cons (pv 0) (pa_cons pe_int pa_nil))) pe_int (nomark _)) (pv 10) (pe_call G_draw (hr.mono (by decide)) (by rfl) g_draw F_draw.kp b_draw .nil pass0 (pa_cons (pv 0) (pa_cons (pe_op op_addU (pe_callB call_lenU (by rfl) m_len (by decide +kernel) (pa_cons (pv 2) pa_nil)) pe_int) pa_nil))))))
  (pss_one (ps_ret (pe_tup (pa_cons (pv 2) (pa_cons (pe_callTy call_tupOf (by rfl) m_tuple (by decide +kernel) (pa_cons (pe_callB cr_sortedI (by rfl) m_sorted (by decide +kernel) (pa_cons (pv 9) pa_nil)) pa_nil)) pa_nil)))))) pss_nil)
  (pss_one (ps_ret (pe_tup (pa_cons (pe_op op_addU (pe_op op_addU (pe_slice sl_U (pv 2) po_none (po_some (pv 6))) (pe_tup (pa_cons (pe_op op_addU pe_int (pe_call G_draw (hr.mono (by decide)) (by rfl) g_draw F_draw.kp b_draw .nil pass0 (pa_cons (pv 0) (pa_cons pe_int pa_nil)))) pa_nil))) (pe_slice sl_U (pv 2) (po_some (pe_op op_addU (pv 6) pe_int)) po_none)) (pa_cons (pv 3) pa_nil))))))))))))) (sim_variant (K := K)) law_variant
theorem ok_reduced {f : Addr} {fd : FuncData} (F : Fun K "_law_reduced" "_law_reduced" s_reduced f fd) (m_len : mg "len" = none) (m_tuple : mg "tuple" = none) : FnOk P w K mg base CX0 1 f fd ["row", "kept"] (spD ct_reduced) :=
  okD F sc_reduced rfl (fun cdv A outer s H E hr => (pss_cons (ps_setLc (i := 2) (own := [("position", 3)]) (g := (gName 3)) rfl sc_reduced.nd rfl rfl (sw_true rfl rfl rfl (by decide +kernel)) (pi_seq (pe_ix ix_seq (pv 0) pe_int (fun _ _ => rfl))) (blkOk_by (N := ["row", "kept", "moved", "position", "index"]) (sc := defScope s_reduced) (by decide +kernel)) (fun _ _ _ _ _ => (pg_name (i := 3) sc_reduced.nd rfl (by first | exact .inl rfl | exact .inr rfl))) (fun _ _ _ _ _ => pts_nil) (fun _ _ _ _ _ => (pe_callB call_lenU (by rfl) m_len (by decide +kernel) (pa_cons (pe_lc (own := [("index", 4)]) (g := (gName 4)) rfl sc_reduced.nd (pi_seq (pv 1)) (blk_in (N := ["row", "kept", "moved", "position", "index"]) (S := defScope s_reduced) rfl (by decide +kernel)) (fun _ _ _ _ _ => (pg_name (i := 4) sc_reduced.nd rfl (by first | exact .inl rfl | exact .inr rfl))) (fun _ _ _ _ _ => (pts_one (pt_cmpR op_lt (pv 4) (pv 3) (nomark _)))) (fun _ _ _ _ _ => (pv 4))) pa_nil))))
  (pss_one (ps_ret (pe_tup (pa_cons (pe_callTy call_tupOf (by rfl) m_tuple (by decide +kernel) (pa_cons (pe_lc (own := [("index", 4)]) (g := (gName 4)) rfl sc_reduced.nd (pi_seq (pv 1)) (blkOk_by (N := ["row", "kept", "moved", "position", "index"]) (sc := defScope s_reduced) (by decide +kernel)) (fun _ _ _ _ _ => (pg_name (i := 4) sc_reduced.nd rfl (by first | exact .inl rfl | exact .inr rfl))) (fun _ _ _ _ _ => pts_nil) (fun _ _ _ _ _ => (pe_ix ix_seq (pe_ix ix_seq (pv 0) pe_int (fun _ _ => rfl)) (pv 4) (fun _ _ => rfl)))) pa_nil)) (pa_cons (pe_callTy call_tupOf (by rfl) m_tuple (by decide +kernel) (pa_cons (pv 2) pa_nil)) pa_nil))))))) (sim_reduced (K := K)) law_reduced
theorem ok_lcounting {f : Addr} {fd : FuncData} (F : Fun K "_law_counting" "_law_counting" s_lcounting f fd) (m_range : mg "range" = none) (m_len : mg "len" = none) (m_max : mg "max" = none) : FnOk P w K mg base CX0 1 f fd ["row"] (spD ct_lcounting) :=
  okD F sc_lcounting rfl (fun cdv A outer s H E hr => (pss_cons (ps_asg (pv 0) (pg_tupK (n := 2) rfl (pgs_cons (pg_name (i := 1) sc_lcounting.nd rfl (by first | exact .inl rfl | exact .inr rfl)) (pgs_cons (pg_name (i := 2) sc_lcounting.nd rfl (by first | exact .inl rfl | exact .inr rfl)) pgs_nil))))
  (pss_cons (ps_par (i := 3) (j := 4) rfl sc_lcounting.nd rfl rfl (by decide) rfl rfl (pa_cons (pe_lst pa_nil) (pa_cons pe_dnewK pa_nil)) (by rfl))
  (pss_cons (ps_for PassesOwn.never rfl (pi_range1 (by rfl) m_range (pa_cons (pe_callB call_lenU (by rfl) m_len (by decide +kernel) (pa_cons (pv 1) pa_nil)) pa_nil)) (pg_name (i := 5) sc_lcounting.nd rfl (by first | exact .inl rfl | exact .inr rfl)) (pss_cons (ps_if (pt_cmpR op_in_seq (pv 5) (pv 2) (by rfl)) (pss_one (ps_dput (hu1 hr) (pv 4) (pv 5) pe_int rfl)) (pss_one (ps_if (pt_cmpR (op_dinU (hu1 hr)) (pe_op op_sub (pv 5) pe_int) (pv 4) (by rfl)) (pss_one (ps_dput (hu1 hr) (pv 4) (pv 5) (pe_callB (call_max2 rfl) (by rfl) m_max (by decide +kernel) (pa_cons (pe_dget (hu1 hr) (pv 4) (pe_op op_sub (pv 5) pe_int) (fun _ _ => rfl)) (pa_cons (pe_ix ix_seq (pv 1) (pe_op op_sub (pv 5) pe_int) (fun _ _ => rfl)) pa_nil))) rfl)) pss_nil)))
  (pss_one (ps_if (PW.pt (pw_and (pt_cmpR (op_dinU (hu1 hr)) (pv 5) (pv 4) (by rfl)) (pw_and1 (pt_cmpR op_gt (pe_ix ix_seq (pv 1) (pv 5) (fun _ _ => rfl)) (pe_dget (hu1 hr) (pv 4) (pv 5) (fun _ _ => rfl)) (nomark _))))) (pss_one (ps_expr (pe_bm PySem.F.plainAttrs_list PySem.F.slot_list_append PySem.F.type_list_append mt_append (pv 3) (pa_cons (pv 5) pa_nil)))) pss_nil))))
  (pss_one (ps_ret (pv 3))))))) (sim_lcounting (K := K)) law_lcounting
theorem ok_counting {f : Addr} {fd : FuncData} (F : Fun K "counting" "counting" s_counting f fd) (m_range : mg "range" = none) (m_len : mg "len" = none) (m_max : mg "max" = none) : FnOk P w K mg base CX0 1 f fd ["row"] (spD ct_counting) :=
  okD F sc_counting rfl (fun cdv A outer s H E hr => (pss_cons (ps_asg (pv 0) (pg_tupK (n := 2) rfl (pgs_cons (pg_name (i := 1) sc_counting.nd rfl (by first | exact .inl rfl | exact .inr rfl)) (pgs_cons (pg_name (i := 2) sc_counting.nd rfl (by first | exact .inl rfl | exact .inr rfl)) pgs_nil))))
  (pss_cons (ps_par (i := 3) (j := 4) rfl sc_counting.nd rfl rfl (by decide) rfl rfl (pa_cons (pe_lst pa_nil) (pa_cons pe_int pa_nil)) (by rfl))
  (pss_cons (ps_for PassesOwn.never rfl (pi_range2 (by rfl) m_range (pa_cons (pe_ix ix_seq (pv 2) pe_int (fun _ _ => rfl)) (pa_cons (pe_callB call_lenU (by rfl) m_len (by decide +kernel) (pa_cons (pv 1) pa_nil)) pa_nil))) (pg_name (i := 5) sc_counting.nd rfl (by first | exact .inl rfl | exact .inr rfl)) (pss_cons (ps_if (pt_cmpR op_in_seq (pv 5) (pv 2) (by rfl)) (pss_one (ps_set (i := 4) sc_counting.nd rfl (by first | exact .inl rfl | exact .inr rfl) pe_int)) pss_nil)
  (pss_cons (ps_if (pt_cmpR op_gt (pe_ix ix_seq (pv 1) (pv 5) (fun _ _ => rfl)) (pv 4) (nomark _)) (pss_one (ps_expr (pe_bm PySem.F.plainAttrs_list PySem.F.slot_list_append PySem.F.type_list_append mt_append (pv 3) (pa_cons (pv 5) pa_nil)))) pss_nil)
  (pss_one (ps_set (i := 4) sc_counting.nd rfl (by first | exact .inl rfl | exact .inr rfl) (pe_callB (call_max2 rfl) (by rfl) m_max (by decide +kernel) (pa_cons (pv 4) (pa_cons (pe_ix ix_seq (pv 1) (pv 5) (fun _ _ => rfl)) pa_nil))))))))
  (pss_one (ps_ret (pv 3))))))) (sim_counting (K := K)) law_counting
theorem ok_normal_form {f : Addr} {fd : FuncData} (F : Fun K "normal_form" "normal_form" s_normal_form f fd) {f_counting : Addr} {fd_counting : FuncData} (F_counting : Fun K "counting" "counting" s_counting f_counting fd_counting) (g_counting : mg "counting" = some (.ref f_counting)) (b_counting : Binds K fd_counting ["row"] []) (G_counting : FnOk P w K mg base CX0 1 f_counting fd_counting ["row"] (spD ct_counting)) (m_tuple : mg "tuple" = none) (m_len : mg "len" = none) : FnOk P w K mg base CX0 2 f fd ["row"] (spD ct_normal_form) :=
  okD F sc_normal_form rfl (fun cdv A outer s H E hr => (pss_cons (ps_asg (pv 0) (pg_tupK (n := 2) rfl (pgs_cons (pg_name (i := 1) sc_normal_form.nd rfl (by first | exact .inl rfl | exact .inr rfl)) (pgs_cons (pg_name (i := 2) sc_normal_form.nd rfl (by first | exact .inl rfl | exact .inr rfl)) pgs_nil))))
  (pss_cons (ps_set (i := 3) sc_normal_form.nd rfl (by first | exact .inl rfl | exact .inr rfl) (pe_call G_counting (hr.mono (by decide)) (by rfl) g_counting F_counting.kp b_counting .nil pass0 (pa_cons (pv 0) pa_nil)))
  (pss_one (ps_ret (pe_tup (pa_cons (pe_callTy call_tupOf (by rfl) m_tuple (by decide +kernel) (pa_cons (pe_lc (own := [("index", 4)]) (g := (gName 4)) rfl sc_normal_form.nd (pi_seq (pv 3)) (blkOk_by (N := ["row", "lifetimes", "positions", "kept", "index", "position"]) (sc := defScope s_normal_form) (by decide +kernel)) (fun _ _ _ _ _ => (pg_name (i := 4) sc_normal_form.nd rfl (by first | exact .inl rfl | exact .inr rfl))) (fun _ _ _ _ _ => pts_nil) (fun _ _ _ _ _ => (pe_ix ix_seq (pv 1) (pv 4) (fun _ _ => rfl)))) pa_nil)) (pa_cons (pe_callTy call_tupOf (by rfl) m_tuple (by decide +kernel) (pa_cons (pe_lc (own := [("position", 5)]) (g := (gName 5)) rfl sc_normal_form.nd (pi_seq (pv 2)) (blkOk_by (N := ["row", "lifetimes", "positions", "kept", "index", "position"]) (sc := defScope s_normal_form) (by decide +kernel)) (fun _ _ _ _ _ => (pg_name (i := 5) sc_normal_form.nd rfl (by first | exact .inl rfl | exact .inr rfl))) (fun _ _ _ _ _ => pts_nil) (fun _ _ _ _ _ => (pe_callB call_lenU (by rfl) m_len (by decide +kernel) (pa_cons (pe_lc (own := [("index", 4)]) (g := (gName 4)) rfl sc_normal_form.nd (pi_seq (pv 3)) (blk_in (N := ["row", "lifetimes", "positions", "kept", "index", "position"]) (S := defScope s_normal_form) rfl (by decide +kernel)) (fun _ _ _ _ _ => (pg_name (i := 4) sc_normal_form.nd rfl (by first | exact .inl rfl | exact .inr rfl))) (fun _ _ _ _ _ => (pts_one (pt_cmpR op_lt (pv 4) (pv 5) (nomark _)))) (fun _ _ _ _ _ => (pv 4))) pa_nil)))) pa_nil)) pa_nil)))))))) (sim_normal_form (K := K)) law_normal_form
theorem ok_equal {f : Addr} {fd : FuncData} (F : Fun K "equal" "equal" s_equal f fd) {f_normal_form : Addr} {fd_normal_form : FuncData} (F_normal_form : Fun K "normal_form" "normal_form" s_normal_form f_normal_form fd_normal_form) (g_normal_form : mg "normal_form" = some (.ref f_normal_form)) (b_normal_form : Binds K fd_normal_form ["row"] []) (G_normal_form : FnOk P w K mg base CX0 2 f_normal_form fd_normal_form ["row"] (spD ct_normal_form)) : FnOk P w K mg base CX0 3 f fd ["one", "other"] (spD ct_equal) :=
  okD F sc_equal rfl (fun cdv A outer s H E hr => (pss_one (ps_ret (pe_cmpR (op_eqD hr.units) (pe_call G_normal_form (hr.mono (by decide)) (by rfl) g_normal_form F_normal_form.kp b_normal_form .nil pass0 (pa_cons (pv 0) pa_nil)) (pe_call G_normal_form (hr.mono (by decide)) (by rfl) g_normal_form F_normal_form.kp b_normal_form .nil pass0 (pa_cons (pv 1) pa_nil)) (nomark _))))) (sim_equal (K := K)) law_equal
theorem ok_items {f : Addr} {fd : FuncData} (F : Fun K "items" "items" s_items f fd) (m_range : mg "range" = none) (m_len : mg "len" = none) : FnOk P w K mg base CX0 1 f fd ["row"] (spD ct_items) :=
  okD F sc_items rfl (fun cdv A outer s H E hr => (pss_cons (ps_asg (pv 0) (pg_tupK (n := 2) rfl (pgs_cons (pg_name (i := 1) sc_items.nd rfl (by first | exact .inl rfl | exact .inr rfl)) (pgs_cons (pg_name (i := 2) sc_items.nd rfl (by first | exact .inl rfl | exact .inr rfl)) pgs_nil))))
  (pss_cons (ps_set (i := 3) sc_items.nd rfl (by first | exact .inl rfl | exact .inr rfl) (pe_lst pa_nil))
  (pss_cons (ps_for PassesOwn.never rfl (pi_range3 (by rfl) m_range (pa_cons (pe_callB call_lenU (by rfl) m_len (by decide +kernel) (pa_cons (pv 1) pa_nil)) (pa_cons (pe_un un_neg pe_int) (pa_cons (pe_un un_neg pe_int) pa_nil)))) (pg_name (i := 4) sc_items.nd rfl (by first | exact .inl rfl | exact .inr rfl)) (pss_cons (ps_expr (pe_bm PySem.F.plainAttrs_list PySem.F.slot_list_extend PySem.F.type_list_extend mt_extend (pv 3) (pa_cons (pe_lc (own := [("client", 5)]) (g := (gName 5)) rfl sc_items.nd (pi_range3 (by rfl) m_range (pa_cons (pe_op op_sub (pe_callB call_lenU (by rfl) m_len (by decide +kernel) (pa_cons (pv 2) pa_nil)) pe_int) (pa_cons (pe_un un_neg pe_int) (pa_cons (pe_un un_neg pe_int) pa_nil)))) (blkOk_by (N := ["row", "lifetimes", "positions", "found", "index", "client"]) (sc := defScope s_items) (by decide +kernel)) (fun _ _ _ _ _ => (pg_name (i := 5) sc_items.nd rfl (by first | exact .inl rfl | exact .inr rfl))) (fun _ _ _ _ _ => (pts_one (pt_cmpR (op_eqD hr.units) (pe_ix ix_seq (pv 2) (pv 5) (fun _ _ => rfl)) (pv 4) (nomark _)))) (fun _ _ _ _ _ => (pe_tup (pa_cons pe_int (pa_cons (pv 5) pa_nil))))) pa_nil)))
  (pss_one (ps_if (pt_cmpR op_gt (pv 4) pe_int (nomark _)) (pss_one (ps_expr (pe_bm PySem.F.plainAttrs_list PySem.F.slot_list_append PySem.F.type_list_append mt_append (pv 3) (pa_cons (pe_tup (pa_cons pe_int (pa_cons (pe_ix ix_seq (pv 1) (pe_op op_sub (pv 4) pe_int) (fun _ _ => rfl)) pa_nil))) pa_nil)))) pss_nil))))
  (pss_one (ps_ret (pv 3))))))) (sim_items (K := K)) law_items
theorem ok_last_moments {f : Addr} {fd : FuncData} (F : Fun K "last_moments" "last_moments" s_last_moments f fd) (m_range : mg "range" = none) (m_len : mg "len" = none) (m_max : mg "max" = none) (m_enumerate : mg "enumerate" = none) : FnOk P w K mg base CX0 1 f fd ["lifetimes", "positions", "low"] (spD ct_last_moments) :=
  okD F sc_last_moments rfl (fun cdv A outer s H E hr => (pss_cons (ps_par (i := 3) (j := 4) rfl sc_last_moments.nd rfl rfl (by decide) rfl rfl (pa_cons (pe_lst pa_nil) (pa_cons pe_int pa_nil)) (by rfl))
  (pss_cons (ps_for PassesOwn.never rfl (pi_range3 (by rfl) m_range (pa_cons (pe_op op_sub (pe_callB call_lenU (by rfl) m_len (by decide +kernel) (pa_cons (pv 0) pa_nil)) pe_int) (pa_cons (pe_op op_sub (pv 2) pe_int) (pa_cons (pe_un un_neg pe_int) pa_nil)))) (pg_name (i := 5) sc_last_moments.nd rfl (by first | exact .inl rfl | exact .inr rfl)) (pss_cons (ps_set (i := 6) sc_last_moments.nd rfl (by first | exact .inl rfl | exact .inr rfl) (pe_callB (cr_max rfl) (by rfl) m_max (by decide +kernel) (pa_cons (pe_lc (own := [("client", 7), ("position", 8)]) (g := (gTup K 2 (gCons (gName 7) (gCons (gName 8) gNil)))) rfl sc_last_moments.nd (pi_enumK (by rfl) m_enumerate (pa_cons (pv 1) pa_nil)) (blkOk_by (N := ["lifetimes", "positions", "low", "found", "time", "index", "nearest", "client", "position"]) (sc := defScope s_last_moments) (by decide +kernel)) (fun _ _ _ _ _ => (pg_tupK (n := 2) rfl (pgs_cons (pg_name (i := 7) sc_last_moments.nd rfl (by first | exact .inl rfl | exact .inr rfl)) (pgs_cons (pg_name (i := 8) sc_last_moments.nd rfl (by first | exact .inl rfl | exact .inr rfl)) pgs_nil)))) (fun _ _ _ _ _ => (pts_one (pt_cmpR op_le (pv 8) (pv 5) (nomark _)))) (fun _ _ _ _ _ => (pv 7))) pa_nil)))
  (pss_cons (ps_expr (pe_bm PySem.F.plainAttrs_list PySem.F.slot_list_append PySem.F.type_list_append mt_append (pv 3) (pa_cons (pe_tup (pa_cons (pv 4) (pa_cons (pv 6) pa_nil))) pa_nil)))
  (pss_one (ps_aug (i := 4) sc_last_moments.nd rfl (by first | exact .inl rfl | exact .inr rfl) (pe_op op_sub (pe_ix ix_seq (pv 0) (pv 5) (fun _ _ => rfl)) pe_int) ip_add)))))
  (pss_one (ps_ret (pe_tup (pa_cons (pv 3) (pa_cons (pv 4) pa_nil)))))))) (sim_last_moments (K := K)) law_last_moments
theorem ok_separating {f : Addr} {fd : FuncData} (F : Fun K "separating" "separating" s_separating f fd) {f_equal : Addr} {fd_equal : FuncData} (F_equal : Fun K "equal" "equal" s_equal f_equal fd_equal) (g_equal : mg "equal" = some (.ref f_equal)) (b_equal : Binds K fd_equal ["one", "other"] []) (G_equal : FnOk P w K mg base CX0 3 f_equal fd_equal ["one", "other"] (spD ct_equal)) {f_items : Addr} {fd_items : FuncData} (F_items : Fun K "items" "items" s_items f_items fd_items) (g_items : mg "items" = some (.ref f_items)) (b_items : Binds K fd_items ["row"] []) (G_items : FnOk P w K mg base CX0 1 f_items fd_items ["row"] (spD ct_items)) {f_normal_form : Addr} {fd_normal_form : FuncData} (F_normal_form : Fun K "normal_form" "normal_form" s_normal_form f_normal_form fd_normal_form) (g_normal_form : mg "normal_form" = some (.ref f_normal_form)) (b_normal_form : Binds K fd_normal_form ["row"] []) (G_normal_form : FnOk P w K mg base CX0 2 f_normal_form fd_normal_form ["row"] (spD ct_normal_form)) {f_last_moments : Addr} {fd_last_moments : FuncData} (F_last_moments : Fun K "last_moments" "last_moments" s_last_moments f_last_moments fd_last_moments) (g_last_moments : mg "last_moments" = some (.ref f_last_moments)) (b_last_moments : Binds K fd_last_moments ["lifetimes", "positions", "low"] []) (G_last_moments : FnOk P w K mg base CX0 1 f_last_moments fd_last_moments ["lifetimes", "positions", "low"] (spD ct_last_moments)) (m_enumerate : mg "enumerate" = none) (m_zip : mg "zip" = none) (m_len : mg "len" = none) (m_min : mg "min" = none) (m_tuple : mg "tuple" = none) : FnOk P w K mg base CX0 4 f fd ["one", "other"] (spD ct_separating) :=
  okD F sc_separating rfl (fun cdv A outer s H E hr => (pss_cons (ps_if (pt_val (pe_call G_equal (hr.mono (by decide)) (by rfl) g_equal F_equal.kp b_equal .nil pass0 (pa_cons (pv 0) (pa_cons (pv 1) pa_nil)))) (pss_one (ps_ret pe_non)) pss_nil)
  (pss_cons (ps_par (i := 2) (j := 3) rfl sc_separating.nd rfl rfl (by decide) rfl rfl (pa_cons (pe_call G_items (hr.mono (by decide)) (by rfl) g_items F_items.kp b_items .nil pass0 (pa_cons (pe_call G_normal_form (hr.mono (by decide)) (by rfl) g_normal_form F_normal_form.kp b_normal_form .nil pass0 (pa_cons (pv 0) pa_nil)) pa_nil)) (pa_cons (pe_call G_items (hr.mono (by decide)) (by rfl) g_items F_items.kp b_items .nil pass0 (pa_cons (pe_call G_normal_form (hr.mono (by decide)) (by rfl) g_normal_form F_normal_form.kp b_normal_form .nil pass0 (pa_cons (pv 1) pa_nil)) pa_nil)) pa_nil)) (by rfl))
  (pss_cons (ps_set (i := 4) sc_separating.nd rfl (by first | exact .inl rfl | exact .inr rfl) (pe_ix ix_seq (pe_lc (own := [("at", 13), ("item", 14), ("mate", 15)]) (g := (gTup K 2 (gCons (gName 13) (gCons (gTup K 2 (gCons (gName 14) (gCons (gName 15) gNil))) gNil)))) rfl sc_separating.nd (pi_enumZip rfl (by rfl) m_enumerate (by rfl) m_zip (pa_cons (pv 2) (pa_cons (pv 3) pa_nil))) (blkOk_by (N := ["one", "other", "first", "second", "place", "common", "client", "lifetimes", "positions", "low", "found", "time", "wait", "at", "item", "mate", "word", "number"]) (sc := defScope s_separating) (by decide +kernel)) (fun _ _ _ _ _ => (pg_tupK (n := 2) rfl (pgs_cons (pg_name (i := 13) sc_separating.nd rfl (by first | exact .inl rfl | exact .inr rfl)) (pgs_cons (pg_tupK (n := 2) rfl (pgs_cons (pg_name (i := 14) sc_separating.nd rfl (by first | exact .inl rfl | exact .inr rfl)) (pgs_cons (pg_name (i := 15) sc_separating.nd rfl (by first | exact .inl rfl | exact .inr rfl)) pgs_nil))) pgs_nil)))) (fun _ _ _ _ _ => (pts_one (pt_cmpR (op_neD hr.units) (pv 14) (pv 15) (nomark _)))) (fun _ _ _ _ _ => (pv 13))) pe_int (fun _ _ => rfl)))
  (pss_cons (ps_set (i := 5) sc_separating.nd rfl (by first | exact .inl rfl | exact .inr rfl) (pe_callB call_lenU (by rfl) m_len (by decide +kernel) (pa_cons (pe_lc (own := [("word", 16), ("number", 17)]) (g := (gTup K 2 (gCons (gName 16) (gCons (gName 17) gNil)))) rfl sc_separating.nd (pi_seq (pe_slice sl_U (pv 2) po_none (po_some (pv 4)))) (blkOk_by (N := ["one", "other", "first", "second", "place", "common", "client", "lifetimes", "positions", "low", "found", "time", "wait", "at", "item", "mate", "word", "number"]) (sc := defScope s_separating) (by decide +kernel)) (fun _ _ _ _ _ => (pg_tupK (n := 2) rfl (pgs_cons (pg_name (i := 16) sc_separating.nd rfl (by first | exact .inl rfl | exact .inr rfl)) (pgs_cons (pg_name (i := 17) sc_separating.nd rfl (by first | exact .inl rfl | exact .inr rfl)) pgs_nil)))) (fun _ _ _ _ _ => (pts_one (pt_cmpR (op_eqD hr.units) (pv 16) pe_int (nomark _)))) (fun _ _ _ _ _ => (pv 16))) pa_nil)))
  (pss_cons (ps_set (i := 6) sc_separating.nd rfl (by first | exact .inl rfl | exact .inr rfl) (pe_op op_sub (pe_op op_sub (pe_callB call_lenU (by rfl) m_len (by decide +kernel) (pa_cons (pe_ix ix_seq (pv 0) pe_int (fun _ _ => rfl)) pa_nil)) pe_int) (pe_op op_sub (pv 4) (pv 5))))
  (pss_cons (ps_asg (pe_call G_normal_form (hr.mono (by decide)) (by rfl) g_normal_form F_normal_form.kp b_normal_form .nil pass0 (pa_cons (pv 0) pa_nil)) (pg_tupK (n := 2) rfl (pgs_cons (pg_name (i := 7) sc_separating.nd rfl (by first | exact .inl rfl | exact .inr rfl)) (pgs_cons (pg_name (i := 8) sc_separating.nd rfl (by first | exact .inl rfl | exact .inr rfl)) pgs_nil))))
  (pss_cons (ps_set (i := 9) sc_separating.nd rfl (by first | exact .inl rfl | exact .inr rfl) (pe_op op_sub (pe_callB call_lenU (by rfl) m_len (by decide +kernel) (pa_cons (pv 7) pa_nil)) (pv 5)))
  (pss_cons (ps_asg (pe_call G_last_moments (hr.mono (by decide)) (by rfl) g_last_moments F_last_moments.kp b_last_moments .nil pass0 (pa_cons (pv 7) (pa_cons (pv 8) (pa_cons (pv 9) pa_nil)))) (pg_tupK (n := 2) rfl (pgs_cons (pg_name (i := 10) sc_separating.nd rfl (by first | exact .inl rfl | exact .inr rfl)) (pgs_cons (pg_name (i := 11) sc_separating.nd rfl (by first | exact .inl rfl | exact .inr rfl)) pgs_nil))))
  (pss_cons (ps_set (i := 12) sc_separating.nd rfl (by first | exact .inl rfl | exact .inr rfl) (pe_callB (cr_min rfl) (by rfl) m_min (by decide +kernel) (pa_cons (pe_lc (own := [("word", 16), ("number", 17)]) (g := (gTup K 2 (gCons (gName 16) (gCons (gName 17) gNil)))) rfl sc_separating.nd (pi_seq (pe_tup (pa_cons (pe_ix ix_seq (pv 2) (pv 4) (fun _ _ => rfl)) (pa_cons (pe_ix ix_seq (pv 3) (pv 4) (fun _ _ => rfl)) pa_nil)))) (blkOk_by (N := ["one", "other", "first", "second", "place", "common", "client", "lifetimes", "positions", "low", "found", "time", "wait", "at", "item", "mate", "word", "number"]) (sc := defScope s_separating) (by decide +kernel)) (fun _ _ _ _ _ => (pg_tupK (n := 2) rfl (pgs_cons (pg_name (i := 16) sc_separating.nd rfl (by first | exact .inl rfl | exact .inr rfl)) (pgs_cons (pg_name (i := 17) sc_separating.nd rfl (by first | exact .inl rfl | exact .inr rfl)) pgs_nil)))) (fun _ _ _ _ _ => pts_nil) (fun _ _ _ _ _ => (pe_ifExp (pt_cmpR (op_eqD hr.units) (pv 16) pe_int (nomark _)) (pv 17) pe_int))) pa_nil)))
  (pss_one (ps_ret (pe_callTy call_tupOf (by rfl) m_tuple (by decide +kernel) (pa_cons (pe_op op_addU (pv 10) (pe_lst (pa_cons (pe_tup (pa_cons (pv 11) (pa_cons (pv 6) pa_nil))) (pa_cons (pe_tup (pa_cons (pe_op op_addU (pv 11) (pv 12)) (pa_cons (pv 6) pa_nil))) pa_nil)))) pa_nil)))))))))))))) (sim_separating (K := K)) law_separating
theorem ok_like {f_like : Addr} {fd_like : FuncData} (F_like : Fun K "_law_like" "_law_like" s_like f_like fd_like) (g_like : mg "_law_like" = some (.ref f_like)) (b_like : Binds K fd_like ["one", "two"] []) (m_isinstance : mg "isinstance" = none) (m_list : mg "list" = none) (m_tuple : mg "tuple" = none) (m_len : mg "len" = none) (m_range : mg "range" = none) (m_bool : mg "bool" = none) : ∀ n : Nat, FnOk P w K mg base CX0 (0 + n) f_like fd_like ["one", "two"] (spD (ct_like n))
  | 0 => fnOk_no like_zero
  | n + 1 => by
    have G_like := ok_like F_like g_like b_like m_isinstance m_list m_tuple m_len m_range m_bool n
    exact okD F_like sc_like rfl (fun cdv A outer s H E hr => (pss_cons (ps_if (pt_val (pe_callB call_isiT (by rfl) m_isinstance (by decide +kernel) (pa_cons (pv 0) (pa_cons (pe_tup (pa_cons (pe_bltn (v := .ty "list") (by rfl) m_list (by decide +kernel) rfl) (pa_cons (pe_bltn (v := .ty "tuple") (by rfl) m_tuple (by decide +kernel) rfl) pa_nil))) pa_nil)))) (pss_cons (ps_if (PW.pt (pw_or (pt_cmpR (op_neD hr.units) (pe_callB call_isi (by rfl) m_isinstance (by decide +kernel) (pa_cons (pv 0) (pa_cons (pe_bltn (v := .ty "list") (by rfl) m_list (by decide +kernel) rfl) pa_nil))) (pe_callB call_isi (by rfl) m_isinstance (by decide +kernel) (pa_cons (pv 1) (pa_cons (pe_bltn (v := .ty "list") (by rfl) m_list (by decide +kernel) rfl) pa_nil))) (nomark _)) (pw_or1 (pt_cmpR (op_neD hr.units) (pe_callB call_isi (by rfl) m_isinstance (by decide +kernel) (pa_cons (pv 0) (pa_cons (pe_bltn (v := .ty "tuple") (by rfl) m_tuple (by decide +kernel) rfl) pa_nil))) (pe_callB call_isi (by rfl) m_isinstance (by decide +kernel) (pa_cons (pv 1) (pa_cons (pe_bltn (v := .ty "tuple") (by rfl) m_tuple (by decide +kernel) rfl) pa_nil))) (nomark _))))) (pss_one (ps_ret pe_bl)) pss_nil)
  (pss_cons (ps_if (pt_cmpR (op_neD hr.units) (pe_callB call_lenU (by rfl) m_len (by decide +kernel) (pa_cons (pv 0) pa_nil)) (pe_callB call_lenU (by rfl) m_len (by decide +kernel) (pa_cons (pv 1) pa_nil)) (nomark _)) (pss_one (ps_ret pe_bl)) pss_nil)
  (pss_one (ps_ret (pe_cmpR (op_eqD hr.units) (pe_lc (own := [("k", 2)]) (g := (gName 2)) rfl sc_like.nd (pi_range1 (by rfl) m_range (pa_cons (pe_callB call_lenU (by rfl) m_len (by decide +kernel) (pa_cons (pv 0) pa_nil)) pa_nil)) (blkOk_by (N := ["one", "two", "k"]) (sc := defScope s_like) (by decide +kernel)) (fun _ _ _ _ _ => (pg_name (i := 2) sc_like.nd rfl (by first | exact .inl rfl | exact .inr rfl))) (fun _ _ _ _ _ => (pts_one (pt_not (pt_val (pe_call G_like hr (by rfl) g_like F_like.kp b_like .nil pass0 (pa_cons (pe_ix ix_seq (pv 0) (pv 2) (fun _ _ => rfl)) (pa_cons (pe_ix ix_seq (pv 1) (pv 2) (fun _ _ => rfl)) pa_nil))))))) (fun _ _ _ _ _ => (pv 2))) (pe_lst pa_nil) (nomark _)))))) pss_nil)
  (pss_cons (ps_if (pt_val (pe_callB call_isiT (by rfl) m_isinstance (by decide +kernel) (pa_cons (pv 1) (pa_cons (pe_tup (pa_cons (pe_bltn (v := .ty "list") (by rfl) m_list (by decide +kernel) rfl) (pa_cons (pe_bltn (v := .ty "tuple") (by rfl) m_tuple (by decide +kernel) rfl) pa_nil))) pa_nil)))) (pss_one (ps_ret pe_bl)) pss_nil)
  (pss_one (ps_ret (pe_and (pe_cmpR (op_eqD hr.units) (pe_callB call_isi (by rfl) m_isinstance (by decide +kernel) (pa_cons (pv 0) (pa_cons (pe_bltn (v := .ty "bool") (by rfl) m_bool (by decide +kernel) rfl) pa_nil))) (pe_callB call_isi (by rfl) m_isinstance (by decide +kernel) (pa_cons (pv 1) (pa_cons (pe_bltn (v := .ty "bool") (by rfl) m_bool (by decide +kernel) rfl) pa_nil))) (nomark _)) (pe_one (pe_cmpR (op_eqD hr.units) (pv 0) (pv 1) (nomark _))))))))) (sim_like n) (law_like n)
theorem ok_near_schedule {f : Addr} {fd : FuncData} (F : Fun K "_law_near_schedule" "_law_near_schedule" s_near_schedule f fd) {f_draw : Addr} {fd_draw : FuncData} (F_draw : Fun K "_law_draw" "_law_draw" s_draw f_draw fd_draw) (g_draw : mg "_law_draw" = some (.ref f_draw)) (b_draw : Binds K fd_draw ["tape", "many"] []) (G_draw : FnOk P w K mg base CX0 1 f_draw fd_draw ["tape", "many"] (spD ct_draw)) (m_range : mg "range" = none) (m_len : mg "len" = none) : FnOk P w K mg base CX0 2 f fd ["tape", "row", "reads"] (spD ct_near_schedule) :=
  okD F sc_near_schedule rfl (fun cdv A outer s H E hr => (pss_cons (ps_asg (pe_tup (pa_cons (pe_tup pa_nil) (pa_cons pe_int pa_nil))) (pg_tupK (n := 2) rfl (pgs_cons (pg_name (i := 3) sc_near_schedule.nd rfl (by first | exact .inl rfl | exact .inr rfl)) (pgs_cons (pg_name (i := 4) sc_near_schedule.nd rfl (by first | exact .inl rfl | exact .inr rfl)) pgs_nil))))
  (pss_cons (ps_for PassesOwn.never rfl (pi_range1 (by rfl) m_range (pa_cons (pe_call G_draw (hr.mono (by decide)) (by rfl) g_draw F_draw.kp b_draw .nil pass0 (pa_cons (pv 0) (pa_cons (pe_op op_addU (pv 2) pe_int) pa_nil))) pa_nil)) (pg_name (i := 5) sc_near_schedule.nd rfl (by first | exact .inl rfl | exact .inr rfl)) (pss_cons (ps_set (i := 3) sc_near_schedule.nd rfl (by first | exact .inl rfl | exact .inr rfl) (pe_op op_addU (pv 3) (pe_tup (pa_cons (pe_tup (pa_cons (pv 4) (pa_cons (pe_call G_draw (hr.mono (by decide)) (by rfl) g_draw F_draw.kp b_draw .nil pass0 (pa_cons (pv 0) (pa_cons (pe_callB call_lenU (by rfl) m_len (by decide +kernel) (pa_cons (pe_ix ix_seq (pv 1) pe_int (fun _ _ => rfl)) pa_nil)) pa_nil))) pa_nil))) pa_nil))))
  (pss_cons (ps_set (i := 6) sc_near_schedule.nd rfl (by first | exact .inl rfl | exact .inr rfl) (pe_op op_addU (pe_op op_addU (pe_lst (pa_cons pe_int (pa_cons pe_int (pa_cons pe_int pa_nil)))) (pe_lc (own := [("lifetime", 7)]) (g := (gName 7)) rfl sc_near_schedule.nd (pi_seq (pe_ix ix_seq (pv 1) pe_int (fun _ _ => rfl))) (blkOk_by (N := ["tape", "row", "reads", "found", "time", "k", "steps", "lifetime"]) (sc := defScope s_near_schedule) (by decide +kernel)) (fun _ _ _ _ _ => (pg_name (i := 7) sc_near_schedule.nd rfl (by first | exact .inl rfl | exact .inr rfl))) (fun _ _ _ _ _ => pts_nil) (fun _ _ _ _ _ => (pe_op op_sub (pv 7) pe_int)))) (pe_lc (own := [("lifetime", 7)]) (g := (gName 7)) rfl sc_near_schedule.nd (pi_seq (pe_ix ix_seq (pv 1) pe_int (fun _ _ => rfl))) (blkOk_by (N := ["tape", "row", "reads", "found", "time", "k", "steps", "lifetime"]) (sc := defScope s_near_schedule) (by decide +kernel)) (fun _ _ _ _ _ => (pg_name (i := 7) sc_near_schedule.nd rfl (by first | exact .inl rfl | exact .inr rfl))) (fun _ _ _ _ _ => pts_nil) (fun _ _ _ _ _ => (pv 7)))))
  (pss_one (ps_set (i := 4) sc_near_schedule.nd rfl (by first | exact .inl rfl | exact .inr rfl) (pe_op op_addU (pv 4) (pe_ix ix_seq (pv 6) (pe_call G_draw (hr.mono (by decide)) (by rfl) g_draw F_draw.kp b_draw .nil pass0 (pa_cons (pv 0) (pa_cons (pe_callB call_lenU (by rfl) m_len (by decide +kernel) (pa_cons (pv 6) pa_nil)) pa_nil))) (fun _ _ => rfl))))))))
  (pss_one (ps_ret (pv 3)))))) (sim_near_schedule (K := K)) law_near_schedule
theorem ok_ask {f_ask : Addr} {fd_ask : FuncData} (F_ask : Fun K "_law_ask" "_law_ask" s_ask f_ask fd_ask) (g_ask : mg "_law_ask" = some (.ref f_ask)) (b_ask : Binds K fd_ask ["row", "held", "time", "index"] []) (m_len : mg "len" = none) : ∀ n : Nat, FnOk P w K mg base CX0 (0 + n) f_ask fd_ask ["row", "held", "time", "index"] (spD (ct_ask n))
  | 0 => fnOk_no ask_zero
  | n + 1 => by
    have G_ask := ok_ask F_ask g_ask b_ask m_len n
    exact okD F_ask sc_ask rfl (fun cdv A outer s H E hr => (pss_cons (ps_if (pt_cmpR (op_eqD hr.units) (pv 3) (pe_callB call_lenU (by rfl) m_len (by decide +kernel) (pa_cons (pe_ix ix_seq (pv 0) pe_int (fun _ _ => rfl)) pa_nil)) (nomark _)) (pss_one (ps_ret (pe_tup (pa_cons (pv 2) (pa_cons (pv 3) pa_nil))))) pss_nil)
  (pss_cons (ps_if (PW.pt (pw_or (pt_cmpR op_isU (pe_ix ix_seq (pv 1) (pv 3) (fun _ _ => rfl)) pe_non (nomark _)) (pw_or1 (pt_cmpR op_le (pe_op op_addU (pe_ix ix_seq (pe_ix ix_seq (pv 1) (pv 3) (fun _ _ => rfl)) pe_int (fun _ _ => rfl)) (pe_ix ix_seq (pe_ix ix_seq (pv 0) pe_int (fun _ _ => rfl)) (pv 3) (fun _ _ => rfl))) (pv 2) (nomark _))))) (pss_cons (ps_set (i := 4) sc_ask.nd rfl (by first | exact .inl rfl | exact .inr rfl) (pe_call G_ask hr (by rfl) g_ask F_ask.kp b_ask .nil pass0 (pa_cons (pv 0) (pa_cons (pv 1) (pa_cons (pv 2) (pa_cons (pe_op op_addU (pv 3) pe_int) pa_nil))))))
  (pss_cons (ps_asg (pe_tup (pa_cons (pe_ix ix_seq (pv 4) pe_int (fun _ _ => rfl)) (pa_cons (pv 2) pa_nil))) (pg_sub (pv 1) (pv 3) set_list))
  (pss_one (ps_ret (pv 4))))) pss_nil)
  (pss_one (ps_ret (pe_tup (pa_cons (pe_ix ix_seq (pe_ix ix_seq (pv 1) (pv 3) (fun _ _ => rfl)) pe_int (fun _ _ => rfl)) (pa_cons (pv 3) pa_nil)))))))) (sim_ask n) (law_ask n)
theorem ok_walk {f : Addr} {fd : FuncData} (F : Fun K "_law_walk" "_law_walk" s_walk f fd) {f_ask : Addr} {fd_ask : FuncData} (F_ask : Fun K "_law_ask" "_law_ask" s_ask f_ask fd_ask) (g_ask : mg "_law_ask" = some (.ref f_ask)) (b_ask : Binds K fd_ask ["row", "held", "time", "index"] []) (G_ask : FnOk P w K mg base CX0 9 f_ask fd_ask ["row", "held", "time", "index"] (spD (ct_ask 9))) (m_len : mg "len" = none) : FnOk P w K mg base CX0 10 f fd ["row", "schedule"] (spD ct_walk) :=
  okD F sc_walk rfl (fun cdv A outer s H E hr => (pss_cons (ps_par (i := 2) (j := 3) rfl sc_walk.nd rfl rfl (by decide) rfl rfl (pa_cons (pe_op op_mulU (pe_lst (pa_cons pe_non pa_nil)) (pe_callB call_lenU (by rfl) m_len (by decide +kernel) (pa_cons (pe_ix ix_seq (pv 0) pe_int (fun _ _ => rfl)) pa_nil))) (pa_cons (pe_lst pa_nil) pa_nil)) (by rfl))
  (pss_cons (ps_for PassesOwn.never rfl (pi_seq (pv 1)) (pg_tupK (n := 2) rfl (pgs_cons (pg_name (i := 4) sc_walk.nd rfl (by first | exact .inl rfl | exact .inr rfl)) (pgs_cons (pg_name (i := 5) sc_walk.nd rfl (by first | exact .inl rfl | exact .inr rfl)) pgs_nil))) (pss_one (ps_expr (pe_bm PySem.F.plainAttrs_list PySem.F.slot_list_append PySem.F.type_list_append mt_append (pv 3) (pa_cons (pe_call G_ask (hr.mono (by decide)) (by rfl) g_ask F_ask.kp b_ask .nil pass0 (pa_cons (pv 0) (pa_cons (pv 2) (pa_cons (pv 4) (pa_cons (pe_ix ix_seq (pe_ix ix_seq (pv 0) pe_int (fun _ _ => rfl)) (pv 5) (fun _ _ => rfl)) pa_nil))))) pa_nil)))))
  (pss_one (ps_ret (pe_tup (pa_cons (pv 3) (pa_cons (pv 2) pa_nil)))))))) (sim_walk (K := K)) law_walk
theorem ok_lanswers {f : Addr} {fd : FuncData} (F : Fun K "_law_answers" "_law_answers" s_lanswers f fd) {f_walk : Addr} {fd_walk : FuncData} (F_walk : Fun K "_law_walk" "_law_walk" s_walk f_walk fd_walk) (g_walk : mg "_law_walk" = some (.ref f_walk)) (b_walk : Binds K fd_walk ["row", "schedule"] []) (G_walk : FnOk P w K mg base CX0 10 f_walk fd_walk ["row", "schedule"] (spD ct_walk)) : FnOk P w K mg base CX0 11 f fd ["row", "schedule"] (spD ct_lanswers) :=
  okD F sc_lanswers rfl (fun cdv A outer s H E hr => (pss_one (ps_ret (pe_lc (own := [("told", 2)]) (g := (gName 2)) rfl sc_lanswers.nd (pi_seq (pe_ix ix_seq (pe_call G_walk (hr.mono (by decide)) (by rfl) g_walk F_walk.kp b_walk .nil pass0 (pa_cons (pv 0) (pa_cons (pv 1) pa_nil))) pe_int (fun _ _ => rfl))) (blkOk_by (N := ["row", "schedule", "told"]) (sc := defScope s_lanswers) (by decide +kernel)) (fun _ _ _ _ _ => (pg_name (i := 2) sc_lanswers.nd rfl (by first | exact .inl rfl | exact .inr rfl))) (fun _ _ _ _ _ => pts_nil) (fun _ _ _ _ _ => (pe_ix ix_seq (pv 2) pe_int (fun _ _ => rfl))))))) (sim_lanswers (K := K)) law_lanswers
theorem ok_whole {f : Addr} {fd : FuncData} (F : Fun K "_law_whole" "_law_whole" s_whole f fd) (m_isinstance : mg "isinstance" = none) (m_int : mg "int" = none) (m_bool : mg "bool" = none) : FnOk P w K mg base CX0 1 f fd ["item"] (spD ct_whole) :=
  okD F sc_whole rfl (fun cdv A outer s H E hr => (pss_one (ps_ret (pe_and (pe_callB call_isi (by rfl) m_isinstance (by decide +kernel) (pa_cons (pv 0) (pa_cons (pe_bltn (v := .ty "int") (by rfl) m_int (by decide +kernel) rfl) pa_nil))) (pe_one (pe_not (pe_callB call_isi (by rfl) m_isinstance (by decide +kernel) (pa_cons (pv 0) (pa_cons (pe_bltn (v := .ty "bool") (by rfl) m_bool (by decide +kernel) rfl) pa_nil))))))))) (sim_whole (K := K)) law_whole
theorem ok_within {f : Addr} {fd : FuncData} (F : Fun K "_law_within" "_law_within" s_within f fd) {f_whole : Addr} {fd_whole : FuncData} (F_whole : Fun K "_law_whole" "_law_whole" s_whole f_whole fd_whole) (g_whole : mg "_law_whole" = some (.ref f_whole)) (b_whole : Binds K fd_whole ["item"] []) (G_whole : FnOk P w K mg base CX0 1 f_whole fd_whole ["item"] (spD ct_whole)) : FnOk P w K mg base CX0 2 f fd ["item", "low", "high"] (spD ct_within) :=
  okD F sc_within rfl (fun cdv A outer s H E hr => (pss_one (ps_ret (pe_and (pe_call G_whole (hr.mono (by decide)) (by rfl) g_whole F_whole.kp b_whole .nil pass0 (pa_cons (pv 0) pa_nil)) (pe_one (pe_chain op_le op_le (pv 1) (pv 0) (pv 2))))))) (sim_within (K := K)) law_within
theorem ok_is_schedule {f : Addr} {fd : FuncData} (F : Fun K "_law_is_schedule" "_law_is_schedule" s_is_schedule f fd) {f_within : Addr} {fd_within : FuncData} (F_within : Fun K "_law_within" "_law_within" s_within f_within fd_within) (g_within : mg "_law_within" = some (.ref f_within)) (b_within : Binds K fd_within ["item", "low", "high"] []) (G_within : FnOk P w K mg base CX0 2 f_within fd_within ["item", "low", "high"] (spD ct_within)) (m_isinstance : mg "isinstance" = none) (m_tuple : mg "tuple" = none) (m_len : mg "len" = none) (m_zip : mg "zip" = none) : FnOk P w K mg base CX0 3 f fd ["row", "item", "most"] (spD ct_is_schedule) :=
  okD F sc_is_schedule rfl (fun cdv A outer s H E hr => (pss_cons (ps_if (PW.pt (pw_or (pt_not (pt_val (pe_callB call_isi (by rfl) m_isinstance (by decide +kernel) (pa_cons (pv 1) (pa_cons (pe_bltn (v := .ty "tuple") (by rfl) m_tuple (by decide +kernel) rfl) pa_nil))))) (pw_or1 (pt_cmpR op_gt (pe_callB call_lenU (by rfl) m_len (by decide +kernel) (pa_cons (pv 1) pa_nil)) (pv 2) (nomark _))))) (pss_one (ps_ret pe_bl)) pss_nil)
  (pss_cons (ps_for PassesOwn.never rfl (pi_seq (pv 1)) (pg_name (i := 3) sc_is_schedule.nd rfl (by first | exact .inl rfl | exact .inr rfl)) (pss_cons (ps_if (PW.pt (pw_or (pt_not (pt_val (pe_callB call_isi (by rfl) m_isinstance (by decide +kernel) (pa_cons (pv 3) (pa_cons (pe_bltn (v := .ty "tuple") (by rfl) m_tuple (by decide +kernel) rfl) pa_nil))))) (pw_or (pt_cmpR (op_neD hr.units) (pe_callB call_lenU (by rfl) m_len (by decide +kernel) (pa_cons (pv 3) pa_nil)) pe_int (nomark _)) (pw_or1 (pt_not (pt_val (pe_call G_within (hr.mono (by decide)) (by rfl) g_within F_within.kp b_within .nil pass0 (pa_cons (pe_ix ix_seq (pv 3) pe_int (fun _ _ => rfl)) (pa_cons pe_int (pa_cons (pe_op op_pow pe_int pe_int) pa_nil)))))))))) (pss_one (ps_ret pe_bl)) pss_nil)
  (pss_one (ps_if (pt_not (pt_val (pe_call G_within (hr.mono (by decide)) (by rfl) g_within F_within.kp b_within .nil pass0 (pa_cons (pe_ix ix_seq (pv 3) pe_int (fun _ _ => rfl)) (pa_cons pe_int (pa_cons (pe_op op_sub (pe_callB call_lenU (by rfl) m_len (by decide +kernel) (pa_cons (pe_ix ix_seq (pv 0) pe_int (fun _ _ => rfl)) pa_nil)) pe_int) pa_nil)))))) (pss_one (ps_ret pe_bl)) pss_nil))))
  (pss_one (ps_ret (pe_cmpR (op_eqD hr.units) (pe_lc (own := [("one", 4), ("two", 5)]) (g := (gTup K 2 (gCons (gName 4) (gCons (gName 5) gNil)))) rfl sc_is_schedule.nd (pi_zipK (by rfl) m_zip (pa_cons (pv 1) (pa_cons (pe_slice sl_U (pv 1) (po_some pe_int) po_none) pa_nil))) (blkOk_by (N := ["row", "item", "most", "my_read", "one", "two"]) (sc := defScope s_is_schedule) (by decide +kernel)) (fun _ _ _ _ _ => (pg_tupK (n := 2) rfl (pgs_cons (pg_name (i := 4) sc_is_schedule.nd rfl (by first | exact .inl rfl | exact .inr rfl)) (pgs_cons (pg_name (i := 5) sc_is_schedule.nd rfl (by first | exact .inl rfl | exact .inr rfl)) pgs_nil)))) (fun _ _ _ _ _ => (pts_one (pt_cmpR op_gt (pe_ix ix_seq (pv 4) pe_int (fun _ _ => rfl)) (pe_ix ix_seq (pv 5) pe_int (fun _ _ => rfl)) (nomark _)))) (fun _ _ _ _ _ => pe_int)) (pe_lst pa_nil) (nomark _))))))) (sim_is_schedule (K := K)) law_is_schedule
theorem ok_law {f : Addr} {fd : FuncData} (F : Fun K "law" "law" s_law f fd) {f_row : Addr} {fd_row : FuncData} (F_row : Fun K "_law_row" "_law_row" s_row f_row fd_row) (g_row : mg "_law_row" = some (.ref f_row)) (b_row : Binds K fd_row ["tape", "caches", "longest", "clients"] []) (G_row : FnOk P w K mg base CX0 2 f_row fd_row ["tape", "caches", "longest", "clients"] (spD ct_row)) {f_variant : Addr} {fd_variant : FuncData} (F_variant : Fun K "_law_variant" "_law_variant" s_variant f_variant fd_variant) (g_variant : mg "_law_variant" = some (.ref f_variant)) (b_variant : Binds K fd_variant ["tape", "row"] []) (G_variant : FnOk P w K mg base CX0 3 f_variant fd_variant ["tape", "row"] (spD ct_variant)) {f_reduced : Addr} {fd_reduced : FuncData} (F_reduced : Fun K "_law_reduced" "_law_reduced" s_reduced f_reduced fd_reduced) (g_reduced : mg "_law_reduced" = some (.ref f_reduced)) (b_reduced : Binds K fd_reduced ["row", "kept"] []) (G_reduced : FnOk P w K mg base CX0 1 f_reduced fd_reduced ["row", "kept"] (spD ct_reduced)) {f_lcounting : Addr} {fd_lcounting : FuncData} (F_lcounting : Fun K "_law_counting" "_law_counting" s_lcounting f_lcounting fd_lcounting) (g_lcounting : mg "_law_counting" = some (.ref f_lcounting)) (b_lcounting : Binds K fd_lcounting ["row"] []) (G_lcounting : FnOk P w K mg base CX0 1 f_lcounting fd_lcounting ["row"] (spD ct_lcounting)) {f_separating : Addr} {fd_separating : FuncData} (F_separating : Fun K "separating" "separating" s_separating f_separating fd_separating) (g_separating : mg "separating" = some (.ref f_separating)) (b_separating : Binds K fd_separating ["one", "other"] []) (G_separating : FnOk P w K mg base CX0 4 f_separating fd_separating ["one", "other"] (spD ct_separating)) {f_like : Addr} {fd_like : FuncData} (F_like : Fun K "_law_like" "_law_like" s_like f_like fd_like) (g_like : mg "_law_like" = some (.ref f_like)) (b_like : Binds K fd_like ["one", "two"] []) (G_like : FnOk P w K mg base CX0 4 f_like fd_like ["one", "two"] (spD (ct_like 4))) {f_equal : Addr} {fd_equal : FuncData} (F_equal : Fun K "equal" "equal" s_equal f_equal fd_equal) (g_equal : mg "equal" = some (.ref f_equal)) (b_equal : Binds K fd_equal ["one", "other"] []) (G_equal : FnOk P w K mg base CX0 3 f_equal fd_equal ["one", "other"] (spD ct_equal)) {f_near_schedule : Addr} {fd_near_schedule : FuncData} (F_near_schedule : Fun K "_law_near_schedule" "_law_near_schedule" s_near_schedule f_near_schedule fd_near_schedule) (g_near_schedule : mg "_law_near_schedule" = some (.ref f_near_schedule)) (b_near_schedule : Binds K fd_near_schedule ["tape", "row", "reads"] []) (G_near_schedule : FnOk P w K mg base CX0 2 f_near_schedule fd_near_schedule ["tape", "row", "reads"] (spD ct_near_schedule)) {f_lanswers : Addr} {fd_lanswers : FuncData} (F_lanswers : Fun K "_law_answers" "_law_answers" s_lanswers f_lanswers fd_lanswers) (g_lanswers : mg "_law_answers" = some (.ref f_lanswers)) (b_lanswers : Binds K fd_lanswers ["row", "schedule"] []) (G_lanswers : FnOk P w K mg base CX0 11 f_lanswers fd_lanswers ["row", "schedule"] (spD ct_lanswers)) {f_is_schedule : Addr} {fd_is_schedule : FuncData} (F_is_schedule : Fun K "_law_is_schedule" "_law_is_schedule" s_is_schedule f_is_schedule fd_is_schedule) (g_is_schedule : mg "_law_is_schedule" = some (.ref f_is_schedule)) (b_is_schedule : Binds K fd_is_schedule ["row", "item", "most"] []) (G_is_schedule : FnOk P w K mg base CX0 3 f_is_schedule fd_is_schedule ["row", "item", "most"] (spD ct_is_schedule)) (m_range : mg "range" = none) (m_list : mg "list" = none) : FnOk P w K mg base CX0 12 f fd ["script"] (spLaw K) :=
  ok_lawD F sc_law (by decide) (fun cdv A outer s H E hr => pss_cons (ps_set (i := 1) sc_law.nd rfl (by first | exact .inl rfl | exact .inr rfl) (pe_lst (pa_cons (pe_callTy call_listOf (by rfl) m_list (by decide +kernel) (pa_cons (pv 0) pa_nil)) (pa_cons pe_int (pa_cons pe_int pa_nil)))))
  (pss_cons (ps_for PassesOwn.never rfl (pi_range1 (by rfl) m_range (pa_cons pe_int pa_nil)) (pg_name (i := 2) sc_law.nd rfl (by first | exact .inl rfl | exact .inr rfl)) (pss_cons (ps_set (i := 3) sc_law.nd rfl (by first | exact .inl rfl | exact .inr rfl) (pe_call G_row (hr.mono (by decide)) (by rfl) g_row F_row.kp b_row .nil pass0 (pa_cons (pv 1) (pa_cons pe_int (pa_cons pe_int (pa_cons pe_int pa_nil))))))
  (pss_cons (ps_set (i := 4) sc_law.nd rfl (by first | exact .inl rfl | exact .inr rfl) (pe_call G_variant (hr.mono (by decide)) (by rfl) g_variant F_variant.kp b_variant .nil pass0 (pa_cons (pv 1) (pa_cons (pv 3) pa_nil))))
  (pss_cons (ps_set (i := 5) sc_law.nd rfl (by first | exact .inl rfl | exact .inr rfl) (pe_cmpR (op_eqD hr.units) (pe_call G_reduced (hr.mono (by decide)) (by rfl) g_reduced F_reduced.kp b_reduced .nil pass0 (pa_cons (pv 3) (pa_cons (pe_call G_lcounting (hr.mono (by decide)) (by rfl) g_lcounting F_lcounting.kp b_lcounting .nil pass0 (pa_cons (pv 3) pa_nil)) pa_nil))) (pe_call G_reduced (hr.mono (by decide)) (by rfl) g_reduced F_reduced.kp b_reduced .nil pass0 (pa_cons (pv 4) (pa_cons (pe_call G_lcounting (hr.mono (by decide)) (by rfl) g_lcounting F_lcounting.kp b_lcounting .nil pass0 (pa_cons (pv 4) pa_nil)) pa_nil))) (nomark _)))
  (pss_cons (ps_set (i := 6) sc_law.nd rfl (by first | exact .inl rfl | exact .inr rfl) (pe_call G_separating (hr.mono (by decide)) (by rfl) g_separating F_separating.kp b_separating .nil pass0 (pa_cons (pv 3) (pa_cons (pv 4) pa_nil))))
  (pss_cons (ps_if (PW.pt (pw_or (pt_not (pt_val (pe_call G_like (hr.mono (by decide)) (by rfl) g_like F_like.kp b_like .nil pass0 (pa_cons (pe_call G_equal (hr.mono (by decide)) (by rfl) g_equal F_equal.kp b_equal .nil pass0 (pa_cons (pv 3) (pa_cons (pv 4) pa_nil))) (pa_cons (pv 5) pa_nil))))) (pw_or1 (pt_cmpR (op_neD hr.units) (pe_cmpR op_isU (pv 6) pe_non (nomark _)) (pv 5) (nomark _))))) (pss_one (ps_ret pe_bl)) pss_nil)
  (pss_one (ps_if (pt_cmpR op_isU (pv 6) pe_non (nomark _)) (pss_one (ps_for PassesOwn.never rfl (pi_range1 (by rfl) m_range (pa_cons pe_int pa_nil)) (pg_name (i := 7) sc_law.nd rfl (by first | exact .inl rfl | exact .inr rfl)) (pss_cons (ps_set (i := 8) sc_law.nd rfl (by first | exact .inl rfl | exact .inr rfl) (pe_call G_near_schedule (hr.mono (by decide)) (by rfl) g_near_schedule F_near_schedule.kp b_near_schedule .nil pass0 (pa_cons (pv 1) (pa_cons (pv 3) (pa_cons pe_int pa_nil)))))
  (pss_one (ps_if (pt_cmpR (op_neD hr.units) (pe_call G_lanswers (hr.mono (by decide)) (by rfl) g_lanswers F_lanswers.kp b_lanswers .nil pass0 (pa_cons (pv 3) (pa_cons (pv 8) pa_nil))) (pe_call G_lanswers (hr.mono (by decide)) (by rfl) g_lanswers F_lanswers.kp b_lanswers .nil pass0 (pa_cons (pv 4) (pa_cons (pv 8) pa_nil))) (nomark _)) (pss_one (ps_ret pe_bl)) pss_nil))))) (pss_one (ps_if (PW.pt (pw_or (pt_not (pt_val (pe_call G_is_schedule (hr.mono (by decide)) (by rfl) g_is_schedule F_is_schedule.kp b_is_schedule .nil pass0 (pa_cons (pv 3) (pa_cons (pv 6) (pa_cons pe_int pa_nil)))))) (pw_or1 (pt_cmpR (op_eqD hr.units) (pe_call G_lanswers (hr.mono (by decide)) (by rfl) g_lanswers F_lanswers.kp b_lanswers .nil pass0 (pa_cons (pv 3) (pa_cons (pv 6) pa_nil))) (pe_call G_lanswers (hr.mono (by decide)) (by rfl) g_lanswers F_lanswers.kp b_lanswers .nil pass0 (pa_cons (pv 4) (pa_cons (pv 6) pa_nil))) (nomark _))))) (pss_one (ps_ret pe_bl)) pss_nil))))))))))
  (pss_one (ps_ret pe_bl)))) (sim_law_k05 (K := K)) law_law_k05
end
theorem all_mk {l : PySem.W.OpenLaw} {w : World} {K : PySem.W.Frag} {h : Heap} {mg : Str → Option Value} {fa : Addr} (X : K.In h) (G : h.Ns mainGlobals mg) (hfa : mg "law" = some (.ref fa))
    {f_draw : Addr} {od_draw an_draw : Option Addr} {sl_draw : Array (Option Value)} {oc_draw kV_draw dc_draw pm_draw cd_draw cx_draw : Value}
    {f_row : Addr} {od_row an_row : Option Addr} {sl_row : Array (Option Value)} {oc_row kV_row dc_row pm_row cd_row cx_row : Value}
    {f_variant : Addr} {od_variant an_variant : Option Addr} {sl_variant : Array (Option Value)} {oc_variant kV_variant dc_variant pm_variant cd_variant cx_variant : Value}
    {f_reduced : Addr} {od_reduced an_reduced : Option Addr} {sl_reduced : Array (Option Value)} {oc_reduced kV_reduced dc_reduced pm_reduced cd_reduced cx_reduced : Value}
    {f_lcounting : Addr} {od_lcounting an_lcounting : Option Addr} {sl_lcounting : Array (Option Value)} {oc_lcounting kV_lcounting dc_lcounting pm_lcounting cd_lcounting cx_lcounting : Value}
    {f_counting : Addr} {od_counting an_counting : Option Addr} {sl_counting : Array (Option Value)} {oc_counting kV_counting dc_counting pm_counting cd_counting cx_counting : Value}
    {f_normal_form : Addr} {od_normal_form an_normal_form : Option Addr} {sl_normal_form : Array (Option Value)} {oc_normal_form kV_normal_form dc_normal_form pm_normal_form cd_normal_form cx_normal_form : Value}
    {f_equal : Addr} {od_equal an_equal : Option Addr} {sl_equal : Array (Option Value)} {oc_equal kV_equal dc_equal pm_equal cd_equal cx_equal : Value}
    {f_items : Addr} {od_items an_items : Option Addr} {sl_items : Array (Option Value)} {oc_items kV_items dc_items pm_items cd_items cx_items : Value}
    {f_last_moments : Addr} {od_last_moments an_last_moments : Option Addr} {sl_last_moments : Array (Option Value)} {oc_last_moments kV_last_moments dc_last_moments pm_last_moments cd_last_moments cx_last_moments : Value}
    {f_separating : Addr} {od_separating an_separating : Option Addr} {sl_separating : Array (Option Value)} {oc_separating kV_separating dc_separating pm_separating cd_separating cx_separating : Value}
    {f_like : Addr} {od_like an_like : Option Addr} {sl_like : Array (Option Value)} {oc_like kV_like dc_like pm_like cd_like cx_like : Value}
    {f_near_schedule : Addr} {od_near_schedule an_near_schedule : Option Addr} {sl_near_schedule : Array (Option Value)} {oc_near_schedule kV_near_schedule dc_near_schedule pm_near_schedule cd_near_schedule cx_near_schedule : Value}
    {f_ask : Addr} {od_ask an_ask : Option Addr} {sl_ask : Array (Option Value)} {oc_ask kV_ask dc_ask pm_ask cd_ask cx_ask : Value}
    {f_walk : Addr} {od_walk an_walk : Option Addr} {sl_walk : Array (Option Value)} {oc_walk kV_walk dc_walk pm_walk cd_walk cx_walk : Value}
    {f_lanswers : Addr} {od_lanswers an_lanswers : Option Addr} {sl_lanswers : Array (Option Value)} {oc_lanswers kV_lanswers dc_lanswers pm_lanswers cd_lanswers cx_lanswers : Value}
    {f_whole : Addr} {od_whole an_whole : Option Addr} {sl_whole : Array (Option Value)} {oc_whole kV_whole dc_whole pm_whole cd_whole cx_whole : Value}
    {f_within : Addr} {od_within an_within : Option Addr} {sl_within : Array (Option Value)} {oc_within kV_within dc_within pm_within cd_within cx_within : Value}
    {f_is_schedule : Addr} {od_is_schedule an_is_schedule : Option Addr} {sl_is_schedule : Array (Option Value)} {oc_is_schedule kV_is_schedule dc_is_schedule pm_is_schedule cd_is_schedule cx_is_schedule : Value}
    {f_law : Addr} {od_law an_law : Option Addr} {sl_law : Array (Option Value)} {oc_law kV_law dc_law pm_law cd_law cx_law : Value}
    (a_draw : PySem.W.nsIn K mainGlobals "_law_draw" = some (some (.ref f_draw))) (l_draw : K.lookup f_draw = some ⟨oc_draw, od_draw, .func (PySem.W.fnOf "_law_draw" "_law_draw" (defArgs s_draw) (defBody s_draw) (defScope s_draw) .none kV_draw dc_draw pm_draw an_draw cd_draw cx_draw), sl_draw⟩) (c_draw : PySem.W.codeIn K cd_draw "_law_draw" = true) (k_draw : PySem.W.keepIn K (.ref f_draw) = true)
    (a_row : PySem.W.nsIn K mainGlobals "_law_row" = some (some (.ref f_row))) (l_row : K.lookup f_row = some ⟨oc_row, od_row, .func (PySem.W.fnOf "_law_row" "_law_row" (defArgs s_row) (defBody s_row) (defScope s_row) .none kV_row dc_row pm_row an_row cd_row cx_row), sl_row⟩) (c_row : PySem.W.codeIn K cd_row "_law_row" = true) (k_row : PySem.W.keepIn K (.ref f_row) = true)
    (a_variant : PySem.W.nsIn K mainGlobals "_law_variant" = some (some (.ref f_variant))) (l_variant : K.lookup f_variant = some ⟨oc_variant, od_variant, .func (PySem.W.fnOf "_law_variant" "_law_variant" (defArgs s_variant) (defBody s_variant) (defScope s_variant) .none kV_variant dc_variant pm_variant an_variant cd_variant cx_variant), sl_variant⟩) (c_variant : PySem.W.codeIn K cd_variant "_law_variant" = true) (k_variant : PySem.W.keepIn K (.ref f_variant) = true)
    (a_reduced : PySem.W.nsIn K mainGlobals "_law_reduced" = some (some (.ref f_reduced))) (l_reduced : K.lookup f_reduced = some ⟨oc_reduced, od_reduced, .func (PySem.W.fnOf "_law_reduced" "_law_reduced" (defArgs s_reduced) (defBody s_reduced) (defScope s_reduced) .none kV_reduced dc_reduced pm_reduced an_reduced cd_reduced cx_reduced), sl_reduced⟩) (c_reduced : PySem.W.codeIn K cd_reduced "_law_reduced" = true) (k_reduced : PySem.W.keepIn K (.ref f_reduced) = true)
    (a_lcounting : PySem.W.nsIn K mainGlobals "_law_counting" = some (some (.ref f_lcounting))) (l_lcounting : K.lookup f_lcounting = some ⟨oc_lcounting, od_lcounting, .func (PySem.W.fnOf "_law_counting" "_law_counting" (defArgs s_lcounting) (defBody s_lcounting) (defScope s_lcounting) .none kV_lcounting dc_lcounting pm_lcounting an_lcounting cd_lcounting cx_lcounting), sl_lcounting⟩) (c_lcounting : PySem.W.codeIn K cd_lcounting "_law_counting" = true) (k_lcounting : PySem.W.keepIn K (.ref f_lcounting) = true)
    (a_counting : PySem.W.nsIn K mainGlobals "counting" = some (some (.ref f_counting))) (l_counting : K.lookup f_counting = some ⟨oc_counting, od_counting, .func (PySem.W.fnOf "counting" "counting" (defArgs s_counting) (defBody s_counting) (defScope s_counting) .none kV_counting dc_counting pm_counting an_counting cd_counting cx_counting), sl_counting⟩) (c_counting : PySem.W.codeIn K cd_counting "counting" = true) (k_counting : PySem.W.keepIn K (.ref f_counting) = true)
    (a_normal_form : PySem.W.nsIn K mainGlobals "normal_form" = some (some (.ref f_normal_form))) (l_normal_form : K.lookup f_normal_form = some ⟨oc_normal_form, od_normal_form, .func (PySem.W.fnOf "normal_form" "normal_form" (defArgs s_normal_form) (defBody s_normal_form) (defScope s_normal_form) .none kV_normal_form dc_normal_form pm_normal_form an_normal_form cd_normal_form cx_normal_form), sl_normal_form⟩) (c_normal_form : PySem.W.codeIn K cd_normal_form "normal_form" = true) (k_normal_form : PySem.W.keepIn K (.ref f_normal_form) = true)
    (a_equal : PySem.W.nsIn K mainGlobals "equal" = some (some (.ref f_equal))) (l_equal : K.lookup f_equal = some ⟨oc_equal, od_equal, .func (PySem.W.fnOf "equal" "equal" (defArgs s_equal) (defBody s_equal) (defScope s_equal) .none kV_equal dc_equal pm_equal an_equal cd_equal cx_equal), sl_equal⟩) (c_equal : PySem.W.codeIn K cd_equal "equal" = true) (k_equal : PySem.W.keepIn K (.ref f_equal) = true)
    (a_items : PySem.W.nsIn K mainGlobals "items" = some (some (.ref f_items))) (l_items : K.lookup f_items = some ⟨oc_items, od_items, .func (PySem.W.fnOf "items" "items" (defArgs s_items) (defBody s_items) (defScope s_items) .none kV_items dc_items pm_items an_items cd_items cx_items), sl_items⟩) (c_items : PySem.W.codeIn K cd_items "items" = true) (k_items : PySem.W.keepIn K (.ref f_items) = true)
    (a_last_moments : PySem.W.nsIn K mainGlobals "last_moments" = some (some (.ref f_last_moments))) (l_last_moments : K.lookup f_last_moments = some ⟨oc_last_moments, od_last_moments, .func (PySem.W.fnOf "last_moments" "last_moments" (defArgs s_last_moments) (defBody s_last_moments) (defScope s_last_moments) .none kV_last_moments dc_last_moments pm_last_moments an_last_moments cd_last_moments cx_last_moments), sl_last_moments⟩) (c_last_moments : PySem.W.codeIn K cd_last_moments "last_moments" = true) (k_last_moments : PySem.W.keepIn K (.ref f_last_moments) = true)
    (a_separating : PySem.W.nsIn K mainGlobals "separating" = some (some (.ref f_separating))) (l_separating : K.lookup f_separating = some ⟨oc_separating, od_separating, .func (PySem.W.fnOf "separating" "separating" (defArgs s_separating) (defBody s_separating) (defScope s_separating) .none kV_separating dc_separating pm_separating an_separating cd_separating cx_separating), sl_separating⟩) (c_separating : PySem.W.codeIn K cd_separating "separating" = true) (k_separating : PySem.W.keepIn K (.ref f_separating) = true)
    (a_like : PySem.W.nsIn K mainGlobals "_law_like" = some (some (.ref f_like))) (l_like : K.lookup f_like = some ⟨oc_like, od_like, .func (PySem.W.fnOf "_law_like" "_law_like" (defArgs s_like) (defBody s_like) (defScope s_like) .none kV_like dc_like pm_like an_like cd_like cx_like), sl_like⟩) (c_like : PySem.W.codeIn K cd_like "_law_like" = true) (k_like : PySem.W.keepIn K (.ref f_like) = true)
    (a_near_schedule : PySem.W.nsIn K mainGlobals "_law_near_schedule" = some (some (.ref f_near_schedule))) (l_near_schedule : K.lookup f_near_schedule = some ⟨oc_near_schedule, od_near_schedule, .func (PySem.W.fnOf "_law_near_schedule" "_law_near_schedule" (defArgs s_near_schedule) (defBody s_near_schedule) (defScope s_near_schedule) .none kV_near_schedule dc_near_schedule pm_near_schedule an_near_schedule cd_near_schedule cx_near_schedule), sl_near_schedule⟩) (c_near_schedule : PySem.W.codeIn K cd_near_schedule "_law_near_schedule" = true) (k_near_schedule : PySem.W.keepIn K (.ref f_near_schedule) = true)
    (a_ask : PySem.W.nsIn K mainGlobals "_law_ask" = some (some (.ref f_ask))) (l_ask : K.lookup f_ask = some ⟨oc_ask, od_ask, .func (PySem.W.fnOf "_law_ask" "_law_ask" (defArgs s_ask) (defBody s_ask) (defScope s_ask) .none kV_ask dc_ask pm_ask an_ask cd_ask cx_ask), sl_ask⟩) (c_ask : PySem.W.codeIn K cd_ask "_law_ask" = true) (k_ask : PySem.W.keepIn K (.ref f_ask) = true)
    (a_walk : PySem.W.nsIn K mainGlobals "_law_walk" = some (some (.ref f_walk))) (l_walk : K.lookup f_walk = some ⟨oc_walk, od_walk, .func (PySem.W.fnOf "_law_walk" "_law_walk" (defArgs s_walk) (defBody s_walk) (defScope s_walk) .none kV_walk dc_walk pm_walk an_walk cd_walk cx_walk), sl_walk⟩) (c_walk : PySem.W.codeIn K cd_walk "_law_walk" = true) (k_walk : PySem.W.keepIn K (.ref f_walk) = true)
    (a_lanswers : PySem.W.nsIn K mainGlobals "_law_answers" = some (some (.ref f_lanswers))) (l_lanswers : K.lookup f_lanswers = some ⟨oc_lanswers, od_lanswers, .func (PySem.W.fnOf "_law_answers" "_law_answers" (defArgs s_lanswers) (defBody s_lanswers) (defScope s_lanswers) .none kV_lanswers dc_lanswers pm_lanswers an_lanswers cd_lanswers cx_lanswers), sl_lanswers⟩) (c_lanswers : PySem.W.codeIn K cd_lanswers "_law_answers" = true) (k_lanswers : PySem.W.keepIn K (.ref f_lanswers) = true)
    (a_whole : PySem.W.nsIn K mainGlobals "_law_whole" = some (some (.ref f_whole))) (l_whole : K.lookup f_whole = some ⟨oc_whole, od_whole, .func (PySem.W.fnOf "_law_whole" "_law_whole" (defArgs s_whole) (defBody s_whole) (defScope s_whole) .none kV_whole dc_whole pm_whole an_whole cd_whole cx_whole), sl_whole⟩) (c_whole : PySem.W.codeIn K cd_whole "_law_whole" = true) (k_whole : PySem.W.keepIn K (.ref f_whole) = true)
    (a_within : PySem.W.nsIn K mainGlobals "_law_within" = some (some (.ref f_within))) (l_within : K.lookup f_within = some ⟨oc_within, od_within, .func (PySem.W.fnOf "_law_within" "_law_within" (defArgs s_within) (defBody s_within) (defScope s_within) .none kV_within dc_within pm_within an_within cd_within cx_within), sl_within⟩) (c_within : PySem.W.codeIn K cd_within "_law_within" = true) (k_within : PySem.W.keepIn K (.ref f_within) = true)
    (a_is_schedule : PySem.W.nsIn K mainGlobals "_law_is_schedule" = some (some (.ref f_is_schedule))) (l_is_schedule : K.lookup f_is_schedule = some ⟨oc_is_schedule, od_is_schedule, .func (PySem.W.fnOf "_law_is_schedule" "_law_is_schedule" (defArgs s_is_schedule) (defBody s_is_schedule) (defScope s_is_schedule) .none kV_is_schedule dc_is_schedule pm_is_schedule an_is_schedule cd_is_schedule cx_is_schedule), sl_is_schedule⟩) (c_is_schedule : PySem.W.codeIn K cd_is_schedule "_law_is_schedule" = true) (k_is_schedule : PySem.W.keepIn K (.ref f_is_schedule) = true)
    (a_law : PySem.W.nsIn K mainGlobals "law" = some (some (.ref f_law))) (l_law : K.lookup f_law = some ⟨oc_law, od_law, .func (PySem.W.fnOf "law" "law" (defArgs s_law) (defBody s_law) (defScope s_law) .none kV_law dc_law pm_law an_law cd_law cx_law), sl_law⟩) (c_law : PySem.W.codeIn K cd_law "law" = true) (k_law : PySem.W.keepIn K (.ref f_law) = true)
    (z_len : PySem.W.nsIn K mainGlobals "len" = some none)
    (z_tuple : PySem.W.nsIn K mainGlobals "tuple" = some none)
    (z_range : PySem.W.nsIn K mainGlobals "range" = some none)
    (z_min : PySem.W.nsIn K mainGlobals "min" = some none)
    (z_sorted : PySem.W.nsIn K mainGlobals "sorted" = some none)
    (z_int : PySem.W.nsIn K mainGlobals "int" = some none)
    (z_max : PySem.W.nsIn K mainGlobals "max" = some none)
    (z_enumerate : PySem.W.nsIn K mainGlobals "enumerate" = some none)
    (z_zip : PySem.W.nsIn K mainGlobals "zip" = some none)
    (z_isinstance : PySem.W.nsIn K mainGlobals "isinstance" = some none)
    (z_list : PySem.W.nsIn K mainGlobals "list" = some none)
    (z_bool : PySem.W.nsIn K mainGlobals "bool" = some none) :
    ∃ fd : FuncData, (∀ (s : Shared) (v : Value), BindsTo s fd ⟨[v], []⟩ [("script", v)]) ∧ ∀ base : Heap, K.In base → base.Ns mainGlobals mg → FnOk l.prog w K mg base CX0 12 fa fd ["script"] (spLaw K) := by
  have e := hfa.symm.trans (PySem.W.mg_of X G a_law)
  cases e
  have F_draw := fun_mk (st := s_draw) l_draw c_draw k_draw
  have b_draw := F_draw.binds (ps := ["tape", "many"]) fun _ _ _ _ _ _ us hl => match us, hl with | [_, _], _ => rfl
  have g_draw := PySem.W.mg_of X G a_draw
  have F_row := fun_mk (st := s_row) l_row c_row k_row
  have b_row := F_row.binds (ps := ["tape", "caches", "longest", "clients"]) fun _ _ _ _ _ _ us hl => match us, hl with | [_, _, _, _], _ => rfl
  have g_row := PySem.W.mg_of X G a_row
  have F_variant := fun_mk (st := s_variant) l_variant c_variant k_variant
  have b_variant := F_variant.binds (ps := ["tape", "row"]) fun _ _ _ _ _ _ us hl => match us, hl with | [_, _], _ => rfl
  have g_variant := PySem.W.mg_of X G a_variant
  have F_reduced := fun_mk (st := s_reduced) l_reduced c_reduced k_reduced
  have b_reduced := F_reduced.binds (ps := ["row", "kept"]) fun _ _ _ _ _ _ us hl => match us, hl with | [_, _], _ => rfl
  have g_reduced := PySem.W.mg_of X G a_reduced
  have F_lcounting := fun_mk (st := s_lcounting) l_lcounting c_lcounting k_lcounting
  have b_lcounting := F_lcounting.binds (ps := ["row"]) fun _ _ _ _ _ _ us hl => match us, hl with | [_], _ => rfl
  have g_lcounting := PySem.W.mg_of X G a_lcounting
  have F_counting := fun_mk (st := s_counting) l_counting c_counting k_counting
  have b_counting := F_counting.binds (ps := ["row"]) fun _ _ _ _ _ _ us hl => match us, hl with | [_], _ => rfl
  have g_counting := PySem.W.mg_of X G a_counting
  have F_normal_form := fun_mk (st := s_normal_form) l_normal_form c_normal_form k_normal_form
  have b_normal_form := F_normal_form.binds (ps := ["row"]) fun _ _ _ _ _ _ us hl => match us, hl with | [_], _ => rfl
  have g_normal_form := PySem.W.mg_of X G a_normal_form
  have F_equal := fun_mk (st := s_equal) l_equal c_equal k_equal
  have b_equal := F_equal.binds (ps := ["one", "other"]) fun _ _ _ _ _ _ us hl => match us, hl with | [_, _], _ => rfl
  have g_equal := PySem.W.mg_of X G a_equal
  have F_items := fun_mk (st := s_items) l_items c_items k_items
  have b_items := F_items.binds (ps := ["row"]) fun _ _ _ _ _ _ us hl => match us, hl with | [_], _ => rfl
  have g_items := PySem.W.mg_of X G a_items
  have F_last_moments := fun_mk (st := s_last_moments) l_last_moments c_last_moments k_last_moments
  have b_last_moments := F_last_moments.binds (ps := ["lifetimes", "positions", "low"]) fun _ _ _ _ _ _ us hl => match us, hl with | [_, _, _], _ => rfl
  have g_last_moments := PySem.W.mg_of X G a_last_moments
  have F_separating := fun_mk (st := s_separating) l_separating c_separating k_separating
  have b_separating := F_separating.binds (ps := ["one", "other"]) fun _ _ _ _ _ _ us hl => match us, hl with | [_, _], _ => rfl
  have g_separating := PySem.W.mg_of X G a_separating
  have F_like := fun_mk (st := s_like) l_like c_like k_like
  have b_like := F_like.binds (ps := ["one", "two"]) fun _ _ _ _ _ _ us hl => match us, hl with | [_, _], _ => rfl
  have g_like := PySem.W.mg_of X G a_like
  have F_near_schedule := fun_mk (st := s_near_schedule) l_near_schedule c_near_schedule k_near_schedule
  have b_near_schedule := F_near_schedule.binds (ps := ["tape", "row", "reads"]) fun _ _ _ _ _ _ us hl => match us, hl with | [_, _, _], _ => rfl
  have g_near_schedule := PySem.W.mg_of X G a_near_schedule
  have F_ask := fun_mk (st := s_ask) l_ask c_ask k_ask
  have b_ask := F_ask.binds (ps := ["row", "held", "time", "index"]) fun _ _ _ _ _ _ us hl => match us, hl with | [_, _, _, _], _ => rfl
  have g_ask := PySem.W.mg_of X G a_ask
  have F_walk := fun_mk (st := s_walk) l_walk c_walk k_walk
  have b_walk := F_walk.binds (ps := ["row", "schedule"]) fun _ _ _ _ _ _ us hl => match us, hl with | [_, _], _ => rfl
  have g_walk := PySem.W.mg_of X G a_walk
  have F_lanswers := fun_mk (st := s_lanswers) l_lanswers c_lanswers k_lanswers
  have b_lanswers := F_lanswers.binds (ps := ["row", "schedule"]) fun _ _ _ _ _ _ us hl => match us, hl with | [_, _], _ => rfl
  have g_lanswers := PySem.W.mg_of X G a_lanswers
  have F_whole := fun_mk (st := s_whole) l_whole c_whole k_whole
  have b_whole := F_whole.binds (ps := ["item"]) fun _ _ _ _ _ _ us hl => match us, hl with | [_], _ => rfl
  have g_whole := PySem.W.mg_of X G a_whole
  have F_within := fun_mk (st := s_within) l_within c_within k_within
  have b_within := F_within.binds (ps := ["item", "low", "high"]) fun _ _ _ _ _ _ us hl => match us, hl with | [_, _, _], _ => rfl
  have g_within := PySem.W.mg_of X G a_within
  have F_is_schedule := fun_mk (st := s_is_schedule) l_is_schedule c_is_schedule k_is_schedule
  have b_is_schedule := F_is_schedule.binds (ps := ["row", "item", "most"]) fun _ _ _ _ _ _ us hl => match us, hl with | [_, _, _], _ => rfl
  have g_is_schedule := PySem.W.mg_of X G a_is_schedule
  have F_law := fun_mk (st := s_law) l_law c_law k_law
  have m_len := PySem.W.mg_none_of X G z_len
  have m_tuple := PySem.W.mg_none_of X G z_tuple
  have m_range := PySem.W.mg_none_of X G z_range
  have m_min := PySem.W.mg_none_of X G z_min
  have m_sorted := PySem.W.mg_none_of X G z_sorted
  have m_int := PySem.W.mg_none_of X G z_int
  have m_max := PySem.W.mg_none_of X G z_max
  have m_enumerate := PySem.W.mg_none_of X G z_enumerate
  have m_zip := PySem.W.mg_none_of X G z_zip
  have m_isinstance := PySem.W.mg_none_of X G z_isinstance
  have m_list := PySem.W.mg_none_of X G z_list
  have m_bool := PySem.W.mg_none_of X G z_bool
  refine ⟨PySem.W.fnOf "law" "law" (defArgs s_law) (defBody s_law) (defScope s_law) .none kV_law dc_law pm_law an_law cd_law cx_law, fun s v => .of_eq rfl, fun base _ _ => ?_⟩
  have G_draw : FnOk l.prog w K mg base CX0 1 f_draw _ ["tape", "many"] (spD ct_draw) := ok_draw F_draw m_len
  have G_row : FnOk l.prog w K mg base CX0 2 f_row _ ["tape", "caches", "longest", "clients"] (spD ct_row) := ok_row F_row F_draw g_draw b_draw G_draw m_tuple m_range m_min m_len m_sorted
  have G_variant : FnOk l.prog w K mg base CX0 3 f_variant _ ["tape", "row"] (spD ct_variant) := ok_variant F_variant F_draw g_draw b_draw G_draw F_row g_row b_row G_row m_tuple m_sorted m_len m_int
  have G_reduced : FnOk l.prog w K mg base CX0 1 f_reduced _ ["row", "kept"] (spD ct_reduced) := ok_reduced F_reduced m_len m_tuple
  have G_lcounting : FnOk l.prog w K mg base CX0 1 f_lcounting _ ["row"] (spD ct_lcounting) := ok_lcounting F_lcounting m_range m_len m_max
  have G_counting : FnOk l.prog w K mg base CX0 1 f_counting _ ["row"] (spD ct_counting) := ok_counting F_counting m_range m_len m_max
  have G_normal_form : FnOk l.prog w K mg base CX0 2 f_normal_form _ ["row"] (spD ct_normal_form) := ok_normal_form F_normal_form F_counting g_counting b_counting G_counting m_tuple m_len
  have G_equal : FnOk l.prog w K mg base CX0 3 f_equal _ ["one", "other"] (spD ct_equal) := ok_equal F_equal F_normal_form g_normal_form b_normal_form G_normal_form
  have G_items : FnOk l.prog w K mg base CX0 1 f_items _ ["row"] (spD ct_items) := ok_items F_items m_range m_len
  have G_last_moments : FnOk l.prog w K mg base CX0 1 f_last_moments _ ["lifetimes", "positions", "low"] (spD ct_last_moments) := ok_last_moments F_last_moments m_range m_len m_max m_enumerate
  have G_separating : FnOk l.prog w K mg base CX0 4 f_separating _ ["one", "other"] (spD ct_separating) := ok_separating F_separating F_equal g_equal b_equal G_equal F_items g_items b_items G_items F_normal_form g_normal_form b_normal_form G_normal_form F_last_moments g_last_moments b_last_moments G_last_moments m_enumerate m_zip m_len m_min m_tuple
  have G_like : FnOk l.prog w K mg base CX0 4 f_like _ ["one", "two"] (spD (ct_like 4)) := ok_like F_like g_like b_like m_isinstance m_list m_tuple m_len m_range m_bool 4
  have G_near_schedule : FnOk l.prog w K mg base CX0 2 f_near_schedule _ ["tape", "row", "reads"] (spD ct_near_schedule) := ok_near_schedule F_near_schedule F_draw g_draw b_draw G_draw m_range m_len
  have G_ask : FnOk l.prog w K mg base CX0 9 f_ask _ ["row", "held", "time", "index"] (spD (ct_ask 9)) := ok_ask F_ask g_ask b_ask m_len 9
  have G_walk : FnOk l.prog w K mg base CX0 10 f_walk _ ["row", "schedule"] (spD ct_walk) := ok_walk F_walk F_ask g_ask b_ask G_ask m_len
  have G_lanswers : FnOk l.prog w K mg base CX0 11 f_lanswers _ ["row", "schedule"] (spD ct_lanswers) := ok_lanswers F_lanswers F_walk g_walk b_walk G_walk
  have G_whole : FnOk l.prog w K mg base CX0 1 f_whole _ ["item"] (spD ct_whole) := ok_whole F_whole m_isinstance m_int m_bool
  have G_within : FnOk l.prog w K mg base CX0 2 f_within _ ["item", "low", "high"] (spD ct_within) := ok_within F_within F_whole g_whole b_whole G_whole
  have G_is_schedule : FnOk l.prog w K mg base CX0 3 f_is_schedule _ ["row", "item", "most"] (spD ct_is_schedule) := ok_is_schedule F_is_schedule F_within g_within b_within G_within m_isinstance m_tuple m_len m_zip
  exact ok_law F_law F_row g_row b_row G_row F_variant g_variant b_variant G_variant F_reduced g_reduced b_reduced G_reduced F_lcounting g_lcounting b_lcounting G_lcounting F_separating g_separating b_separating G_separating F_like g_like b_like G_like F_equal g_equal b_equal G_equal F_near_schedule g_near_schedule b_near_schedule G_near_schedule F_lanswers g_lanswers b_lanswers G_lanswers F_is_schedule g_is_schedule b_is_schedule G_is_schedule m_range m_list
end St
open PySem PySem.W PyProof.Rows
set_option maxRecDepth 100000 in
set_option maxHeartbeats 0 in
theorem PySem.Challenge.cw_staletiers_k05_whole_equal_or_separated_holds : PySem.Challenge.rw_staletiers_k05_whole_equal_or_separated.Holds := by
  w_on; o_law; k_head; (case hw => w_witness2)
  k_fill
  refine L2.walk_of (l := PySem.Challenge.rw_staletiers_k05_whole_equal_or_separated) (n := 63) (k := 12) (x := "script") (CX := fun _ => L2.CX0) (sp := fun w => Dl.spLaw _) rfl (by decide) rfl ⟨rfl, by decide, by decide⟩ (fun w h Y => PySem.W.kIn_of Y) ?F (fun _ _ a ns hl _ hS => ⟨a, ns, rfl, hS, hl, fun _ => rfl⟩) (fun _ _ _ _ _ h => h)
  case F =>
    intro w mg fa h KX G hmg
    refine' St.all_mk KX G hmg ?a_draw ?l_draw ?c_draw ?k_draw ?a_row ?l_row ?c_row ?k_row ?a_variant ?l_variant ?c_variant ?k_variant ?a_reduced ?l_reduced ?c_reduced ?k_reduced ?a_lcounting ?l_lcounting ?c_lcounting ?k_lcounting ?a_counting ?l_counting ?c_counting ?k_counting ?a_normal_form ?l_normal_form ?c_normal_form ?k_normal_form ?a_equal ?l_equal ?c_equal ?k_equal ?a_items ?l_items ?c_items ?k_items ?a_last_moments ?l_last_moments ?c_last_moments ?k_last_moments ?a_separating ?l_separating ?c_separating ?k_separating ?a_like ?l_like ?c_like ?k_like ?a_near_schedule ?l_near_schedule ?c_near_schedule ?k_near_schedule ?a_ask ?l_ask ?c_ask ?k_ask ?a_walk ?l_walk ?c_walk ?k_walk ?a_lanswers ?l_lanswers ?c_lanswers ?k_lanswers ?a_whole ?l_whole ?c_whole ?k_whole ?a_within ?l_within ?c_within ?k_within ?a_is_schedule ?l_is_schedule ?c_is_schedule ?k_is_schedule ?a_law ?l_law ?c_law ?k_law ?z_len ?z_tuple ?z_range ?z_min ?z_sorted ?z_int ?z_max ?z_enumerate ?z_zip ?z_isinstance ?z_list ?z_bool
    (case a_draw => k_is); (case l_draw => k_is); (case c_draw => k_is); (case k_draw => k_is)
    (case a_row => k_is); (case l_row => k_is); (case c_row => k_is); (case k_row => k_is)
    (case a_variant => k_is); (case l_variant => k_is); (case c_variant => k_is); (case k_variant => k_is)
    (case a_reduced => k_is); (case l_reduced => k_is); (case c_reduced => k_is); (case k_reduced => k_is)
    (case a_lcounting => k_is); (case l_lcounting => k_is); (case c_lcounting => k_is); (case k_lcounting => k_is)
    (case a_counting => k_is); (case l_counting => k_is); (case c_counting => k_is); (case k_counting => k_is)
    (case a_normal_form => k_is); (case l_normal_form => k_is); (case c_normal_form => k_is); (case k_normal_form => k_is)
    (case a_equal => k_is); (case l_equal => k_is); (case c_equal => k_is); (case k_equal => k_is)
    (case a_items => k_is); (case l_items => k_is); (case c_items => k_is); (case k_items => k_is)
    (case a_last_moments => k_is); (case l_last_moments => k_is); (case c_last_moments => k_is); (case k_last_moments => k_is)
    (case a_separating => k_is); (case l_separating => k_is); (case c_separating => k_is); (case k_separating => k_is)
    (case a_like => k_is); (case l_like => k_is); (case c_like => k_is); (case k_like => k_is)
    (case a_near_schedule => k_is); (case l_near_schedule => k_is); (case c_near_schedule => k_is); (case k_near_schedule => k_is)
    (case a_ask => k_is); (case l_ask => k_is); (case c_ask => k_is); (case k_ask => k_is)
    (case a_walk => k_is); (case l_walk => k_is); (case c_walk => k_is); (case k_walk => k_is)
    (case a_lanswers => k_is); (case l_lanswers => k_is); (case c_lanswers => k_is); (case k_lanswers => k_is)
    (case a_whole => k_is); (case l_whole => k_is); (case c_whole => k_is); (case k_whole => k_is)
    (case a_within => k_is); (case l_within => k_is); (case c_within => k_is); (case k_within => k_is)
    (case a_is_schedule => k_is); (case l_is_schedule => k_is); (case c_is_schedule => k_is); (case k_is_schedule => k_is)
    (case a_law => k_is); (case l_law => k_is); (case c_law => k_is); (case k_law => k_is)
    (case z_len => k_is); (case z_tuple => k_is); (case z_range => k_is); (case z_min => k_is)
    (case z_sorted => k_is); (case z_int => k_is); (case z_max => k_is); (case z_enumerate => k_is)
    (case z_zip => k_is); (case z_isinstance => k_is); (case z_list => k_is); (case z_bool => k_is)
