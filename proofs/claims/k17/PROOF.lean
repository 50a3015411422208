import PyProof.Rows.All
import Wide.All
import OpenK.AllK
import Wide.FinOn
import HandS.ForMost
import HandS.TupAny
import HandS.TupMul
import HandS.IsInst
import HandS.Zip
import HandS.Style
import HandS.SortInts
import HandS.Walk
import HandS.Wide
import HandS.Defaults
import HandS.Deep
import KE.GoesZip
import HandS.Dict
import HandS.HotCalls
import HandS.ExcIs
import HandS.ExcCtx
import HandS.OwnEq
import HandS.Text
import OpenK.KOps
import PyProof.InstEq
import HandS.Comp
import PyProof.Rows.TupIter
import PySem.Challenge.RW_staletiers_k17_station_call_by_call
set_option Elab.async false
set_option linter.all false
set_option maxRecDepth 100000
/-! The data layer, part 1: data held by values, environments of data, steps. -/
namespace Dl
open PySem L2

abbrev Av := Addr → Prop
mutual
/-- the value holds the data; no list of it stands at an address of A -/
inductive Rp (A : Av) (H : Hp) : V → PyData → Prop
  | non : Rp A H .non .none
  | bl (b : Bool) : Rp A H (.bl b) (.bool b)
  | int (i : Int) : Rp A H (.int i) (.int i)
  | str (x : Str) : Rp A H (.str x) (.str x)
  | lst {a : Addr} {xs : List V} {ds : List PyData} : ¬ A a → H a = some (.lst xs) → RpAll A H xs ds → Rp A H (.ref a) (.list ds)
  | tup {a : Addr} {xs : List V} {ds : List PyData} : H a = some (.tup xs) → RpAll A H xs ds → Rp A H (.ref a) (.tuple ds)
inductive RpAll (A : Av) (H : Hp) : List V → List PyData → Prop
  | nil : RpAll A H [] []
  | cons {v : V} {vs : List V} {d : PyData} {ds : List PyData} : Rp A H v d → RpAll A H vs ds → RpAll A H (v :: vs) (d :: ds)
end

/-- what lists and tuples need to pass from one heap to another -/
structure Pass (A A' : Av) (H H' : Hp) : Prop where
  l : ∀ a xs, ¬ A a → H a = some (.lst xs) → ¬ A' a ∧ H' a = some (.lst xs)
  t : ∀ a xs, H a = some (.tup xs) → H' a = some (.tup xs)

mutual
theorem Rp.pass {A A' : Av} {H H' : Hp} (p : Pass A A' H H') : ∀ (d : PyData) (v : V), Rp A H v d → Rp A' H' v d
  | .none, _, h => by cases h; exact .non
  | .bool b, _, h => by cases h; exact .bl b
  | .int i, _, h => by cases h; exact .int i
  | .str x, _, h => by cases h; exact .str x
  | .list ds, _, h => by
    cases h with
    | lst na e r => exact .lst (p.l _ _ na e).1 (p.l _ _ na e).2 (RpAll.pass p ds _ r)
  | .tuple ds, _, h => by
    cases h with
    | tup e r => exact .tup (p.t _ _ e) (RpAll.pass p ds _ r)
  | .dict _, _, h => by cases h
theorem RpAll.pass {A A' : Av} {H H' : Hp} (p : Pass A A' H H') : ∀ (ds : List PyData) (vs : List V), RpAll A H vs ds → RpAll A' H' vs ds
  | [], _, h => by cases h; exact .nil
  | d :: ds, _, h => by
    cases h with
    | cons h1 h2 => exact .cons (Rp.pass p d _ h1) (RpAll.pass p ds _ h2)
end

theorem RpAll.len {A : Av} {H : Hp} : ∀ {vs : List V} {ds : List PyData}, RpAll A H vs ds → vs.length = ds.length
  | _, _, .nil => rfl
  | _, _, .cons _ h => by simp [RpAll.len h]
theorem RpAll.get {A : Av} {H : Hp} : ∀ {vs : List V} {ds : List PyData} {i : Nat} {d : PyData}, RpAll A H vs ds → ds[i]? = some d → ∃ v, vs[i]? = some v ∧ Rp A H v d
  | _, _, _, _, .nil, e => by simp at e
  | _, _, 0, _, .cons h _, e => by simp at e; subst e; exact ⟨_, rfl, h⟩
  | _, _, i + 1, _, .cons _ h, e => by simpa using RpAll.get h (by simpa using e)
theorem RpAll.app {A : Av} {H : Hp} : ∀ {vs : List V} {ds : List PyData} {ws : List V} {es : List PyData}, RpAll A H vs ds → RpAll A H ws es → RpAll A H (vs ++ ws) (ds ++ es)
  | _, _, _, _, .nil, h => h
  | _, _, _, _, .cons h1 h2, h => .cons h1 (RpAll.app h2 h)
theorem RpAll.take {A : Av} {H : Hp} : ∀ (n : Nat) {vs : List V} {ds : List PyData}, RpAll A H vs ds → RpAll A H (vs.take n) (ds.take n)
  | 0, _, _, _ => by simpa using RpAll.nil
  | n + 1, _, _, .nil => by simpa using RpAll.nil
  | n + 1, _, _, .cons h1 h2 => by simpa using RpAll.cons h1 (RpAll.take n h2)
theorem RpAll.drop {A : Av} {H : Hp} : ∀ (n : Nat) {vs : List V} {ds : List PyData}, RpAll A H vs ds → RpAll A H (vs.drop n) (ds.drop n)
  | 0, _, _, h => by simpa using h
  | n + 1, _, _, .nil => by simpa using RpAll.nil
  | n + 1, _, _, .cons h1 h2 => by simpa using RpAll.drop n h2
theorem RpAll.set {A : Av} {H : Hp} {v : V} {d : PyData} (hv : Rp A H v d) : ∀ (n : Nat) {vs : List V} {ds : List PyData}, RpAll A H vs ds → RpAll A H (vs.set n v) (ds.set n d)
  | _, _, _, .nil => by simpa using RpAll.nil
  | 0, _, _, .cons h1 h2 => by simpa using RpAll.cons hv h2
  | n + 1, _, _, .cons h1 h2 => by simpa using RpAll.cons h1 (RpAll.set hv n h2)
theorem RpAll.rep {A : Av} {H : Hp} : ∀ (n : Nat) {vs : List V} {ds : List PyData}, RpAll A H vs ds → RpAll A H (List.replicate n vs).flatten (List.replicate n ds).flatten
  | 0, _, _, _ => by simpa using RpAll.nil
  | n + 1, _, _, h => by simpa [List.replicate_succ] using RpAll.app h (RpAll.rep n h)
theorem RpAll.rev {A : Av} {H : Hp} : ∀ {vs : List V} {ds : List PyData}, RpAll A H vs ds → RpAll A H vs.reverse ds.reverse
  | _, _, .nil => by simpa using RpAll.nil
  | _, _, .cons h1 h2 => by simpa using RpAll.app (RpAll.rev h2) (.cons h1 .nil)
theorem RpAll.ints {A : Av} {H : Hp} : ∀ {vs : List V} {ns : List Int}, RpAll A H vs (ns.map PyData.int) → vs = ns.map V.int
  | _, [], h => by cases h; rfl
  | _, n :: ns, h => by
    cases h with
    | cons h1 h2 =>
      cases h1
      rw [RpAll.ints h2]
      rfl
theorem RpAll.ofInts {A : Av} {H : Hp} : ∀ (ns : List Int), RpAll A H (ns.map V.int) (ns.map PyData.int)
  | [] => .nil
  | n :: ns => .cons (.int n) (RpAll.ofInts ns)
theorem RpAll.bls {A : Av} {H : Hp} : ∀ {vs : List V} {ns : List Bool}, RpAll A H vs (ns.map PyData.bool) → vs = ns.map V.bl
  | _, [], h => by cases h; rfl
  | _, n :: ns, h => by
    cases h with
    | cons h1 h2 =>
      cases h1
      rw [RpAll.bls h2]
      rfl

mutual
theorem Rp.dp {K : PySem.W.Frag} {A : Av} {H : Hp} : ∀ (d : PyData) (v : V), Rp A H v d → Dp K H v d
  | .none, _, h => by cases h; exact .non
  | .bool b, _, h => by cases h; exact .bl b
  | .int i, _, h => by cases h; exact .int i
  | .str x, _, h => by cases h; exact .str x
  | .list ds, _, h => by
    cases h with
    | lst na e r => exact .lst (SqL.of e) (RpAll.dp ds _ r)
  | .tuple ds, _, h => by
    cases h with
    | tup e r => exact .tup (SqT.of e) (RpAll.dp ds _ r)
  | .dict _, _, h => by cases h
theorem RpAll.dp {K : PySem.W.Frag} {A : Av} {H : Hp} : ∀ (ds : List PyData) (vs : List V), RpAll A H vs ds → DpAll K H vs ds
  | [], _, h => by cases h; exact .nil
  | d :: ds, _, h => by
    cases h with
    | cons h1 h2 => exact .cons (Rp.dp d _ h1) (RpAll.dp ds _ h2)
end

/-- a key as data -/
def keyD : Key → PyData
  | .inl i => .int i
  | .inr x => .str x
def PairK (A : Av) (H : Hp) (kv : List (Key × V)) (ds : List (PyData × PyData)) : Prop := Paired (fun (q : Key × V) (r : PyData × PyData) => r.1 = keyD q.1 ∧ Rp A H q.2 r.2) kv ds
def PairT (A : Av) (H : Hp) (kv : List (List Key × V)) (ds : List (PyData × PyData)) : Prop := Paired (fun (q : List Key × V) (r : PyData × PyData) => r.1 = .tuple (q.1.map keyD) ∧ Rp A H q.2 r.2) kv ds
/-- a list, a dict that stands at p, its contents held -/
def Hold (A : Av) (H : Hp) (p : Addr) : PyData → Prop
  | .list ds => ∃ xs, H p = some (.lst xs) ∧ RpAll A H xs ds
  | .dict kvs => (∃ kv, H p = some (.dK kv) ∧ PairK A H kv kvs) ∨ ∃ kv r, kvs = (.none, .none) :: r ∧ H p = some (.dT kv) ∧ PairT A H kv r
  | _ => False
theorem Paired.map2 {α β : Type} {F G : α → β → Prop} : ∀ {l₁ : List α} {l₂ : List β}, Paired F l₁ l₂ → (∀ a b, F a b → G a b) → Paired G l₁ l₂
  | _, _, .nil, _ => .nil
  | _, _, .cons r t, f => .cons (f _ _ r) (Paired.map2 t f)
theorem Hold.pass {A A' : Av} {H H' : Hp} {p : Addr} (ps : Pass A A' H H') (e : H' p = H p) : ∀ {d : PyData}, Hold A H p d → Hold A' H' p d := fun {d} h => by
  cases d with
  | list ds =>
    obtain ⟨xs, e1, r⟩ := h
    exact ⟨xs, e.trans e1, RpAll.pass ps _ _ r⟩
  | dict kvs =>
    rcases h with ⟨kv, e1, r⟩ | ⟨kv, rr, er, e1, r⟩
    · exact .inl ⟨kv, e.trans e1, Paired.map2 r fun a b z => ⟨z.1, Rp.pass ps _ _ z.2⟩⟩
    · exact .inr ⟨kv, rr, er, e.trans e1, Paired.map2 r fun a b z => ⟨z.1, Rp.pass ps _ _ z.2⟩⟩
  | _ => exact h.elim
theorem Hold.some {A : Av} {H : Hp} {p : Addr} {d : PyData} (h : Hold A H p d) : ∃ o, H p = some o ∧ ∀ xs, o ≠ .tup xs := by
  cases d with
  | list ds =>
    obtain ⟨xs, e1, r⟩ := h
    exact ⟨_, e1, fun _ z => nomatch z⟩
  | dict kvs =>
    rcases h with ⟨kv, e1, r⟩ | ⟨kv, rr, er, e1, r⟩
    · exact ⟨_, e1, fun _ z => nomatch z⟩
    · exact ⟨_, e1, fun _ z => nomatch z⟩
  | _ => exact h.elim

/-! ### slots -/
inductive Sl where
  | fz (d : PyData) | ow (d : PyData) | io (d : PyData)
def Sl.dat : Sl → PyData
  | .fz d => d
  | .ow d => d
  | .io d => d
def Sl.own : Sl → Bool
  | .fz _ => false
  | _ => true
/-- the same kind of slot, other data -/
def Sl.with : Sl → PyData → Sl
  | .fz _, d => .fz d
  | .ow _, d => .ow d
  | .io _, d => .io d
abbrev DEnv := List (Option Sl)
/-- the addresses that the slots own -/
def Ow (σ : L2.St) (ρ : DEnv) : Av := fun p => ∃ (i : Nat) (s : Sl), ρ[i]? = some (some s) ∧ s.own = true ∧ σ[i]? = some (some (V.ref p))
def Al (B : Av) (σ : L2.St) (ρ : DEnv) : Av := fun p => B p ∨ Ow σ ρ p
def bor (B : Av) (p : Addr) : Av := fun a => B a ∨ a = p

/-- fixed through a def's run: the heap at its entry, the values of the parameters that are changed in place -/
structure Fx where
  h : Hp
  ia : Nat → V
structure Rel (H0 : Fx) (B : Av) (σ : L2.St) (H : Hp) (ρ : DEnv) : Prop where
  len : σ.length = ρ.length
  fz : ∀ (i : Nat) d, ρ[i]? = some (some (Sl.fz d)) → ∃ v, σ[i]? = some (some v) ∧ Rp (Al B σ ρ) H v d
  own : ∀ (i : Nat) (s : Sl), ρ[i]? = some (some s) → s.own = true → ∃ p, σ[i]? = some (some (V.ref p)) ∧ Hold (Al B σ ρ) H p s.dat
  mine : ∀ (i : Nat) (d : PyData) (p : Addr), ρ[i]? = some (some (Sl.ow d)) → σ[i]? = some (some (V.ref p)) → H0.h p = none ∧ ¬ B p
  ne : ∀ (i j : Nat) (s t : Sl) (p : Addr), ρ[i]? = some (some s) → s.own = true → ρ[j]? = some (some t) → t.own = true → σ[i]? = some (some (V.ref p)) → σ[j]? = some (some (V.ref p)) → i = j
  dom : ∀ b, H b = none → H0.h b = none
  ioa : ∀ (i : Nat) (d : PyData), ρ[i]? = some (some (Sl.io d)) → σ[i]? = some (some (H0.ia i))
  bdom : ∀ b, B b → H b ≠ none

structure Stp (σ : L2.St) (ρ : DEnv) (H : Hp) (σ' : L2.St) (ρ' : DEnv) (H' : Hp) : Prop where
  keep : ∀ b o, H b = some o → ¬ Ow σ ρ b → H' b = some o
  dom : ∀ b, H' b = none → H b = none
  tup : ∀ b xs, H b = some (.tup xs) → H' b = some (.tup xs)
  own : ∀ p, Ow σ' ρ' p → Ow σ ρ p ∨ H p = none
theorem Stp.refl {σ : L2.St} {ρ : DEnv} {H : Hp} : Stp σ ρ H σ ρ H := ⟨fun _ _ h _ => h, fun _ h => h, fun _ _ h => h, fun _ h => .inl h⟩
theorem Stp.trans {σ σ1 σ2 : L2.St} {ρ ρ1 ρ2 : DEnv} {H H1 H2 : Hp} (a : Stp σ ρ H σ1 ρ1 H1) (b : Stp σ1 ρ1 H1 σ2 ρ2 H2) : Stp σ ρ H σ2 ρ2 H2 where
  keep := fun c o h n => b.keep c o (a.keep c o h n) fun q => (a.own c q).elim n fun z => by rw [z] at h; cases h
  dom := fun c h => a.dom c (b.dom c h)
  tup := fun c xs h => b.tup c xs (a.tup c xs h)
  own := fun p h => (b.own p h).elim (fun z => a.own p z) fun z => .inr (a.dom p z)
/-- what passes along a step -/
theorem Stp.pass {B B' : Av} {σ σ' : L2.St} {ρ ρ' : DEnv} {H H' : Hp} (s : Stp σ ρ H σ' ρ' H') (hb : ∀ p, B' p → B p ∨ H p = none) : Pass (Al B σ ρ) (Al B' σ' ρ') H H' where
  l := fun a xs n e => by
    refine ⟨fun q => ?_, s.keep a _ e fun z => n (.inr z)⟩
    rcases q with q | q
    · rcases hb a q with z | z
      · exact n (.inl z)
      · rw [z] at e; cases e
    · rcases s.own a q with z | z
      · exact n (.inr z)
      · rw [z] at e; cases e
  t := s.tup

/-- the heap has grown by new objects alone -/
structure Grow (H H' : Hp) : Prop where
  keep : ∀ b o, H b = some o → H' b = some o
theorem Grow.refl {H : Hp} : Grow H H := ⟨fun _ _ h => h⟩
theorem Grow.trans {H H1 H2 : Hp} (a : Grow H H1) (b : Grow H1 H2) : Grow H H2 := ⟨fun c o h => b.keep c o (a.keep c o h)⟩
theorem Grow.dom {H H' : Hp} (g : Grow H H') : ∀ b, H' b = none → H b = none := fun b h => by
  cases e : H b with
  | none => rfl
  | some o => rw [g.keep b o e] at h; cases h
theorem Grow.new {H : Hp} {p : Addr} {o : HO} (h : H p = none) : Grow H (upd H p o) := ⟨fun a u e => by
  rw [upd_ne (ne_of_none e h)]
  exact e⟩
theorem Grow.stp {σ : L2.St} {ρ : DEnv} {H H' : Hp} (g : Grow H H') : Stp σ ρ H σ ρ H' := ⟨fun b o h _ => g.keep b o h, g.dom, fun b xs h => g.keep b _ h, fun _ h => .inl h⟩
theorem Grow.pass {A A' : Av} {H H' : Hp} (g : Grow H H') (ha : ∀ p, A' p → A p ∨ H p = none) : Pass A A' H H' where
  l := fun a xs n e => by
    refine ⟨fun q => ?_, g.keep a _ e⟩
    rcases ha a q with z | z
    · exact n z
    · rw [z] at e; cases e
  t := fun a xs e => g.keep a _ e
theorem Rel.grow {H0 : Fx} {B : Av} {σ : L2.St} {H H' : Hp} {ρ : DEnv} (R : Rel H0 B σ H ρ) (g : Grow H H') : Rel H0 B σ H' ρ where
  len := R.len
  fz := fun i d h => let ⟨v, h1, h2⟩ := R.fz i d h; ⟨v, h1, Rp.pass (g.pass fun _ z => .inl z) _ _ h2⟩
  own := fun i s h ho => let ⟨p, h1, h2⟩ := R.own i s h ho; ⟨p, h1, by
    obtain ⟨o, eo, _⟩ := h2.some
    exact h2.pass (g.pass fun _ z => .inl z) ((g.keep p o eo).trans eo.symm)⟩
  mine := R.mine
  ne := R.ne
  dom := fun b h => R.dom b (g.dom b h)
  ioa := R.ioa
  bdom := fun b h e => R.bdom b h (g.dom b e)
/-- a smaller set to be avoided -/
theorem Rel.anti {H0 : Fx} {B B' : Av} {σ : L2.St} {H : Hp} {ρ : DEnv} (R : Rel H0 B σ H ρ) (hb : ∀ p, B' p → B p) : Rel H0 B' σ H ρ := by
  have ps : Pass (Al B σ ρ) (Al B' σ ρ) H H := ⟨fun a xs n e => ⟨fun q => n (q.elim (fun z => .inl (hb a z)) .inr), e⟩, fun _ _ e => e⟩
  exact ⟨R.len, fun i d h => let ⟨v, h1, h2⟩ := R.fz i d h; ⟨v, h1, Rp.pass ps _ _ h2⟩, fun i s h ho => let ⟨p, h1, h2⟩ := R.own i s h ho; ⟨p, h1, h2.pass ps rfl⟩,
    fun i d p h h' => ⟨(R.mine i d p h h').1, fun z => (R.mine i d p h h').2 (hb p z)⟩, R.ne, R.dom, R.ioa, fun b h => R.bdom b (hb b h)⟩
/-- a new address to be avoided -/
theorem Rel.more {H0 : Fx} {B : Av} {σ : L2.St} {H H' : Hp} {ρ : DEnv} {p : Addr} (R : Rel H0 B σ H ρ) (g : Grow H H') (hp : H p = none) (hp' : H' p ≠ none) : Rel H0 (bor B p) σ H' ρ := by
  have ps : Pass (Al B σ ρ) (Al (bor B p) σ ρ) H H' := g.pass fun a q => by
    rcases q with (q | q) | q
    · exact .inl (.inl q)
    · exact .inr (by rw [q]; exact hp)
    · exact .inl (.inr q)
  refine ⟨R.len, fun i d h => let ⟨v, h1, h2⟩ := R.fz i d h; ⟨v, h1, Rp.pass ps _ _ h2⟩, fun i s h ho => let ⟨q, h1, h2⟩ := R.own i s h ho; ⟨q, h1, ?_⟩, fun i d q h h' => ⟨(R.mine i d q h h').1, fun z => ?_⟩, R.ne,
    fun b h => R.dom b (g.dom b h), R.ioa, fun b h e => ?_⟩
  · obtain ⟨o, eo, _⟩ := h2.some
    exact h2.pass ps ((g.keep q o eo).trans eo.symm)
  · rcases z with z | z
    · exact (R.mine i d q h h').2 z
    · subst z
      obtain ⟨q', e1, e2⟩ := R.own i _ h rfl
      rw [h'] at e1
      cases e1
      obtain ⟨o, eo, _⟩ := e2.some
      rw [hp] at eo
      cases eo
  · rcases h with h | h
    · exact R.bdom b h (g.dom b e)
    · subst h
      exact hp' e

/-! ### results -/
/-- data that may be stored anywhere; a new list or dict; what slot i holds; a new tuple whose first item is a new list -/
inductive Rs where
  | fz (d : PyData) | nw (d : PyData) | br (i : Nat) | np (ds : List PyData) (rest : List PyData)
def datAt (ρ : DEnv) (i : Nat) : PyData := match ρ[i]? with
  | some (some s) => s.dat
  | _ => .none
def Rs.dat (ρ : DEnv) : Rs → PyData
  | .fz d => d
  | .nw d => d
  | .br i => datAt ρ i
  | .np ds rest => .tuple (.list ds :: rest)
/-- as data that may be stored anywhere -/
def Rs.sto : Rs → Option PyData
  | .fz d => some d
  | .nw (.list ds) => some (.list ds)
  | .np ds rest => some (.tuple (.list ds :: rest))
  | _ => none
/-- a result that is carried -/
def Cv (B : Av) (σ : L2.St) (H : Hp) (ρ : DEnv) (v : V) : Rs → Prop
  | .fz d => Rp (Al B σ ρ) H v d
  | .nw d => ∃ p, v = .ref p ∧ ¬ Al B σ ρ p ∧ Hold (Al B σ ρ) H p d
  | .br i => σ[i]? = some (some v) ∧ ∃ s : Sl, ρ[i]? = some (some s)
  | .np ds rest => Rp (Al B σ ρ) H v (.tuple (.list ds :: rest))
def ResOk (Hs : Hp) (H0 : Fx) (B : Av) (σ : L2.St) (H : Hp) (ρ : DEnv) (v : V) : Rs → Prop
  | .fz d => Rp (Al B σ ρ) H v d
  | .nw d => ∃ p, v = .ref p ∧ Hs p = none ∧ ¬ B p ∧ ¬ Ow σ ρ p ∧ Hold (Al (bor B p) σ ρ) H p d ∧ Rel H0 (bor B p) σ H ρ
  | .br i => σ[i]? = some (some v) ∧ ∃ s : Sl, ρ[i]? = some (some s)
  | .np ds rest => ∃ T p xs, v = .ref T ∧ H T = some (.tup (.ref p :: xs)) ∧ Hs p = none ∧ ¬ B p ∧ ¬ Ow σ ρ p ∧ Hold (Al (bor B p) σ ρ) H p (.list ds) ∧ RpAll (Al (bor B p) σ ρ) H xs rest ∧ Rel H0 (bor B p) σ H ρ
theorem pass_bor {B : Av} {σ : L2.St} {ρ : DEnv} {H : Hp} {p : Addr} : Pass (Al (bor B p) σ ρ) (Al B σ ρ) H H := ⟨fun a xs n e => ⟨fun q => n (q.elim (fun z => .inl (.inl z)) .inr), e⟩, fun _ _ e => e⟩
theorem ResOk.back {Hs Hs' : Hp} {H0 : Fx} {B : Av} {σ : L2.St} {H : Hp} {ρ : DEnv} {v : V} (b : ∀ p, Hs p = none → Hs' p = none) : ∀ {r : Rs}, ResOk Hs H0 B σ H ρ v r → ResOk Hs' H0 B σ H ρ v r
  | .fz _, h => h
  | .br _, h => h
  | .nw d, h => let ⟨p, e, h0, r⟩ := h; ⟨p, e, b p h0, r⟩
  | .np ds rest, h => let ⟨T, p, xs, e, e2, h0, r⟩ := h; ⟨T, p, xs, e, e2, b p h0, r⟩
theorem ResOk.cv {Hs : Hp} {H0 : Fx} {B : Av} {σ : L2.St} {H : Hp} {ρ : DEnv} {v : V} : ∀ {r : Rs}, ResOk Hs H0 B σ H ρ v r → Cv B σ H ρ v r
  | .fz _, h => h
  | .br _, h => h
  | .nw d, h => by
    obtain ⟨p, e, _, nb, no, ho, _⟩ := h
    exact ⟨p, e, fun z => z.elim nb no, ho.pass pass_bor rfl⟩
  | .np ds rest, h => by
    obtain ⟨T, p, xs, e, e2, _, nb, no, ho, hr, _⟩ := h
    subst e
    obtain ⟨ys, h1, h2⟩ := ho
    exact .tup e2 (.cons (.lst (fun z => z.elim nb no) h1 (RpAll.pass pass_bor _ _ h2)) (RpAll.pass pass_bor _ _ hr))
/-- slots stay filled -/
def Keep (ρ ρ' : DEnv) : Prop := ∀ (i : Nat), (∃ s : Sl, ρ[i]? = some (some s)) → ∃ s : Sl, ρ'[i]? = some (some s)
theorem Keep.refl {ρ : DEnv} : Keep ρ ρ := fun _ h => h
theorem Keep.trans {ρ ρ1 ρ2 : DEnv} (a : Keep ρ ρ1) (b : Keep ρ1 ρ2) : Keep ρ ρ2 := fun i h => b i (a i h)
theorem Cv.step {B : Av} {σ : L2.St} {H H' : Hp} {ρ ρ' : DEnv} {v : V} (s : Stp σ ρ H σ ρ' H') (k : Keep ρ ρ') : ∀ {r : Rs}, Cv B σ H ρ v r → Cv B σ H' ρ' v r
  | .fz _, h => Rp.pass (s.pass fun _ z => .inl z) _ _ h
  | .br i, h => ⟨h.1, k i h.2⟩
  | .np _ _, h => Rp.pass (s.pass fun _ z => .inl z) _ _ h
  | .nw d, h => by
    obtain ⟨p, e, n, ho⟩ := h
    obtain ⟨o, eo, _⟩ := ho.some
    have n' : ¬ Ow σ ρ p := fun z => n (.inr z)
    refine ⟨p, e, fun z => ?_, ho.pass (s.pass fun _ z => .inl z) ((s.keep p o eo n').trans eo.symm)⟩
    rcases z with z | z
    · exact n (.inl z)
    · rcases s.own p z with q | q
      · exact n' q
      · rw [q] at eo; cases eo
/-- the value may be read as this data -/
def Vw (A : Av) (H : Hp) (v : V) (d : PyData) : Prop := Rp A H v d ∨ ∃ p, v = .ref p ∧ Hold A H p d
theorem Cv.vw {H0 : Fx} {B : Av} {σ : L2.St} {H : Hp} {ρ : DEnv} {v : V} (R : Rel H0 B σ H ρ) : ∀ {r : Rs}, Cv B σ H ρ v r → Vw (Al B σ ρ) H v (r.dat ρ)
  | .fz _, h => .inl h
  | .nw d, h => let ⟨p, e, _, ho⟩ := h; .inr ⟨p, e, ho⟩
  | .np _ _, h => .inl h
  | .br i, h => by
    obtain ⟨h1, s, h2⟩ := h
    have e : Rs.dat ρ (.br i) = s.dat := by
      show datAt ρ i = s.dat
      unfold datAt
      rw [h2]
    rw [e]
    cases hs : s.own with
    | true =>
      obtain ⟨p, e1, e2⟩ := R.own i s h2 hs
      rw [h1] at e1
      cases e1
      exact .inr ⟨p, rfl, e2⟩
    | false =>
      cases s with
      | fz d =>
        obtain ⟨v', e1, e2⟩ := R.fz i d h2
        rw [h1] at e1
        cases e1
        exact .inl e2
      | ow d => cases hs
      | io d => cases hs
/-- a result that may be stored anywhere -/
theorem Cv.sto {B : Av} {σ : L2.St} {H : Hp} {ρ : DEnv} {v : V} {d : PyData} : ∀ {r : Rs}, Cv B σ H ρ v r → r.sto = some d → Rp (Al B σ ρ) H v d
  | .fz _, h, e => by cases e; exact h
  | .nw d', h, e => by
    obtain ⟨p, e1, n, ho⟩ := h
    subst e1
    cases d' with
    | list ds =>
      cases e
      obtain ⟨xs, e2, r⟩ := ho
      exact .lst n e2 r
    | _ => cases e
  | .br _, _, e => by cases e
  | .np _ _, h, e => by cases e; exact h
theorem Vw.lst {A : Av} {H : Hp} {v : V} {ds : List PyData} (h : Vw A H v (.list ds)) : ∃ p xs, v = .ref p ∧ H p = some (.lst xs) ∧ RpAll A H xs ds := by
  rcases h with h | ⟨p, e, xs, h1, h2⟩
  · cases h with
    | lst _ e r => exact ⟨_, _, rfl, e, r⟩
  · exact ⟨p, xs, e, h1, h2⟩
theorem Vw.tup {A : Av} {H : Hp} {v : V} {ds : List PyData} (h : Vw A H v (.tuple ds)) : ∃ p xs, v = .ref p ∧ H p = some (.tup xs) ∧ RpAll A H xs ds := by
  rcases h with h | ⟨p, e, h⟩
  · cases h with
    | tup e r => exact ⟨_, _, rfl, e, r⟩
  · exact h.elim
theorem Vw.int {A : Av} {H : Hp} {v : V} {i : Int} (h : Vw A H v (.int i)) : v = .int i := by
  rcases h with h | ⟨p, e, h⟩
  · cases h; rfl
  · exact h.elim
theorem Vw.bl {A : Av} {H : Hp} {v : V} {i : Bool} (h : Vw A H v (.bool i)) : v = .bl i := by
  rcases h with h | ⟨p, e, h⟩
  · cases h; rfl
  · exact h.elim
theorem Vw.non {A : Av} {H : Hp} {v : V} (h : Vw A H v .none) : v = .non := by
  rcases h with h | ⟨p, e, h⟩
  · cases h; rfl
  · exact h.elim
theorem Vw.str {A : Av} {H : Hp} {v : V} {i : Str} (h : Vw A H v (.str i)) : v = .str i := by
  rcases h with h | ⟨p, e, h⟩
  · cases h; rfl
  · exact h.elim
theorem Vw.dp {K : PySem.W.Frag} {A : Av} {H : Hp} {v : V} {d : PyData} (h : Vw A H v d) (nd : ∀ kvs, d ≠ .dict kvs) : Dp K H v d := by
  rcases h with h | ⟨p, e, h⟩
  · exact Rp.dp _ _ h
  · subst e
    cases d with
    | list ds =>
      obtain ⟨xs, h1, h2⟩ := h
      exact .lst (SqL.of h1) (RpAll.dp _ _ h2)
    | dict kvs => exact (nd kvs rfl).elim
    | _ => exact h.elim

/-! ### readings at the level of data -/
abbrev DE := DEnv → (Rs → DEnv → Prop) → Prop
abbrev DT := DEnv → (Bool → DEnv → Prop) → Prop
abbrev DA := DEnv → (List Rs → DEnv → Prop) → Prop
structure DEnds where
  nx : DEnv → Prop
  rt : Rs → DEnv → Prop
  bk : DEnv → Prop := fun _ => False
  ct : DEnv → Prop := fun _ => False
abbrev DS := DEnds → DEnv → Prop
abbrev DG := PyData → DEnv → (DEnv → Prop) → Prop
abbrev DGs := List PyData → DEnv → (DEnv → Prop) → Prop

def SimE (te : TE) (de : DE) : Prop := ∀ (H0 : Fx) (B : Av) (σ : L2.St) (H : Hp) (ρ : DEnv) (Q : VK) (QD : Rs → DEnv → Prop), Rel H0 B σ H ρ → de ρ QD →
  (∀ r ρ' v H', Rel H0 B σ H' ρ' → Stp σ ρ H σ ρ' H' → Keep ρ ρ' → ResOk H H0 B σ H' ρ' v r → QD r ρ' → Q v H') → te σ H Q
def SimT (tt : TT) (dt : DT) : Prop := ∀ (H0 : Fx) (B : Av) (σ : L2.St) (H : Hp) (ρ : DEnv) (Q : Bool → Hp → Prop) (QD : Bool → DEnv → Prop), Rel H0 B σ H ρ → dt ρ QD →
  (∀ b ρ' H', Rel H0 B σ H' ρ' → Stp σ ρ H σ ρ' H' → Keep ρ ρ' → QD b ρ' → Q b H') → tt σ H Q
def CvAll (B : Av) (σ : L2.St) (H : Hp) (ρ : DEnv) : List V → List Rs → Prop
  | [], [] => True
  | v :: vs, r :: rs => Cv B σ H ρ v r ∧ CvAll B σ H ρ vs rs
  | _, _ => False
def SimA (ta : TA) (da : DA) : Prop := ∀ (H0 : Fx) (B : Av) (σ : L2.St) (H : Hp) (ρ : DEnv) (Q : List V → Hp → Prop) (QD : List Rs → DEnv → Prop), Rel H0 B σ H ρ → da ρ QD →
  (∀ rs ρ' vs H', Rel H0 B σ H' ρ' → Stp σ ρ H σ ρ' H' → Keep ρ ρ' → CvAll B σ H' ρ' vs rs → QD rs ρ' → Q vs H') → ta σ H Q
structure EndsOk (H0 : Fx) (B : Av) (σ : L2.St) (H : Hp) (ρ : DEnv) (D : Ends) (DD : DEnds) : Prop where
  nx : ∀ σ' H' ρ', Rel H0 B σ' H' ρ' → Stp σ ρ H σ' ρ' H' → DD.nx ρ' → D.nx σ' H'
  bk : ∀ σ' H' ρ', Rel H0 B σ' H' ρ' → Stp σ ρ H σ' ρ' H' → DD.bk ρ' → D.bk σ' H'
  ct : ∀ σ' H' ρ', Rel H0 B σ' H' ρ' → Stp σ ρ H σ' ρ' H' → DD.ct ρ' → D.ct σ' H'
  rt : ∀ r ρ' v σ' H', Rel H0 B σ' H' ρ' → Stp σ ρ H σ' ρ' H' → ResOk H0.h H0 B σ' H' ρ' v r → DD.rt r ρ' → D.rt v H'
def SimS (ts : TS) (ds : DS) : Prop := ∀ (H0 : Fx) (B : Av) (σ : L2.St) (H : Hp) (ρ : DEnv) (D : Ends) (DD : DEnds), Rel H0 B σ H ρ → ds DD ρ → EndsOk H0 B σ H ρ D DD → ts D σ H
/-- targets take data that may be stored anywhere -/
def SimG (tg : TG) (dg : DG) : Prop := ∀ (H0 : Fx) (B : Av) (σ : L2.St) (H : Hp) (ρ : DEnv) (v : V) (d : PyData) (Q : L2.St → Hp → Prop) (QD : DEnv → Prop), Rel H0 B σ H ρ → Rp (Al B σ ρ) H v d → dg d ρ QD →
  (∀ σ' H' ρ', Rel H0 B σ' H' ρ' → Stp σ ρ H σ' ρ' H' → Keep ρ ρ' → QD ρ' → Q σ' H') → tg v σ H Q
def SimGs (tg : TGs) (dg : DGs) : Prop := ∀ (H0 : Fx) (B : Av) (σ : L2.St) (H : Hp) (ρ : DEnv) (vs : List V) (ds : List PyData) (Q : L2.St → Hp → Prop) (QD : DEnv → Prop), Rel H0 B σ H ρ → RpAll (Al B σ ρ) H vs ds → dg ds ρ QD →
  (∀ σ' H' ρ', Rel H0 B σ' H' ρ' → Stp σ ρ H σ' ρ' H' → Keep ρ ρ' → QD ρ' → Q σ' H') → tg vs σ H Q

theorem CvAll.step {B : Av} {σ : L2.St} {H H' : Hp} {ρ ρ' : DEnv} (s : Stp σ ρ H σ ρ' H') (k : Keep ρ ρ') : ∀ {vs : List V} {rs : List Rs}, CvAll B σ H ρ vs rs → CvAll B σ H' ρ' vs rs
  | [], [], _ => trivial
  | _ :: _, _ :: _, h => ⟨h.1.step s k, CvAll.step s k h.2⟩
  | [], _ :: _, h => h.elim
  | _ :: _, [], h => h.elim

/-! ### judgements -/
def PD (X : Cx) (e : Expr) (de : DE) : Prop := ∃ te, PE X e te ∧ SimE te de
def PTD (X : Cx) (e : Expr) (dt : DT) : Prop := ∃ tt, PT X e tt ∧ SimT tt dt
def PWD (X : Cx) (e : Expr) (dt : DT) : Prop := ∃ tt, PW X e tt ∧ SimT tt dt
def PAD (X : Cx) (es : List Expr) (da : DA) : Prop := ∃ ta, PA X es ta ∧ SimA ta da
def PSD (X : Cx) (st : Stmt) (ds : DS) : Prop := ∃ ts, PS X st ts ∧ SimS ts ds
def PSsD (X : Cx) (st : List Stmt) (ds : DS) : Prop := ∃ ts, PSs X st ts ∧ SimS ts ds
def PGD (X : Cx) (e : Expr) (dg : DG) : Prop := ∃ tg, PG X e tg ∧ SimG tg dg
def PGsD (X : Cx) (e : List Expr) (dg : DGs) : Prop := ∃ tg, PGs X e tg ∧ SimGs tg dg
end Dl
set_option Elab.async false
set_option linter.all false
set_option maxRecDepth 100000
set_option maxHeartbeats 4000000
/-! The data layer, part 2: expressions. -/
namespace Dl
open PySem L2

theorem sz5 {n : Nat} (h : n ≤ 100000) : n ≤ sizeLine := Nat.le_trans h (by decide)
theorem sz5' {n : Nat} (h : n < 100000) : n < sizeLine := Nat.lt_of_lt_of_le h (by decide)

/-! ### results of an operation -/
def ResV (A : Av) (H H' : Hp) (v : V) : Rs → Prop
  | .fz d => Rp A H' v d
  | .nw d => ∃ p, v = .ref p ∧ H p = none ∧ H' p ≠ none ∧ Hold (bor A p) H' p d
  | .br _ => False
  | .np ds rest => ∃ T p xs, v = .ref T ∧ H' T = some (.tup (.ref p :: xs)) ∧ H p = none ∧ H' p ≠ none ∧ Hold (bor A p) H' p (.list ds) ∧ RpAll (bor A p) H' xs rest
theorem ResV.fzg {A : Av} {H H' : Hp} {v : V} {d : PyData} (h : Rp A H v d) (g : Grow H H') : ResV A H H' v (.fz d) := Rp.pass (g.pass fun _ z => .inl z) _ _ h
theorem Rel.adom {H0 : Fx} {B : Av} {σ : L2.St} {H : Hp} {ρ : DEnv} (R : Rel H0 B σ H ρ) : ∀ p, Al B σ ρ p → H p ≠ none := fun p h => by
  rcases h with h | ⟨i, s, h1, h2, h3⟩
  · exact R.bdom p h
  · obtain ⟨q, e1, e2⟩ := R.own i s h1 h2
    rw [h3] at e1
    cases e1
    obtain ⟨o, eo, _⟩ := e2.some
    rw [eo]
    exact fun z => nomatch z
theorem resOk_of {H0 : Fx} {B : Av} {σ : L2.St} {H H' : Hp} {ρ : DEnv} {v : V} (R : Rel H0 B σ H ρ) (g : Grow H H') : ∀ {r : Rs}, ResV (Al B σ ρ) H H' v r → ResOk H H0 B σ H' ρ v r
  | .fz _, h => h
  | .br _, h => h.elim
  | .nw d, h => by
    obtain ⟨p, e, hn, hn', ho⟩ := h
    have ps : Pass (bor (Al B σ ρ) p) (Al (bor B p) σ ρ) H' H' := ⟨fun a xs n e => ⟨fun q => n (by
      rcases q with (q | q) | q
      · exact .inl (.inl q)
      · exact .inr q
      · exact .inl (.inr q)), e⟩, fun _ _ e => e⟩
    exact ⟨p, e, hn, fun z => R.bdom p z hn, fun z => R.adom p (.inr z) hn, ho.pass ps rfl, R.more g hn hn'⟩
  | .np ds rest, h => by
    obtain ⟨T, p, xs, e, e2, hn, hn', ho, hr⟩ := h
    have ps : Pass (bor (Al B σ ρ) p) (Al (bor B p) σ ρ) H' H' := ⟨fun a xs n e => ⟨fun q => n (by
      rcases q with (q | q) | q
      · exact .inl (.inl q)
      · exact .inr q
      · exact .inl (.inr q)), e⟩, fun _ _ e => e⟩
    exact ⟨T, p, xs, e, e2, hn, fun z => R.bdom p z hn, fun z => R.adom p (.inr z) hn, ho.pass ps rfl, RpAll.pass ps _ _ hr, R.more g hn hn'⟩

/-! ### names, constants -/
def dVar (i : Nat) : DE := fun ρ Q => match ρ[i]? with
  | some (some (.fz d)) => Q (.fz d) ρ
  | some (some _) => Q (.br i) ρ
  | _ => False
/-- the slot is given up as one's own -/
def dVarR (i : Nat) : DE := fun ρ Q => match ρ[i]? with
  | some (some (.io _)) => False
  | some (some s) => (∀ kvs, s.dat ≠ .dict kvs) ∧ Q (.fz s.dat) (ρ.set i (some (.fz s.dat)))
  | _ => False
def dC (d : PyData) : DE := fun ρ Q => Q (.fz d) ρ
theorem simE_var {i : Nat} : SimE (tVar i) (dVar i) := fun H0 B σ H ρ Q QD R h k => by
  unfold dVar at h
  split at h
  · rename_i d e
    obtain ⟨v, h1, h2⟩ := R.fz i d e
    exact ⟨v, h1, k (.fz d) ρ v H R .refl .refl h2 h⟩
  · rename_i s ne e
    cases hs : s.own with
    | false =>
      cases s with
      | fz d => exact (ne d rfl).elim
      | ow d => cases hs
      | io d => cases hs
    | true =>
      obtain ⟨p, h1, h2⟩ := R.own i _ e hs
      exact ⟨_, h1, k (.br i) ρ _ H R .refl .refl ⟨h1, _, e⟩ h⟩
  · exact h.elim
theorem set_get_self {ρ : DEnv} {i : Nat} {s t : Option Sl} (h : ρ[i]? = some t) : (ρ.set i s)[i]? = some s := by
  obtain ⟨hl, _⟩ := List.getElem?_eq_some_iff.mp h
  rw [List.getElem?_set_self hl]
/-- giving up -/
theorem Rel.give {H0 : Fx} {B : Av} {σ : L2.St} {H : Hp} {ρ : DEnv} {i : Nat} {d : PyData} (R : Rel H0 B σ H ρ) (e : ρ[i]? = some (some (.ow d))) (nd : ∀ kvs, d ≠ .dict kvs) :
    Rel H0 B σ H (ρ.set i (some (.fz d))) ∧ Stp σ ρ H σ (ρ.set i (some (.fz d))) H ∧ ∃ p, σ[i]? = some (some (V.ref p)) ∧ Rp (Al B σ (ρ.set i (some (.fz d)))) H (.ref p) d := by
  obtain ⟨p, h1, h2⟩ := R.own i _ e rfl
  have sub : ∀ q, Ow σ (ρ.set i (some (.fz d))) q → Ow σ ρ q ∧ q ≠ p := fun q ⟨j, s, a, b, c⟩ => by
    by_cases hj : i = j
    · subst hj
      rw [set_get_self e] at a
      cases a
      cases b
    · rw [List.getElem?_set_ne hj] at a
      refine ⟨⟨j, s, a, b, c⟩, fun z => ?_⟩
      subst z
      exact hj (R.ne i j _ s q e rfl a b h1 c)
  have ps : Pass (Al B σ ρ) (Al B σ (ρ.set i (some (.fz d)))) H H := ⟨fun a xs n e => ⟨fun q => n (q.elim .inl fun z => .inr (sub a z).1), e⟩, fun _ _ e => e⟩
  have np : ¬ Al B σ (ρ.set i (some (.fz d))) p := fun z => z.elim (R.mine i d p e h1).2 fun z => (sub p z).2 rfl
  have rp : Rp (Al B σ (ρ.set i (some (.fz d)))) H (.ref p) d := by
    cases d with
    | list ds =>
      obtain ⟨xs, e1, r⟩ := h2
      exact .lst np e1 (RpAll.pass ps _ _ r)
    | dict kvs => exact (nd kvs rfl).elim
    | _ => exact h2.elim
  refine ⟨⟨by simp [R.len], fun j d' a => ?_, fun j s a b => ?_, fun j d' q a b => ?_, fun j j' s t q a b a' b' c c' => ?_, R.dom, fun j d' a => ?_, R.bdom⟩, ⟨fun _ _ h _ => h, fun _ h => h, fun _ _ h => h, fun q z => .inl (sub q z).1⟩, p, h1, rp⟩
  · by_cases hj : i = j
    · subst hj
      rw [set_get_self e] at a
      cases a
      exact ⟨_, h1, rp⟩
    · rw [List.getElem?_set_ne hj] at a
      obtain ⟨v, c1, c2⟩ := R.fz j d' a
      exact ⟨v, c1, Rp.pass ps _ _ c2⟩
  · by_cases hj : i = j
    · subst hj
      rw [set_get_self e] at a
      cases a
      cases b
    · rw [List.getElem?_set_ne hj] at a
      obtain ⟨q, c1, c2⟩ := R.own j s a b
      exact ⟨q, c1, c2.pass ps rfl⟩
  · by_cases hj : i = j
    · subst hj
      rw [set_get_self e] at a
      cases a
    · rw [List.getElem?_set_ne hj] at a
      exact R.mine j d' q a b
  · by_cases hj : i = j
    · subst hj
      rw [set_get_self e] at a
      cases a
      cases b
    · by_cases hj' : i = j'
      · subst hj'
        rw [set_get_self e] at a'
        cases a'
        cases b'
      · rw [List.getElem?_set_ne hj] at a
        rw [List.getElem?_set_ne hj'] at a'
        exact R.ne j j' s t q a b a' b' c c'
  · by_cases hj : i = j
    · subst hj
      rw [set_get_self e] at a
      cases a
    · rw [List.getElem?_set_ne hj] at a
      exact R.ioa j d' a
theorem Keep.set {ρ : DEnv} {i : Nat} {s : Sl} : Keep ρ (ρ.set i (some s)) := fun j ⟨t, h⟩ => by
  by_cases hj : i = j
  · subst hj
    exact ⟨s, set_get_self h⟩
  · exact ⟨t, by rw [List.getElem?_set_ne hj]; exact h⟩
theorem set_same {ρ : DEnv} {i : Nat} {s : Option Sl} (h : ρ[i]? = some s) : ρ.set i s = ρ := by
  obtain ⟨hl, e⟩ := List.getElem?_eq_some_iff.mp h
  rw [← e]
  exact List.set_getElem_self hl
theorem simE_varR {i : Nat} : SimE (tVar i) (dVarR i) := fun H0 B σ H ρ Q QD R h k => by
  unfold dVarR at h
  split at h
  · exact h.elim
  · rename_i s ne e
    cases s with
    | io d => exact (ne d rfl).elim
    | fz d =>
      obtain ⟨v, h1, h2⟩ := R.fz i d e
      have e2 : ρ.set i (some (.fz d)) = ρ := set_same e
      refine ⟨v, h1, k (.fz d) ρ v H R .refl .refl h2 ?_⟩
      have h3 := h.2
      rw [show (Sl.fz d).dat = d from rfl, e2] at h3
      exact h3
    | ow d =>
      obtain ⟨R', S', p, h1, h2⟩ := R.give e h.1
      exact ⟨_, h1, k (.fz d) _ _ H R' S' Keep.set h2 h.2⟩
  · exact h.elim
theorem simE_c {v : V} {d : PyData} (h : ∀ A H, Rp A H v d) : SimE (tC v) (dC d) := fun H0 B σ H ρ Q QD R q k => k (.fz d) ρ v H R .refl .refl (h _ _) q

/-! ### operations by values -/
abbrev Op1 := PyData → (Rs → Prop) → Prop
abbrev Op2 := PyData → PyData → (Rs → Prop) → Prop
abbrev OpN := List PyData → (Rs → Prop) → Prop
def SimR1 (r : V → Hp → VK → Prop) (f : Op1) : Prop := ∀ (A : Av) (H : Hp) (x : V) (d : PyData) (Q : VK) (Z : Rs → Prop), (∀ p, A p → H p ≠ none) → Vw A H x d → f d Z →
  (∀ z v H', Grow H H' → ResV A H H' v z → Z z → Q v H') → r x H Q
def SimR2 (r : R2) (f : Op2) : Prop := ∀ (A : Av) (H : Hp) (x y : V) (d e : PyData) (Q : VK) (Z : Rs → Prop), (∀ p, A p → H p ≠ none) → Vw A H x d → Vw A H y e → f d e Z →
  (∀ z v H', Grow H H' → ResV A H H' v z → Z z → Q v H') → r x y H Q
def VwAll (A : Av) (H : Hp) : List V → List PyData → Prop
  | [], [] => True
  | v :: vs, d :: ds => Vw A H v d ∧ VwAll A H vs ds
  | _, _ => False
def SimRN (r : List V → Hp → VK → Prop) (f : OpN) : Prop := ∀ (A : Av) (H : Hp) (xs : List V) (ds : List PyData) (Q : VK) (Z : Rs → Prop), (∀ p, A p → H p ≠ none) → VwAll A H xs ds → f ds Z →
  (∀ z v H', Grow H H' → ResV A H H' v z → Z z → Q v H') → r xs H Q
def dOp1 (f : Op1) (da : DE) : DE := fun ρ Q => da ρ fun r ρ1 => f (r.dat ρ1) fun z => Q z ρ1
def dOp2 (f : Op2) (da db : DE) : DE := fun ρ Q => da ρ fun r ρ1 => db ρ1 fun r2 ρ2 => f (r.dat ρ2) (r2.dat ρ2) fun z => Q z ρ2
theorem simE_op1 {r : V → Hp → VK → Prop} {f : Op1} {ta : TE} {da : DE} (hr : SimR1 r f) (ha : SimE ta da) : SimE (tUn r ta) (dOp1 f da) := fun H0 B σ H ρ Q QD R h k =>
  ha H0 B σ H ρ _ _ R h fun r1 ρ1 v1 H1 R1 S1 K1 o1 q1 => hr (Al B σ ρ1) H1 v1 _ _ _ R1.adom (o1.cv.vw R1) q1 fun z v H' g rv q => k z ρ1 v H' (R1.grow g) (S1.trans g.stp) K1 ((resOk_of R1 g rv).back S1.dom) q
theorem simE_op2 {r : R2} {f : Op2} {ta tb : TE} {da db : DE} (hr : SimR2 r f) (ha : SimE ta da) (hb : SimE tb db) : SimE (tOp r ta tb) (dOp2 f da db) := fun H0 B σ H ρ Q QD R h k =>
  ha H0 B σ H ρ _ _ R h fun r1 ρ1 v1 H1 R1 S1 K1 o1 q1 => hb H0 B σ H1 ρ1 _ _ R1 q1 fun r2 ρ2 v2 H2 R2 S2 K2 o2 q2 =>
    hr (Al B σ ρ2) H2 v1 v2 _ _ _ _ R2.adom ((o1.cv.step S2 K2).vw R2) (o2.cv.vw R2) q2 fun z v H' g rv q => k z ρ2 v H' (R2.grow g) ((S1.trans S2).trans g.stp) (K1.trans K2) ((resOk_of R2 g rv).back (S1.trans S2).dom) q
theorem simR2_or {r r' : R2} {f f' : Op2} (h : SimR2 r f) (h' : SimR2 r' f') : SimR2 (fun x y H Q => r x y H Q ∨ r' x y H Q) (fun d e Z => f d e Z ∨ f' d e Z) := fun A H x y d e Q Z ad vx vy q k =>
  q.elim (fun q => .inl (h A H x y d e Q Z ad vx vy q k)) fun q => .inr (h' A H x y d e Q Z ad vx vy q k)
theorem SimR2.imp {r : R2} {f f' : Op2} (h : SimR2 r f) (i : ∀ d e Z, f' d e Z → f d e Z) : SimR2 r f' := fun A H x y d e Q Z ad vx vy q k => h A H x y d e Q Z ad vx vy (i d e Z q) k
/-- two ints -/
def dI0 (g : Int → Int → PyData) : Op2 := fun d e Z => match d, e with
  | .int i, .int j => Z (.fz (g i j))
  | _, _ => False
def dI (C : Int → Int → Prop) (g : Int → Int → PyData) : Op2 := fun d e Z => match d, e with
  | .int i, .int j => C i j ∧ Z (.fz (g i j))
  | _, _ => False
theorem simR2_I0 {g : Int → Int → V} {g' : Int → Int → PyData} (h : ∀ A H i j, Rp A H (g i j) (g' i j)) : SimR2 (rI0 g) (dI0 g') := fun A H x y d e Q Z ad vx vy q k => by
  unfold dI0 at q
  split at q
  · rename_i i j
    cases vx.int
    cases vy.int
    exact ⟨i, j, rfl, rfl, k (.fz _) _ H .refl (h _ _ i j) q⟩
  · exact q.elim
theorem simR2_I {C C' : Int → Int → Prop} {g : Int → Int → V} {g' : Int → Int → PyData} (h : ∀ A H i j, Rp A H (g i j) (g' i j)) (hc : ∀ i j, C' i j → C i j) : SimR2 (rI C g) (dI C' g') := fun A H x y d e Q Z ad vx vy q k => by
  unfold dI at q
  split at q
  · rename_i i j
    cases vx.int
    cases vy.int
    exact ⟨i, j, rfl, rfl, hc i j q.1, k (.fz _) _ H .refl (h _ _ i j) q.2⟩
  · exact q.elim
/-- tuple + tuple -/
def oCatT : Op2 := fun d e Z => match d, e with
  | .tuple xs, .tuple ys => xs.length + ys.length ≤ 100000 ∧ Z (.fz (.tuple (xs ++ ys)))
  | _, _ => False
theorem simR2_catA {K : PySem.W.Frag} : SimR2 (rCatA K) oCatT := fun A H x y d e Q Z ad vx vy q k => by
  unfold oCatT at q
  split at q
  · rename_i xs ys
    obtain ⟨p1, us, e1, h1, r1⟩ := vx.tup
    obtain ⟨p2, ws, e2, h2, r2⟩ := vy.tup
    subst e1 e2
    have l1 := r1.len
    have l2 := r2.len
    refine ⟨p1, p2, us, ws, rfl, rfl, SqT.of h1, SqT.of h2, sz5 (by omega), fun z => ?_, fun z z2 => ?_, fun z z2 p hp => ?_⟩
    · refine k (.fz _) _ H .refl ?_ q.2
      subst z
      cases r1
      exact .tup h2 r2
    · refine k (.fz _) _ H .refl ?_ q.2
      subst z2
      cases r2
      rw [List.append_nil]
      exact .tup h1 r1
    · refine k (.fz _) _ _ (.new hp) ?_ q.2
      have g : Grow H (upd H p (.tup (us ++ ws))) := .new hp
      exact .tup upd_same ((RpAll.pass (g.pass fun _ z => .inl z) _ _ r1).app (RpAll.pass (g.pass fun _ z => .inl z) _ _ r2))
  · exact q.elim
/-- contents stay contents where a new address is to be avoided -/
theorem pass_new {A : Av} {H : Hp} {p : Addr} {o : HO} (hp : H p = none) : Pass A (bor A p) H (upd H p o) := (Grow.new hp).pass fun a z => z.elim .inl fun z => .inr (by rw [z]; exact hp)
/-- list + list -/
def oCatL : Op2 := fun d e Z => match d, e with
  | .list xs, .list ys => xs.length + ys.length ≤ 100000 ∧ Z (.nw (.list (xs ++ ys)))
  | _, _ => False
theorem simR2_cat : SimR2 rCat oCatL := fun A H x y d e Q Z ad vx vy q k => by
  unfold oCatL at q
  split at q
  · rename_i xs ys
    obtain ⟨p1, us, e1, h1, r1⟩ := vx.lst
    obtain ⟨p2, ws, e2, h2, r2⟩ := vy.lst
    subst e1 e2
    have l1 := r1.len
    have l2 := r2.len
    refine ⟨p1, p2, us, ws, rfl, rfl, h1, h2, sz5 (by omega), fun p hp => ?_⟩
    refine k (.nw (.list (xs ++ ys))) _ _ (.new hp) ⟨p, rfl, hp, by rw [upd_same]; exact fun z => (nomatch z), us ++ ws, upd_same, ?_⟩ q.2
    exact (RpAll.pass (pass_new hp) _ _ r1).app (RpAll.pass (pass_new hp) _ _ r2)
  · exact q.elim
def rCatS : R2 := fun x y H Q => ∃ i j, x = V.str i ∧ y = V.str j ∧ i.length + j.length ≤ sizeLine ∧ Q (.str (i ++ j)) H
def oCatS : Op2 := fun d e Z => match d, e with
  | .str xs, .str ys => xs.length + ys.length ≤ 100000 ∧ Z (.fz (.str (xs ++ ys)))
  | _, _ => False
theorem simR2_catS : SimR2 rCatS oCatS := fun A H x y d e Q Z ad vx vy q k => by
  unfold oCatS at q
  split at q
  · rename_i xs ys
    cases vx.str
    cases vy.str
    exact ⟨xs, ys, rfl, rfl, sz5 q.1, k (.fz _) _ H .refl (.str _) q.2⟩
  · exact q.elim
/-- + -/
def oAdd : Op2 := fun d e Z => match d, e with
  | .int i, .int j => Z (.fz (.int (i + j)))
  | .tuple xs, .tuple ys => xs.length + ys.length ≤ 100000 ∧ Z (.fz (.tuple (xs ++ ys)))
  | .list xs, .list ys => xs.length + ys.length ≤ 100000 ∧ Z (.nw (.list (xs ++ ys)))
  | .str xs, .str ys => xs.length + ys.length ≤ 100000 ∧ Z (.fz (.str (xs ++ ys)))
  | _, _ => False
def rAddU (K : PySem.W.Frag) : R2 := fun x y H Q => rI0 (fun i j => .int (i + j)) x y H Q ∨ (fun x y H Q => rCatA K x y H Q ∨ (fun x y H Q => rCat x y H Q ∨ rCatS x y H Q) x y H Q) x y H Q
theorem op_addU {X : Cx} : OpR X (binaryOp .Add) (rAddU X.K) := op_add.or (op_catA.or (op_cat.or op_add_str))
theorem simR2_add {K : PySem.W.Frag} : SimR2 (rAddU K) oAdd :=
  (simR2_or (simR2_I0 (g' := fun i j => .int (i + j)) fun _ _ _ _ => .int _) (simR2_or simR2_catA (simR2_or simR2_cat simR2_catS))).imp fun d e Z q => by
    unfold oAdd at q
    split at q
    · exact .inl q
    · exact .inr (.inl q)
    · exact .inr (.inr (.inl q))
    · exact .inr (.inr (.inr q))
    · exact q.elim
theorem simR2_sub : SimR2 (rI0 fun i j => .int (i - j)) (dI0 fun i j => .int (i - j)) := simR2_I0 fun _ _ _ _ => .int _

/-! ### tuple * int, list * int -/
theorem tuple_mul1 (l : Addr) (items : Array Value) (n : Nat) (dd : Option Addr) (sl : Array (Option Value)) (x : Int) (u : Tok) (c0 : (decide (x < -(2 ^ 63)) || decide (x ≥ 2 ^ 63)) = false) (c1 : (items.isEmpty || x == 1) = true) :
    Meets (Builtin.«tuple.__mul__» ⟨[.ref l, .int x u], []⟩) (fun _ R s => s.heap.get? l = some { cls := .type "tuple", dict := dd, data := .seq items n, slots := sl } ∧ R (.ok (.ret (Value.ref l))) s) :=
  .of_wp fun prog w A R s h => by
    obtain ⟨hp, g, d, tk, os⟩ := s
    obtain ⟨hl, h⟩ := h
    have f1 := AutoSeq1.idx_int
    wp_walk using wpAny_loadPart' hl
    repeat (first
      | (refine wpAny_ite_false (decide_eq_false (by rw [c0]; exact Bool.false_ne_true)) ?_; wp_walk using wpAny_loadPart' hl)
      | (refine wpAny_ite_true (decide_eq_true c1) ?_; wp_walk using wpAny_loadPart' hl))
    exact ⟨_, rfl, h⟩
theorem tuple_mul0 (l : Addr) (items : Array Value) (n : Nat) (dd : Option Addr) (sl : Array (Option Value)) (x : Int) (u : Tok) (c0 : (decide (x < -(2 ^ 63)) || decide (x ≥ 2 ^ 63)) = false) (c1 : (items.isEmpty || x == 1) = false) (c2 : (decide (x ≤ 0) || items.isEmpty) = true) :
    Meets (Builtin.«tuple.__mul__» ⟨[.ref l, .int x u], []⟩) (fun _ R s => s.heap.get? l = some { cls := .type "tuple", dict := dd, data := .seq items n, slots := sl } ∧
      R (.ok (.ret (Value.ref s.heap.objs.size))) { s with heap := s.heap.push { cls := Value.type "tuple", data := Data.seq #[] }, toks := s.toks }) :=
  .of_wp fun prog w A R s h => by
    obtain ⟨hp, g, d, tk, os⟩ := s
    obtain ⟨hl, h⟩ := h
    have f1 := AutoSeq1.idx_int
    wp_walk using wpAny_loadPart' hl
    repeat (first
      | (refine wpAny_ite_false (decide_eq_false (by rw [c0]; exact Bool.false_ne_true)) ?_; wp_walk using wpAny_loadPart' hl)
      | (refine wpAny_ite_false (decide_eq_false (by rw [c1]; exact Bool.false_ne_true)) ?_; wp_walk using wpAny_loadPart' hl)
      | (refine wpAny_ite_true (decide_eq_true c2) ?_; wp_walk using wpAny_loadPart' hl))
    exact ⟨_, rfl, h⟩
/-- tuple * int, none of them, one of them -/
def rRep1 (K : PySem.W.Frag) : R2 := fun x y H Q => ∃ l xs, x = .ref l ∧ y = .int 1 ∧ SqT K H l xs ∧ Q (.ref l) H
def rRep0 (K : PySem.W.Frag) : R2 := fun x y H Q => ∃ l k xs, x = .ref l ∧ y = .int k ∧ SqT K H l xs ∧ xs ≠ [] ∧ k ≤ 0 ∧ -1000 ≤ k ∧ ∀ p, H p = none → Q (.ref p) (upd H p (.tup []))
section
variable {X : Cx}
theorem op_rep1 : OpR X (binaryOp .Mult) (rRep1 X.K) := by
  intro pins s σ H x y v u Q I rx ry h
  obtain ⟨l, xs, rfl, rfl, hT, q⟩ := h
  cases rx
  obtain ⟨t, rfl⟩ := ry
  obtain ⟨its, r, ⟨⟨cls, dd, data, sl⟩, ho, hc, n, hd⟩, hs⟩ := I.tuple hT
  simp only at hc hd
  subst hc hd
  have c1 : (its.toArray.isEmpty || (1 : Int) == 1) = true := by simp
  refine wpAny_binaryOp_repeat_ref (T := "tuple") (U := "int") (by decide) ⟨_, ho, rfl⟩ (fun s' => typeIs_int s' 1 t) noFill_tuple_mul F.fills_int_mul F.slot_int_rmul repeat_tuple F.slot_int_index.lookup
    (call_meets F.slot_int_rmul (typeIs_int s 1 t) F.entry_int_rmul (F.args_int_rmul_2 _ _) (int_rmul_tuple 1 t l its.toArray n dd sl)
      ⟨ho, rfl, ⟨_, ho, rfl⟩, call_meets F.slot_tuple_mul ⟨_, ho, rfl⟩ F.entry_tuple_mul (F.args_tuple_mul_2 _ _) (tuple_mul1 l its.toArray n dd sl 1 t (by decide) c1) ⟨ho, ?_⟩⟩)
  exact ⟨.ref l, H, I, rfl, q⟩
theorem op_rep0 : OpR X (binaryOp .Mult) (rRep0 X.K) := by
  intro pins s σ H x y v u Q I rx ry h
  obtain ⟨l, k, xs, rfl, rfl, hT, hne, h1, h2, q⟩ := h
  cases rx
  obtain ⟨t, rfl⟩ := ry
  obtain ⟨its, r, ⟨⟨cls, dd, data, sl⟩, ho, hc, n, hd⟩, hs⟩ := I.tuple hT
  simp only at hc hd
  subst hc hd
  have hle : its.length = xs.length := r.length.symm
  have hn : its ≠ [] := fun e => hne (by
    rw [e] at hle
    exact List.eq_nil_of_length_eq_zero hle.symm)
  have hi : its.toArray.isEmpty = false := by
    cases its with
    | nil => exact absurd rfl hn
    | cons a b => rfl
  have c0 : (decide (k < -(2 ^ 63)) || decide (k ≥ 2 ^ 63)) = false := by
    rw [decide_eq_false (by omega), decide_eq_false (by omega)] <;> rfl
  have c1 : (its.toArray.isEmpty || k == 1) = false := by
    rw [hi, Bool.false_or]
    exact beq_eq_false_iff_ne.mpr (by omega)
  have c2 : (decide (k ≤ 0) || its.toArray.isEmpty) = true := by
    rw [hi, Bool.or_false]
    exact decide_eq_true h1
  refine wpAny_binaryOp_repeat_ref (T := "tuple") (U := "int") (by decide) ⟨_, ho, rfl⟩ (fun s' => typeIs_int s' k t) noFill_tuple_mul F.fills_int_mul F.slot_int_rmul repeat_tuple F.slot_int_index.lookup
    (call_meets F.slot_int_rmul (typeIs_int s k t) F.entry_int_rmul (F.args_int_rmul_2 _ _) (int_rmul_tuple k t l its.toArray n dd sl)
      ⟨ho, rfl, ⟨_, ho, rfl⟩, call_meets F.slot_tuple_mul ⟨_, ho, rfl⟩ F.entry_tuple_mul (F.args_tuple_mul_2 _ _) (tuple_mul0 l its.toArray n dd sl k t c0 c1 c2) ⟨ho, ?_⟩⟩)
  refine ⟨.ref s.heap.objs.size, _, I.laid (t' := s.toks) (o := .tup []) (fun b ob q => Heap.get?_push_of_some _ q) (Nat.le_refl _) ?_, rfl, q _ (I.hok.fresh (Nat.le_refl _))⟩
  exact ⟨Nat.zero_le _, [], .nil, PyProof.Rows.IsTup.new _ _⟩
end
/-- * -/
def oMul : Op2 := fun d e Z => match d, e with
  | .int i, .int j => (i.natAbs < 2 ^ 64 ∨ j.natAbs < 2 ^ 64) ∧ Z (.fz (.int (i * j)))
  | .tuple xs, .int k => xs ≠ [] ∧ xs.length ≤ 1000 ∧ -1000 ≤ k ∧ k ≤ 1000 ∧ Z (.fz (.tuple (List.replicate k.toNat xs).flatten))
  | .list xs, .int k => xs.length ≤ 100 ∧ -1000 ≤ k ∧ k ≤ 1000 ∧ Z (.nw (.list (List.replicate k.toNat xs).flatten))
  | _, _ => False
def rMulU (K : PySem.W.Frag) : R2 := fun x y H Q => rI CMul (fun i j => .int (i * j)) x y H Q ∨ (fun x y H Q => rRep1 K x y H Q ∨ (fun x y H Q => rRep0 K x y H Q ∨ (fun x y H Q => rRepT K x y H Q ∨ rRep x y H Q) x y H Q) x y H Q) x y H Q
theorem op_mulU {X : Cx} : OpR X (binaryOp .Mult) (rMulU X.K) := op_mul.or (op_rep1.or (op_rep0.or (op_repT.or op_rep)))
theorem simR2_mul {K : PySem.W.Frag} : SimR2 (rMulU K) oMul := fun A H x y d e Q Z ad vx vy q k => by
  unfold oMul at q
  split at q
  · rename_i i j
    cases vx.int
    cases vy.int
    refine .inl ⟨i, j, rfl, rfl, ?_, k (.fz _) _ H .refl (.int _) q.2⟩
    rcases q.1 with h | h
    · exact .inl ⟨by omega, by omega⟩
    · exact .inr ⟨by omega, by omega⟩
  · rename_i xs n
    obtain ⟨hne, hl, h0, h1, q⟩ := q
    obtain ⟨p1, us, e1, e2, r1⟩ := vx.tup
    cases vy.int
    subst e1
    have l1 := r1.len
    have ne : us ≠ [] := fun z => by
      subst z
      cases r1
      exact hne rfl
    by_cases c1 : n = 1
    · subst c1
      refine .inr (.inl ⟨p1, us, rfl, rfl, SqT.of e2, k (.fz _) _ H .refl ?_ q⟩)
      show Rp A H (.ref p1) (.tuple (List.replicate 1 xs).flatten)
      rw [show (List.replicate 1 xs).flatten = xs by simp]
      exact .tup e2 r1
    · by_cases c0 : n ≤ 0
      · refine .inr (.inr (.inl ⟨p1, n, us, rfl, rfl, SqT.of e2, ne, c0, h0, fun p hp => k (.fz _) _ _ (.new hp) ?_ q⟩))
        show Rp A (upd H p (.tup [])) (.ref p) (.tuple (List.replicate n.toNat xs).flatten)
        rw [show n.toNat = 0 by omega]
        exact .tup upd_same .nil
      · refine .inr (.inr (.inr (.inl ⟨p1, n, us, rfl, rfl, SqT.of e2, ne, by omega, h1, by omega, fun p hp => k (.fz _) _ _ (.new hp) ?_ q⟩)))
        exact .tup upd_same (RpAll.rep _ (RpAll.pass ((Grow.new hp).pass fun _ z => .inl z) _ _ r1))
  · rename_i xs n
    obtain ⟨hl, h0, h1, q⟩ := q
    obtain ⟨p1, us, e1, e2, r1⟩ := vx.lst
    cases vy.int
    subst e1
    have l1 := r1.len
    refine .inr (.inr (.inr (.inr ⟨p1, n, us, rfl, rfl, e2, by omega, by omega, sz5 ?_, fun p hp => k (.nw (.list _)) _ _ (.new hp) ⟨p, rfl, hp, by rw [upd_same]; exact fun z => (nomatch z), _, upd_same, RpAll.rep _ (RpAll.pass (pass_new hp) _ _ r1)⟩ q⟩)))
    have := Nat.mul_le_mul (show us.length ≤ 100 by omega) (show n.toNat ≤ 1000 by omega)
    omega
  · exact q.elim
/-- //, %, ** of ints -/
theorem op_fdivU {X : Cx} : OpR X (binaryOp .FloorDiv) (rI CDivW fun i j => .int (i / j)) := op_fdivW
theorem simR2_fdiv : SimR2 (rI CDivW fun i j => .int (i / j)) (dI (fun _ j => 0 < j ∧ j < 2 ^ 60) fun i j => .int (i / j)) := simR2_I (fun _ _ _ _ => .int _) fun i j h => wide_div (b := 60) h.1 (by omega) (by decide) (by decide)
theorem simR2_mod : SimR2 (rI (fun _ j => 0 < j) fun i j => .int (i % j)) (dI (fun _ j => 0 < j) fun i j => .int (i % j)) := simR2_I (fun _ _ _ _ => .int _) fun _ _ h => h
theorem simR2_pow : SimR2 (rI CPow fun i j => .int (i ^ j.toNat)) (dI (fun i j => 0 ≤ j ∧ j ≤ 1000 ∧ i.natAbs < 2 ^ 60) fun i j => .int (i ^ j.toNat)) := simR2_I (fun _ _ _ _ => .int _) fun i j h => ⟨h.1, by omega, by omega⟩

/-! ### comparisons -/
def cmpD (p : Int → Int → Bool) : Op2 := dI0 fun i j => .bool (p i j)
theorem simR2_lt : SimR2 (rI0 fun i j => .bl (decide (i < j))) (cmpD fun i j => decide (i < j)) := simR2_I0 fun _ _ _ _ => .bl _
theorem simR2_le : SimR2 (rI0 fun i j => .bl (decide (i ≤ j))) (cmpD fun i j => decide (i ≤ j)) := simR2_I0 fun _ _ _ _ => .bl _
theorem simR2_gt : SimR2 (rI0 fun i j => .bl (decide (j < i))) (cmpD fun i j => decide (j < i)) := simR2_I0 fun _ _ _ _ => .bl _
theorem simR2_ge : SimR2 (rI0 fun i j => .bl (decide (j ≤ i))) (cmpD fun i j => decide (j ≤ i)) := simR2_I0 fun _ _ _ _ => .bl _
def nodict : PyData → Prop := fun d => ∀ kvs, d ≠ .dict kvs
theorem nodict_of_shaped {d : PyData} (h : SeqAt.shaped d = true) : nodict d := fun kvs e => by
  subst e
  have h' : ((PyData.dict kvs).canLay0 && decide ((PyData.dict kvs).depth ≤ 64)) = true := h
  simp [PyData.canLay0] at h'
def oEq : Op2 := fun d e Z => SeqAt.shaped d = true ∧ SeqAt.shaped e = true ∧ Z (.fz (.bool (PyData.eqv d e)))
def oNe : Op2 := fun d e Z => SeqAt.shaped d = true ∧ SeqAt.shaped e = true ∧ Z (.fz (.bool (!PyData.eqv d e)))
theorem simR2_eq {K : PySem.W.Frag} : SimR2 (rEqD K) oEq := fun A H x y d e Q Z ad vx vy q k =>
  ⟨d, e, vx.dp (nodict_of_shaped q.1), vy.dp (nodict_of_shaped q.2.1), q.1, q.2.1, k (.fz _) _ H .refl (.bl _) q.2.2⟩
theorem simR2_ne {K : PySem.W.Frag} : SimR2 (rNeD K) oNe := fun A H x y d e Q Z ad vx vy q k =>
  ⟨d, e, vx.dp (nodict_of_shaped q.1), vy.dp (nodict_of_shaped q.2.1), q.1, q.2.1, k (.fz _) _ H .refl (.bl _) q.2.2⟩
/-- is None, is True, is False -/
def isN : PyData → Bool
  | .none => true
  | _ => false
theorem Vw.isN {A : Av} {H : Hp} {v : V} {d : PyData} (h : Vw A H v d) : decide (v = .non) = isN d := by
  rcases h with h | ⟨p, e, h⟩
  · cases h <;> rfl
  · subst e
    cases d <;> first | exact h.elim | rfl
def oIs (neg : Bool) : Op2 := fun d e Z => match e with
  | .none => Z (.fz (.bool (neg ^^ isN d)))
  | .bool b => match d with
    | .bool a => Z (.fz (.bool (neg ^^ decide (a = b))))
    | _ => False
  | _ => False
def rIsU : R2 := fun x y H Q => (fun x y H Q => y = .non ∧ Q (.bl (decide (x = .non))) H) x y H Q ∨ rIsB x y H Q
def rIsNotU : R2 := fun x y H Q => (fun x y H Q => y = .non ∧ Q (.bl (!decide (x = .non))) H) x y H Q ∨ rNotB x y H Q
theorem op_isU {X : Cx} : OpR X (compareOp .Is) rIsU := op_isN.or op_isBl
theorem op_isNotU {X : Cx} : OpR X (compareOp .IsNot) rIsNotU := op_notN.or op_notBl
theorem simR2_is : SimR2 rIsU (oIs false) := fun A H x y d e Q Z ad vx vy q k => by
  unfold oIs at q
  split at q
  · cases vy.non
    exact .inl ⟨rfl, by rw [vx.isN]; exact k (.fz _) _ H .refl (.bl _) (by simpa using q)⟩
  · rename_i b
    split at q
    · rename_i a
      cases vy.bl
      cases vx.bl
      exact .inr ⟨a, b, rfl, rfl, k (.fz _) _ H .refl (.bl _) (by simpa using q)⟩
    · exact q.elim
  · exact q.elim
theorem simR2_isNot : SimR2 rIsNotU (oIs true) := fun A H x y d e Q Z ad vx vy q k => by
  unfold oIs at q
  split at q
  · cases vy.non
    exact .inl ⟨rfl, by rw [vx.isN]; exact k (.fz _) _ H .refl (.bl _) (by simpa using q)⟩
  · rename_i b
    split at q
    · rename_i a
      cases vy.bl
      cases vx.bl
      exact .inr ⟨a, b, rfl, rfl, k (.fz _) _ H .refl (.bl _) (by simpa using q)⟩
    · exact q.elim
  · exact q.elim
/-- in: a list, a tuple of flat things -/
def flatD : PyData → Bool
  | .none | .bool _ | .int _ | .str _ => true
  | _ => false
theorem Vw.flat {A : Av} {H : Hp} {v : V} {d : PyData} (h : Vw A H v d) (f : flatD d = true) : flatV v = true := by
  rcases h with h | ⟨p, e, h⟩
  · cases h <;> first | rfl | cases f
  · cases d <;> first | exact h.elim | cases f
theorem Rp.flat {A : Av} {H : Hp} {v : V} {d : PyData} (h : Rp A H v d) (f : flatD d = true) : flatV v = true := Vw.flat (.inl h) f
theorem RpAll.flat {A : Av} {H : Hp} : ∀ {vs : List V} {ds : List PyData}, RpAll A H vs ds → ds.all flatD = true → vs.all flatV = true
  | _, _, .nil, _ => rfl
  | _, _, .cons h1 h2, f => by
    rw [List.all_cons, Bool.and_eq_true] at f
    rw [List.all_cons, Rp.flat h1 f.1, RpAll.flat h2 f.2]
    rfl
theorem eqV_eqv {A A' : Av} {H H' : Hp} {x y : V} {d e : PyData} (h : Rp A H x d) (h' : Rp A' H' y e) (f : flatD d = true) (f' : flatD e = true) : eqV x y = PyData.eqv d e := by
  cases h with
  | lst _ _ _ => exact absurd f Bool.false_ne_true
  | tup _ _ => exact absurd f Bool.false_ne_true
  | _ =>
    cases h' with
    | lst _ _ _ => exact absurd f' Bool.false_ne_true
    | tup _ _ => exact absurd f' Bool.false_ne_true
    | _ => simp [eqV, PyData.eqv]
def inD (ds : List PyData) (d : PyData) : Bool := ds.any fun z => PyData.eqv z d
theorem inV_inD {A A' : Av} {H H' : Hp} {y : V} {e : PyData} (h' : Rp A' H' y e) (f' : flatD e = true) : ∀ {vs : List V} {ds : List PyData}, RpAll A H vs ds → ds.all flatD = true → inV y vs = inD ds e
  | _, _, .nil, _ => rfl
  | _, _, .cons h1 h2, f => by
    rw [List.all_cons, Bool.and_eq_true] at f
    have ih := inV_inD h' f' h2 f.2
    unfold inV inD at ih ⊢
    rw [List.any_cons, List.any_cons, eqV_eqv h1 h' f.1 f', ih]
def itemsD : PyData → Option (List PyData)
  | .list ds => some ds
  | .tuple ds => some ds
  | _ => none
theorem Vw.items {K : PySem.W.Frag} {A : Av} {H : Hp} {v : V} {d : PyData} {ds : List PyData} (h : Vw A H v d) (e : itemsD d = some ds) : ∃ p xs, v = .ref p ∧ (SqL K H p xs ∨ SqT K H p xs) ∧ RpAll A H xs ds := by
  cases d with
  | list es =>
    cases e
    obtain ⟨p, xs, e1, e2, e3⟩ := h.lst
    exact ⟨p, xs, e1, .inl (SqL.of e2), e3⟩
  | tuple es =>
    cases e
    obtain ⟨p, xs, e1, e2, e3⟩ := h.tup
    exact ⟨p, xs, e1, .inr (SqT.of e2), e3⟩
  | _ => cases e
def oIn (neg : Bool) : Op2 := fun d e Z => ∃ ds, itemsD e = some ds ∧ flatD d = true ∧ ds.all flatD = true ∧ Z (.fz (.bool (neg ^^ inD ds d)))
theorem Vw.rp {A : Av} {H : Hp} {v : V} {d : PyData} (h : Vw A H v d) (f : flatD d = true) : Rp A H v d := by
  rcases h with h | ⟨p, e, h⟩
  · exact h
  · cases d <;> first | exact h.elim | cases f
theorem simR2_in {K : PySem.W.Frag} : SimR2 (rIn K false) (oIn false) := fun A H x y d e Q Z ad vx vy q k => by
  obtain ⟨ds, h1, h2, h3, q⟩ := q
  obtain ⟨p, xs, e1, e2, e3⟩ := vy.items (K := K) h1
  refine ⟨p, xs, e1, e2, vx.flat h2, e3.flat h3, ?_⟩
  rw [inV_inD (vx.rp h2) h2 e3 h3]
  exact k (.fz _) _ H .refl (.bl _) (by simpa using q)
theorem simR2_notIn {K : PySem.W.Frag} : SimR2 (rIn K true) (oIn true) := fun A H x y d e Q Z ad vx vy q k => by
  obtain ⟨ds, h1, h2, h3, q⟩ := q
  obtain ⟨p, xs, e1, e2, e3⟩ := vy.items (K := K) h1
  refine ⟨p, xs, e1, e2, vx.flat h2, e3.flat h3, ?_⟩
  rw [inV_inD (vx.rp h2) h2 e3 h3]
  exact k (.fz _) _ H .refl (.bl _) (by simpa using q)

/-! ### items, slices -/
theorem ixN_of {α β : Type} {xs : List α} {ys : List β} (h : xs.length = ys.length) (i : Int) : ixN xs.length i = ixN ys.length i := by rw [h]
theorem RpAll.atI {A : Av} {H : Hp} {vs : List V} {ds : List PyData} {i : Int} {d : PyData} (h : RpAll A H vs ds) (e : L2.atI ds i = some d) : ∃ v, L2.atI vs i = some v ∧ Rp A H v d := by
  unfold L2.atI at e ⊢
  rw [h.len]
  cases hj : ixN ds.length i with
  | none => rw [hj] at e; cases e
  | some j =>
    rw [hj] at e
    exact h.get (i := j) e
def oIx : Op2 := fun d e Z => match d, e with
  | .tuple ds, .int i => ∃ x, L2.atI ds i = some x ∧ Z (.fz x)
  | .list ds, .int i => ∃ x, L2.atI ds i = some x ∧ Z (.fz x)
  | _, _ => False
theorem simR2_ix {K : PySem.W.Frag} : SimR2 (rIx K) oIx := fun A H x y d e Q Z ad vx vy q k => by
  unfold oIx at q
  split at q
  · rename_i ds i
    obtain ⟨p, xs, e1, e2, e3⟩ := vx.tup
    cases vy.int
    obtain ⟨z, h1, q⟩ := q
    obtain ⟨v, h2, h3⟩ := e3.atI h1
    exact .inr (.inl ⟨p, xs, i, v, e1, rfl, SqT.of e2, h2, k (.fz _) _ H .refl h3 q⟩)
  · rename_i ds i
    obtain ⟨p, xs, e1, e2, e3⟩ := vx.lst
    cases vy.int
    obtain ⟨z, h1, q⟩ := q
    obtain ⟨v, h2, h3⟩ := e3.atI h1
    exact .inl ⟨p, xs, i, v, e1, rfl, SqL.of e2, h2, k (.fz _) _ H .refl h3 q⟩
  · exact q.elim
abbrev DO := DEnv → (Option Int → DEnv → Prop) → Prop
def SimO (t : TO) (d : DO) : Prop := ∀ (H0 : Fx) (B : Av) (σ : L2.St) (H : Hp) (ρ : DEnv) (Q : Option Int → Hp → Prop) (QD : Option Int → DEnv → Prop), Rel H0 B σ H ρ → d ρ QD →
  (∀ b ρ' H', Rel H0 B σ H' ρ' → Stp σ ρ H σ ρ' H' → Keep ρ ρ' → QD b ρ' → Q b H') → t σ H Q
def dNoPart : DO := fun ρ Q => Q none ρ
def dPart (de : DE) : DO := fun ρ Q => de ρ fun r ρ' => ∃ i, r.dat ρ' = .int i ∧ Q (some i) ρ'
theorem simO_none : SimO tNoPart dNoPart := fun H0 B σ H ρ Q QD R h k => k none ρ H R .refl .refl h
theorem simO_some {te : TE} {de : DE} (h : SimE te de) : SimO (tPart te) (dPart de) := fun H0 B σ H ρ Q QD R q k =>
  h H0 B σ H ρ _ _ R q fun r ρ1 v H1 R1 S1 K1 o1 q1 => by
    obtain ⟨i, e, q1⟩ := q1
    have vw := o1.cv.vw R1
    rw [e] at vw
    exact ⟨i, vw.int, k _ _ _ R1 S1 K1 q1⟩
def cut {α : Type} (xs : List α) (lo hi : Option Int) : List α := (xs.drop (HT.sIx xs.length 0 lo)).take (HT.sIx xs.length xs.length hi - HT.sIx xs.length 0 lo)
theorem RpAll.cut {A : Av} {H : Hp} {vs : List V} {ds : List PyData} (lo hi : Option Int) (h : RpAll A H vs ds) : RpAll A H (cutV vs lo hi) (Dl.cut ds lo hi) := by
  unfold cutV Dl.cut
  rw [h.len]
  exact RpAll.take _ (RpAll.drop _ h)
abbrev OpS := PyData → Option Int → Option Int → (Rs → Prop) → Prop
def oSl : OpS := fun d lo hi Z => match d with
  | .tuple ds => Z (.fz (.tuple (cut ds lo hi)))
  | .list ds => Z (.nw (.list (cut ds lo hi)))
  | _ => False
def rSlU (K : PySem.W.Frag) : V → Option Int → Option Int → Hp → VK → Prop := fun x lo hi H Q => rSlA K x lo hi H Q ∨ rSlL K x lo hi H Q
theorem sl_U {X : Cx} : SlR X (rSlU X.K) := sl_tupA.or sl_list
def dSl (de : DE) (dl dh : DO) : DE := fun ρ Q => de ρ fun r ρ1 => dl ρ1 fun lo ρ2 => dh ρ2 fun hi ρ3 => oSl (r.dat ρ3) lo hi fun z => Q z ρ3
theorem simE_sl {K : PySem.W.Frag} {te : TE} {tl th : TO} {de : DE} {dl dh : DO} (he : SimE te de) (hl : SimO tl dl) (hh : SimO th dh) : SimE (tSl (rSlU K) te tl th) (dSl de dl dh) := fun H0 B σ H ρ Q QD R q k =>
  he H0 B σ H ρ _ _ R q fun r1 ρ1 v1 H1 R1 S1 K1 o1 q1 => hl H0 B σ H1 ρ1 _ _ R1 q1 fun lo ρ2 H2 R2 S2 K2 q2 => hh H0 B σ H2 ρ2 _ _ R2 q2 fun hi ρ3 H3 R3 S3 K3 q3 => by
    have vw := ((o1.cv.step S2 K2).step S3 K3).vw R3
    unfold oSl at q3
    split at q3
    · rename_i ds ed
      rw [ed] at vw
      obtain ⟨p, xs, e1, e2, e3⟩ := vw.tup
      refine .inl ⟨p, xs, e1, SqT.of e2, fun z => ?_, fun z p' hp' => ?_⟩
      · refine k (.fz _) _ _ _ R3 ((S1.trans S2).trans S3) ((K1.trans K2).trans K3) ?_ q3
        have ec : Dl.cut ds lo hi = ds := by
          unfold Dl.cut
          rw [← e3.len, z.1, z.2, e3.len]
          simp
        rw [ec]
        exact .tup e2 e3
      · have g : Grow H3 (upd H3 p' (.tup (cutV xs lo hi))) := .new hp'
        refine k (.fz _) _ _ _ (R3.grow g) (((S1.trans S2).trans S3).trans g.stp) ((K1.trans K2).trans K3) ?_ q3
        exact .tup upd_same (RpAll.pass (g.pass fun _ z => .inl z) _ _ (e3.cut lo hi))
    · rename_i ds ed
      rw [ed] at vw
      obtain ⟨p, xs, e1, e2, e3⟩ := vw.lst
      refine .inr ⟨p, xs, e1, SqL.of e2, fun p' hp' => ?_⟩
      have g : Grow H3 (upd H3 p' (.lst (cutV xs lo hi))) := .new hp'
      refine k (.nw (.list (Dl.cut ds lo hi))) _ _ _ (R3.grow g) (((S1.trans S2).trans S3).trans g.stp) ((K1.trans K2).trans K3) ((resOk_of R3 g (r := .nw (.list (Dl.cut ds lo hi))) ⟨p', rfl, hp', by rw [upd_same]; exact fun z => (nomatch z), cutV xs lo hi, upd_same, ?_⟩).back ((S1.trans S2).trans S3).dom) q3
      exact RpAll.pass (pass_new hp') _ _ (e3.cut lo hi)
    · exact q3.elim
end Dl
set_option Elab.async false
set_option linter.all false
set_option maxRecDepth 100000
set_option maxHeartbeats 4000000
/-! The data layer, part 3: logic, arguments, displays, targets, statements, loops. -/
namespace Dl
open PySem L2

/-! ### tests -/
def dTest (de : DE) : DT := fun ρ Q => de ρ fun r ρ' => match r.dat ρ' with
  | .bool b => Q b ρ'
  | _ => False
theorem simT_test {te : TE} {de : DE} (h : SimE te de) : SimT (tTest te) (dTest de) := fun H0 B σ H ρ Q QD R q k =>
  h H0 B σ H ρ _ _ R q fun r ρ1 v H1 R1 S1 K1 o1 q1 => by
    have vw := o1.cv.vw R1
    split at q1
    · rename_i b e
      rw [e] at vw
      exact ⟨b, vw.bl, k b ρ1 H1 R1 S1 K1 q1⟩
    · exact q1.elim
theorem simT_B {te : TE} {de : DE} (h : SimE te de) : SimT (tB te) (dTest de) := simT_test h
def dAnd (a b : DT) : DT := fun ρ Q => a ρ fun c ρ1 => if c = true then b ρ1 Q else Q false ρ1
def dOr (a b : DT) : DT := fun ρ Q => a ρ fun c ρ1 => if c = true then Q true ρ1 else b ρ1 Q
def dNot (a : DT) : DT := fun ρ Q => a ρ fun c ρ1 => Q (!c) ρ1
theorem simT_and {t u : TT} {a b : DT} (ha : SimT t a) (hb : SimT u b) : SimT (tAnd t u) (dAnd a b) := fun H0 B σ H ρ Q QD R q k =>
  ha H0 B σ H ρ _ _ R q fun c ρ1 H1 R1 S1 K1 q1 => by
    cases c with
    | true => exact hb H0 B σ H1 ρ1 _ _ R1 q1 fun d ρ2 H2 R2 S2 K2 q2 => k d ρ2 H2 R2 (S1.trans S2) (K1.trans K2) q2
    | false => exact k false ρ1 H1 R1 S1 K1 q1
theorem simT_or {t u : TT} {a b : DT} (ha : SimT t a) (hb : SimT u b) : SimT (tOr t u) (dOr a b) := fun H0 B σ H ρ Q QD R q k =>
  ha H0 B σ H ρ _ _ R q fun c ρ1 H1 R1 S1 K1 q1 => by
    cases c with
    | false => exact hb H0 B σ H1 ρ1 _ _ R1 q1 fun d ρ2 H2 R2 S2 K2 q2 => k d ρ2 H2 R2 (S1.trans S2) (K1.trans K2) q2
    | true => exact k true ρ1 H1 R1 S1 K1 q1
theorem simT_not {t : TT} {a : DT} (ha : SimT t a) : SimT (tNot t) (dNot a) := fun H0 B σ H ρ Q QD R q k =>
  ha H0 B σ H ρ _ _ R q fun c ρ1 H1 R1 S1 K1 q1 => k (!c) ρ1 H1 R1 S1 K1 q1
/-- as values -/
def dAndV (a b : DE) : DE := fun ρ Q => a ρ fun r ρ1 => match r.dat ρ1 with
  | .bool c => if c = true then b ρ1 Q else Q (.fz (.bool false)) ρ1
  | _ => False
def dOrV (a b : DE) : DE := fun ρ Q => a ρ fun r ρ1 => match r.dat ρ1 with
  | .bool c => if c = true then Q (.fz (.bool true)) ρ1 else b ρ1 Q
  | _ => False
def dNotV (a : DE) : DE := fun ρ Q => a ρ fun r ρ1 => match r.dat ρ1 with
  | .bool c => Q (.fz (.bool (!c))) ρ1
  | _ => False
theorem simE_andV {t u : TE} {a b : DE} (ha : SimE t a) (hb : SimE u b) : SimE (tAndV t u) (dAndV a b) := fun H0 B σ H ρ Q QD R q k =>
  ha H0 B σ H ρ _ _ R q fun r ρ1 v H1 R1 S1 K1 o1 q1 => by
    have vw := o1.cv.vw R1
    split at q1
    · rename_i c e
      rw [e] at vw
      refine ⟨c, vw.bl, ?_⟩
      cases c with
      | true => exact hb H0 B σ H1 ρ1 _ _ R1 q1 fun d ρ2 v2 H2 R2 S2 K2 o2 q2 => k d ρ2 v2 H2 R2 (S1.trans S2) (K1.trans K2) (o2.back S1.dom) q2
      | false => exact k (.fz _) ρ1 _ H1 R1 S1 K1 (.bl false) q1
    · exact q1.elim
theorem simE_orV {t u : TE} {a b : DE} (ha : SimE t a) (hb : SimE u b) : SimE (tOrV t u) (dOrV a b) := fun H0 B σ H ρ Q QD R q k =>
  ha H0 B σ H ρ _ _ R q fun r ρ1 v H1 R1 S1 K1 o1 q1 => by
    have vw := o1.cv.vw R1
    split at q1
    · rename_i c e
      rw [e] at vw
      refine ⟨c, vw.bl, ?_⟩
      cases c with
      | false => exact hb H0 B σ H1 ρ1 _ _ R1 q1 fun d ρ2 v2 H2 R2 S2 K2 o2 q2 => k d ρ2 v2 H2 R2 (S1.trans S2) (K1.trans K2) (o2.back S1.dom) q2
      | true => exact k (.fz _) ρ1 _ H1 R1 S1 K1 (.bl true) q1
    · exact q1.elim
theorem simE_notV {t : TE} {a : DE} (ha : SimE t a) : SimE (tNotV t) (dNotV a) := fun H0 B σ H ρ Q QD R q k =>
  ha H0 B σ H ρ _ _ R q fun r ρ1 v H1 R1 S1 K1 o1 q1 => by
    have vw := o1.cv.vw R1
    split at q1
    · rename_i c e
      rw [e] at vw
      exact ⟨c, vw.bl, k (.fz _) ρ1 _ H1 R1 S1 K1 (.bl _) q1⟩
    · exact q1.elim
def dIfE (t : DT) (a b : DE) : DE := fun ρ Q => t ρ fun c ρ1 => if c = true then a ρ1 Q else b ρ1 Q
theorem simE_if {t : TT} {u v : TE} {dt : DT} {a b : DE} (ht : SimT t dt) (ha : SimE u a) (hb : SimE v b) : SimE (tIf t u v) (dIfE dt a b) := fun H0 B σ H ρ Q QD R q k =>
  ht H0 B σ H ρ _ _ R q fun c ρ1 H1 R1 S1 K1 q1 => by
    cases c with
    | true => exact ha H0 B σ H1 ρ1 _ _ R1 q1 fun d ρ2 v2 H2 R2 S2 K2 o2 q2 => k d ρ2 v2 H2 R2 (S1.trans S2) (K1.trans K2) (o2.back S1.dom) q2
    | false => exact hb H0 B σ H1 ρ1 _ _ R1 q1 fun d ρ2 v2 H2 R2 S2 K2 o2 q2 => k d ρ2 v2 H2 R2 (S1.trans S2) (K1.trans K2) (o2.back S1.dom) q2
/-- a op b op' c over ints -/
def dChain (f f' : Op2) (a b c : DE) : DE := fun ρ Q => a ρ fun r ρ1 => b ρ1 fun r2 ρ2 => f (r.dat ρ2) (r2.dat ρ2) fun z => match z with
  | .fz (.bool k) => if k = true then c ρ2 fun r3 ρ3 => f' (r2.dat ρ3) (r3.dat ρ3) fun z => Q z ρ3 else Q (.fz (.bool false)) ρ2
  | _ => False
theorem simE_chain {r r' : R2} {f f' : Op2} {ta tb tc : TE} {a b c : DE} (hr : SimR2 r f) (hr' : SimR2 r' f') (ha : SimE ta a) (hb : SimE tb b) (hc : SimE tc c) : SimE (tChain r r' ta tb tc) (dChain f f' a b c) := fun H0 B σ H ρ Q QD R q k => by
  refine ha H0 B σ H ρ _ _ R q fun r1 ρ1 v1 H1 R1 S1 K1 o1 q1 => ?_
  refine hb H0 B σ H1 ρ1 _ _ R1 q1 fun r2 ρ2 v2 H2 R2 S2 K2 o2 q2 => ?_
  refine hr (Al B σ ρ2) H2 v1 v2 _ _ _ _ R2.adom ((o1.cv.step S2 K2).vw R2) (o2.cv.vw R2) q2 fun z v H3 g rv q3 => ?_
  have R3 := R2.grow g
  have S3 := (S1.trans S2).trans (g.stp (σ := σ) (ρ := ρ2))
  cases z with
  | br i => exact q3.elim
  | nw d => exact q3.elim
  | np _ _ => exact q3.elim
  | fz d =>
    cases d with
    | bool b =>
      have rv' : Rp (Al B σ ρ2) H3 v (.bool b) := rv
      cases rv'
      refine ⟨b, rfl, ?_⟩
      cases b with
      | false => exact k (.fz _) ρ2 _ H3 R3 S3 (K1.trans K2) (.bl false) q3
      | true =>
        refine hc H0 B σ H3 ρ2 _ _ R3 q3 fun r4 ρ4 v4 H4 R4 S4 K4 o4 q4 => ?_
        exact hr' (Al B σ ρ4) H4 v2 v4 _ _ _ _ R4.adom (((o2.cv.step (g.stp (σ := σ) (ρ := ρ2)) .refl).step S4 K4).vw R4) (o4.cv.vw R4) q4 fun z v H' g rv q => k z ρ4 v H' (R4.grow g) ((S3.trans S4).trans g.stp) ((K1.trans K2).trans K4) ((resOk_of R4 g rv).back (S3.trans S4).dom) q
    | _ => exact q3.elim

/-! ### arguments, displays -/
def dNil : DA := fun ρ Q => Q [] ρ
def dCons (a : DE) (r : DA) : DA := fun ρ Q => a ρ fun x ρ1 => r ρ1 fun xs ρ2 => Q (x :: xs) ρ2
theorem simA_nil : SimA tNil dNil := fun H0 B σ H ρ Q QD R q k => k [] ρ [] H R .refl .refl trivial q
theorem simA_cons {te : TE} {tr : TA} {de : DE} {dr : DA} (h : SimE te de) (hr : SimA tr dr) : SimA (tCons te tr) (dCons de dr) := fun H0 B σ H ρ Q QD R q k =>
  h H0 B σ H ρ _ _ R q fun r1 ρ1 v1 H1 R1 S1 K1 o1 q1 => hr H0 B σ H1 ρ1 _ _ R1 q1 fun rs ρ2 vs H2 R2 S2 K2 o2 q2 => k (r1 :: rs) ρ2 (v1 :: vs) H2 R2 (S1.trans S2) (K1.trans K2) ⟨o1.cv.step S2 K2, o2⟩ q2
def stoAll : List Rs → Option (List PyData)
  | [] => some []
  | r :: rs => match r.sto, stoAll rs with
    | some d, some ds => some (d :: ds)
    | _, _ => none
theorem CvAll.sto {B : Av} {σ : L2.St} {H : Hp} {ρ : DEnv} : ∀ {vs : List V} {rs : List Rs} {ds : List PyData}, CvAll B σ H ρ vs rs → stoAll rs = some ds → RpAll (Al B σ ρ) H vs ds
  | [], [], ds, _, e => by
    cases e
    exact .nil
  | v :: vs, r :: rs, ds, h, e => by
    unfold stoAll at e
    split at e
    · rename_i d ds' e1 e2
      cases e
      exact .cons (h.1.sto e1) (CvAll.sto h.2 e2)
    · cases e
  | [], _ :: _, _, h, _ => h.elim
  | _ :: _, [], _, h, _ => h.elim
theorem CvAll.len {B : Av} {σ : L2.St} {H : Hp} {ρ : DEnv} : ∀ {vs : List V} {rs : List Rs}, CvAll B σ H ρ vs rs → vs.length = rs.length
  | [], [], _ => rfl
  | _ :: _, _ :: _, h => by simp [CvAll.len h.2]
  | [], _ :: _, h => h.elim
  | _ :: _, [], h => h.elim
theorem CvAll.vw {H0 : Fx} {B : Av} {σ : L2.St} {H : Hp} {ρ : DEnv} (R : Rel H0 B σ H ρ) : ∀ {vs : List V} {rs : List Rs}, CvAll B σ H ρ vs rs → VwAll (Al B σ ρ) H vs (rs.map (Rs.dat ρ))
  | [], [], _ => trivial
  | _ :: _, _ :: _, h => ⟨h.1.vw R, CvAll.vw R h.2⟩
  | [], _ :: _, h => h.elim
  | _ :: _, [], h => h.elim
def dTup (da : DA) : DE := fun ρ Q => da ρ fun rs ρ1 => ∃ ds, stoAll rs = some ds ∧ ds.length ≤ 100000 ∧ Q (.fz (.tuple ds)) ρ1
def dLst (da : DA) : DE := fun ρ Q => da ρ fun rs ρ1 => ∃ ds, stoAll rs = some ds ∧ ds.length ≤ 100000 ∧ Q (.nw (.list ds)) ρ1
theorem simE_tup {ta : TA} {da : DA} (h : SimA ta da) : SimE (tTup ta) (dTup da) := fun H0 B σ H ρ Q QD R q k =>
  h H0 B σ H ρ _ _ R q fun rs ρ1 vs H1 R1 S1 K1 o1 q1 => by
    obtain ⟨ds, e, hl, q1⟩ := q1
    have r := o1.sto e
    refine ⟨sz5 (by rw [r.len]; exact hl), fun p hp => ?_⟩
    have g : Grow H1 (upd H1 p (.tup vs)) := .new hp
    refine k (.fz _) ρ1 _ _ (R1.grow g) (S1.trans g.stp) K1 ((resOk_of R1 g (r := .fz _) ?_).back S1.dom) q1
    exact .tup upd_same (RpAll.pass (g.pass fun _ z => .inl z) _ _ r)
theorem simE_lst {ta : TA} {da : DA} (h : SimA ta da) : SimE (tLst ta) (dLst da) := fun H0 B σ H ρ Q QD R q k =>
  h H0 B σ H ρ _ _ R q fun rs ρ1 vs H1 R1 S1 K1 o1 q1 => by
    obtain ⟨ds, e, hl, q1⟩ := q1
    have r := o1.sto e
    refine ⟨sz5 (by rw [r.len]; exact hl), fun p hp => ?_⟩
    have g : Grow H1 (upd H1 p (.lst vs)) := .new hp
    refine k (.nw (.list ds)) ρ1 _ _ (R1.grow g) (S1.trans g.stp) K1 ((resOk_of R1 g (r := .nw (.list ds)) ⟨p, rfl, hp, by rw [upd_same]; exact fun z => (nomatch z), vs, upd_same, RpAll.pass (pass_new hp) _ _ r⟩).back S1.dom) q1
/-- a call of a built-in -/
def dCB (f : OpN) (da : DA) : DE := fun ρ Q => da ρ fun rs ρ1 => f (rs.map (Rs.dat ρ1)) fun z => Q z ρ1
theorem simE_cb {r : List V → Hp → VK → Prop} {f : OpN} {ta : TA} {da : DA} (hr : SimRN r f) (h : SimA ta da) : SimE (tCB r ta) (dCB f da) := fun H0 B σ H ρ Q QD R q k =>
  h H0 B σ H ρ _ _ R q fun rs ρ1 vs H1 R1 S1 K1 o1 q1 => hr (Al B σ ρ1) H1 vs _ _ _ R1.adom (o1.vw R1) q1 fun z v H' g rv q => k z ρ1 v H' (R1.grow g) (S1.trans g.stp) K1 ((resOk_of R1 g rv).back S1.dom) q
theorem VwAll.one {A : Av} {H : Hp} {vs : List V} {d : PyData} (h : VwAll A H vs [d]) : ∃ v, vs = [v] ∧ Vw A H v d := by
  cases vs with
  | nil => exact h.elim
  | cons v r =>
    cases r with
    | nil => exact ⟨v, rfl, h.1⟩
    | cons _ _ => exact h.2.elim
theorem VwAll.two {A : Av} {H : Hp} {vs : List V} {d e : PyData} (h : VwAll A H vs [d, e]) : ∃ v w, vs = [v, w] ∧ Vw A H v d ∧ Vw A H w e := by
  cases vs with
  | nil => exact h.elim
  | cons v r =>
    obtain ⟨w, e, h2⟩ := VwAll.one h.2
    subst e
    exact ⟨v, w, rfl, h.1, h2⟩
/-- len of a list, a tuple -/
def oLen : OpN := fun ds Z => match ds with
  | [d] => ∃ xs, itemsD d = some xs ∧ Z (.fz (.int xs.length))
  | _ => False
def rLenU (K : PySem.W.Frag) : List V → Hp → VK → Prop := fun xs H Q => ∃ p ys, xs = [.ref p] ∧ (SqL K H p ys ∨ SqT K H p ys) ∧ Q (.int ys.length) H
theorem call_lenU {X : Cx} : CallR X (.builtin "len") (rLenU X.K) := call_len_seq
theorem simRN_len {K : PySem.W.Frag} : SimRN (rLenU K) oLen := fun A H xs ds Q Z ad hv q k => by
  unfold oLen at q
  split at q
  · rename_i d
    obtain ⟨v, e, hv1⟩ := VwAll.one hv
    subst e
    obtain ⟨us, e1, q⟩ := q
    obtain ⟨p, ys, e2, e3, e4⟩ := Vw.items (K := K) hv1 e1
    subst e2
    refine ⟨p, ys, rfl, e3, ?_⟩
    rw [e4.len]
    exact k (.fz _) _ H .refl (.int _) q
  · exact q.elim

/-! ### targets -/
theorem Rel.setFz {H0 : Fx} {B : Av} {σ : L2.St} {H : Hp} {ρ : DEnv} {i : Nat} {v : V} {d : PyData} (R : Rel H0 B σ H ρ) (h : Rp (Al B σ ρ) H v d) :
    Rel H0 B (σ.set i (some v)) H (ρ.set i (some (.fz d))) ∧ Stp σ ρ H (σ.set i (some v)) (ρ.set i (some (.fz d))) H := by
  have sub : ∀ q, Ow (σ.set i (some v)) (ρ.set i (some (.fz d))) q → Ow σ ρ q := fun q ⟨j, s, a, b, c⟩ => by
    by_cases hj : i = j
    · subst hj
      by_cases hl : i < ρ.length
      · rw [List.getElem?_set_self hl] at a
        cases a
        cases b
      · rw [List.getElem?_eq_none (by simp; omega)] at a
        cases a
    · rw [List.getElem?_set_ne hj] at a c
      exact ⟨j, s, a, b, c⟩
  have ps : Pass (Al B σ ρ) (Al B (σ.set i (some v)) (ρ.set i (some (.fz d)))) H H := ⟨fun a xs n e => ⟨fun q => n (q.elim .inl fun z => .inr (sub a z)), e⟩, fun _ _ e => e⟩
  have at_i : ∀ {s : Sl}, (ρ.set i (some (.fz d)))[i]? = some (some s) → s = .fz d ∧ i < σ.length := fun {s} a => by
    by_cases hl : i < ρ.length
    · rw [List.getElem?_set_self hl] at a
      cases a
      exact ⟨rfl, by rw [R.len]; exact hl⟩
    · rw [List.getElem?_eq_none (by simp; omega)] at a
      cases a
  refine ⟨⟨by simp [R.len], fun j d' a => ?_, fun j s a b => ?_, fun j d' q a b => ?_, fun j j' s t q a b a' b' c c' => ?_, R.dom, fun j d' a => ?_, R.bdom⟩, ⟨fun _ _ h _ => h, fun _ h => h, fun _ _ h => h, fun q z => .inl (sub q z)⟩⟩
  · by_cases hj : i = j
    · subst hj
      obtain ⟨e, hl⟩ := at_i a
      cases e
      exact ⟨v, by rw [List.getElem?_set_self hl], Rp.pass ps _ _ h⟩
    · rw [List.getElem?_set_ne hj] at a
      obtain ⟨v', c1, c2⟩ := R.fz j d' a
      exact ⟨v', by rw [List.getElem?_set_ne hj]; exact c1, Rp.pass ps _ _ c2⟩
  · by_cases hj : i = j
    · subst hj
      obtain ⟨e, hl⟩ := at_i a
      subst e
      cases b
    · rw [List.getElem?_set_ne hj] at a
      obtain ⟨q, c1, c2⟩ := R.own j s a b
      exact ⟨q, by rw [List.getElem?_set_ne hj]; exact c1, c2.pass ps rfl⟩
  · by_cases hj : i = j
    · subst hj
      obtain ⟨e, hl⟩ := at_i a
      cases e
    · rw [List.getElem?_set_ne hj] at a b
      exact R.mine j d' q a b
  · by_cases hj : i = j
    · subst hj
      obtain ⟨e, hl⟩ := at_i a
      subst e
      cases b
    · by_cases hj' : i = j'
      · subst hj'
        obtain ⟨e, hl⟩ := at_i a'
        subst e
        cases b'
      · rw [List.getElem?_set_ne hj] at a c
        rw [List.getElem?_set_ne hj'] at a' c'
        exact R.ne j j' s t q a b a' b' c c'
  · by_cases hj : i = j
    · subst hj
      obtain ⟨e, hl⟩ := at_i a
      cases e
    · rw [List.getElem?_set_ne hj] at a ⊢
      exact R.ioa j d' a
def dgName (i : Nat) : DG := fun d ρ Q => Q (ρ.set i (some (.fz d)))
theorem simG_name {i : Nat} : SimG (gName i) (dgName i) := fun H0 B σ H ρ v d Q QD R h q k =>
  have ⟨R', S'⟩ := R.setFz (i := i) h
  k _ H _ R' S' Keep.set q
def dgNil : DGs := fun ds ρ Q => ds = [] ∧ Q ρ
def dgCons (g : DG) (gs : DGs) : DGs := fun ds ρ Q => match ds with
  | d :: ds => g d ρ fun ρ1 => gs ds ρ1 Q
  | [] => False
def dgTup (n : Nat) (gs : DGs) : DG := fun d ρ Q => match d with
  | .tuple ds => ds.length = n ∧ gs ds ρ Q
  | _ => False
theorem simGs_nil : SimGs gNil dgNil := fun H0 B σ H ρ vs ds Q QD R h q k => by
  obtain ⟨e, q⟩ := q
  subst e
  cases h
  exact ⟨rfl, k σ H ρ R .refl .refl q⟩
theorem simGs_cons {tg : TG} {tgs : TGs} {g : DG} {gs : DGs} (h1 : SimG tg g) (h2 : SimGs tgs gs) : SimGs (gCons tg tgs) (dgCons g gs) := fun H0 B σ H ρ vs ds Q QD R h q k => by
  unfold dgCons at q
  split at q
  · cases h with
    | cons r rr =>
      refine ⟨_, _, rfl, h1 H0 B σ H ρ _ _ _ _ R r q fun σ1 H1 ρ1 R1 S1 K1 q1 => ?_⟩
      exact h2 H0 B σ1 H1 ρ1 _ _ _ _ R1 (RpAll.pass (S1.pass fun _ z => .inl z) _ _ rr) q1 fun σ2 H2 ρ2 R2 S2 K2 q2 => k σ2 H2 ρ2 R2 (S1.trans S2) (K1.trans K2) q2
  · exact q.elim
theorem simG_tup {K : PySem.W.Frag} {n : Nat} {tgs : TGs} {gs : DGs} (h2 : SimGs tgs gs) : SimG (gTup K n tgs) (dgTup n gs) := fun H0 B σ H ρ v d Q QD R h q k => by
  unfold dgTup at q
  split at q
  · cases h with
    | tup e r => exact ⟨_, _, rfl, SqT.of e, r.len.trans q.1, h2 H0 B σ H ρ _ _ _ _ R r q.2 k⟩
  · exact q.elim

/-! ### statements -/
theorem EndsOk.step {H0 : Fx} {B : Av} {σ σ1 : L2.St} {H H1 : Hp} {ρ ρ1 : DEnv} {D : Ends} {DD : DEnds} (E : EndsOk H0 B σ H ρ D DD) (S : Stp σ ρ H σ1 ρ1 H1) : EndsOk H0 B σ1 H1 ρ1 D DD :=
  ⟨fun σ' H' ρ' R' S' q => E.nx σ' H' ρ' R' (S.trans S') q, fun σ' H' ρ' R' S' q => E.bk σ' H' ρ' R' (S.trans S') q, fun σ' H' ρ' R' S' q => E.ct σ' H' ρ' R' (S.trans S') q, fun r ρ' v σ' H' R' S' o q => E.rt r ρ' v σ' H' R' (S.trans S') o q⟩
def dNext : DS := fun DD ρ => DD.nx ρ
def dSeq (a b : DS) : DS := fun DD ρ => a { DD with nx := b DD } ρ
theorem simS_next : SimS tNext dNext := fun H0 B σ H ρ D DD R q E => E.nx σ H ρ R .refl q
theorem simS_seq {t u : TS} {a b : DS} (ha : SimS t a) (hb : SimS u b) : SimS (tSeq t u) (dSeq a b) := fun H0 B σ H ρ D DD R q E =>
  ha H0 B σ H ρ _ _ R q ⟨fun σ' H' ρ' R' S' q' => hb H0 B σ' H' ρ' D DD R' q' (E.step S'), E.bk, E.ct, E.rt⟩
def dBreak : DS := fun DD ρ => DD.bk ρ
def dCont : DS := fun DD ρ => DD.ct ρ
theorem simS_break : SimS tBreak dBreak := fun H0 B σ H ρ D DD R q E => E.bk σ H ρ R .refl q
theorem simS_cont : SimS tCont dCont := fun H0 B σ H ρ D DD R q E => E.ct σ H ρ R .refl q
def dRet (de : DE) : DS := fun DD ρ => de ρ DD.rt
theorem simS_ret {te : TE} {de : DE} (h : SimE te de) : SimS (tRet te) (dRet de) := fun H0 B σ H ρ D DD R q E =>
  h H0 B σ H ρ _ _ R q fun r ρ1 v H1 R1 S1 K1 o1 q1 => E.rt r ρ1 v σ H1 R1 S1 (o1.back R.dom) q1
def dDrop (de : DE) : DS := fun DD ρ => de ρ fun _ ρ1 => DD.nx ρ1
theorem simS_drop {te : TE} {de : DE} (h : SimE te de) : SimS (tDrop te) (dDrop de) := fun H0 B σ H ρ D DD R q E =>
  h H0 B σ H ρ _ _ R q fun r ρ1 v H1 R1 S1 K1 o1 q1 => E.nx σ H1 ρ1 R1 S1 q1
def dIfS (t : DT) (a b : DS) : DS := fun DD ρ => t ρ fun c ρ1 => if c = true then a DD ρ1 else b DD ρ1
theorem simS_if {t : TT} {u v : TS} {dt : DT} {a b : DS} (ht : SimT t dt) (ha : SimS u a) (hb : SimS v b) : SimS (tIfS t u v) (dIfS dt a b) := fun H0 B σ H ρ D DD R q E =>
  ht H0 B σ H ρ _ _ R q fun c ρ1 H1 R1 S1 K1 q1 => by
    cases c with
    | true => exact ha H0 B σ H1 ρ1 D DD R1 q1 (E.step S1)
    | false => exact hb H0 B σ H1 ρ1 D DD R1 q1 (E.step S1)
/-- target = e, the value may be stored anywhere -/
def dAsg (de : DE) (g : DG) : DS := fun DD ρ => de ρ fun r ρ1 => ∃ d, r.sto = some d ∧ g d ρ1 DD.nx
theorem simS_asg {te : TE} {tg : TG} {de : DE} {g : DG} (h : SimE te de) (hg : SimG tg g) : SimS (tAsg te tg) (dAsg de g) := fun H0 B σ H ρ D DD R q E =>
  h H0 B σ H ρ _ _ R q fun r ρ1 v H1 R1 S1 K1 o1 q1 => by
    obtain ⟨d, e, q1⟩ := q1
    exact hg H0 B σ H1 ρ1 v d _ _ R1 (o1.cv.sto e) q1 fun σ2 H2 ρ2 R2 S2 _ q2 => E.nx σ2 H2 ρ2 R2 (S1.trans S2) q2
/-- x = a new list, a new dict, one's own -/
theorem Rel.setOw {H0 : Fx} {B : Av} {σ : L2.St} {H : Hp} {ρ : DEnv} {i : Nat} {p : Addr} {d : PyData} (R : Rel H0 (bor B p) σ H ρ) (h0 : H0.h p = none) (nb : ¬ B p) (no : ¬ Ow σ ρ p) (ho : Hold (Al (bor B p) σ ρ) H p d) (hi : i < ρ.length) :
    Rel H0 B (σ.set i (some (.ref p))) H (ρ.set i (some (.ow d))) ∧ ∀ q, Ow (σ.set i (some (.ref p))) (ρ.set i (some (.ow d))) q → Ow σ ρ q ∨ q = p := by
  have hiσ : i < σ.length := by rw [R.len]; exact hi
  have sub : ∀ q, Ow (σ.set i (some (.ref p))) (ρ.set i (some (.ow d))) q → Ow σ ρ q ∨ q = p := fun q ⟨j, s, a, b, c⟩ => by
    by_cases hj : i = j
    · subst hj
      rw [List.getElem?_set_self hiσ] at c
      cases c
      exact .inr rfl
    · rw [List.getElem?_set_ne hj] at a c
      exact .inl ⟨j, s, a, b, c⟩
  have ps : Pass (Al (bor B p) σ ρ) (Al B (σ.set i (some (.ref p))) (ρ.set i (some (.ow d)))) H H := ⟨fun a xs n e => ⟨fun q => n (by
    rcases q with q | q
    · exact .inl (.inl q)
    · rcases sub a q with z | z
      · exact .inr z
      · exact .inl (.inr z)), e⟩, fun _ _ e => e⟩
  have own' : ∀ (j : Nat) (s : Sl) (q : Addr), i ≠ j → ρ[j]? = some (some s) → s.own = true → σ[j]? = some (some (V.ref q)) → q ≠ p := fun j s q hj a b c z => by
    subst z
    exact no ⟨j, s, a, b, c⟩
  refine ⟨⟨by simp [R.len], fun j d' a => ?_, fun j s a b => ?_, fun j d' q a b => ?_, fun j j' s t q a b a' b' c c' => ?_, R.dom, fun j d' a => ?_, fun b h => R.bdom b (.inl h)⟩, sub⟩
  · by_cases hj : i = j
    · subst hj
      rw [List.getElem?_set_self hi] at a
      cases a
    · rw [List.getElem?_set_ne hj] at a
      obtain ⟨v', c1, c2⟩ := R.fz j d' a
      exact ⟨v', by rw [List.getElem?_set_ne hj]; exact c1, Rp.pass ps _ _ c2⟩
  · by_cases hj : i = j
    · subst hj
      rw [List.getElem?_set_self hi] at a
      cases a
      exact ⟨p, by rw [List.getElem?_set_self hiσ], ho.pass ps rfl⟩
    · rw [List.getElem?_set_ne hj] at a
      obtain ⟨q, c1, c2⟩ := R.own j s a b
      exact ⟨q, by rw [List.getElem?_set_ne hj]; exact c1, c2.pass ps rfl⟩
  · by_cases hj : i = j
    · subst hj
      rw [List.getElem?_set_self hiσ] at b
      cases b
      exact ⟨h0, nb⟩
    · rw [List.getElem?_set_ne hj] at a b
      have := R.mine j d' q a b
      exact ⟨this.1, fun z => this.2 (.inl z)⟩
  · by_cases hj : i = j
    · by_cases hj' : i = j'
      · exact hj.symm.trans hj'
      · subst hj
        rw [List.getElem?_set_self hiσ] at c
        cases c
        rw [List.getElem?_set_ne hj'] at a' c'
        exact (own' j' t _ hj' a' b' c' rfl).elim
    · by_cases hj' : i = j'
      · subst hj'
        rw [List.getElem?_set_self hiσ] at c'
        cases c'
        rw [List.getElem?_set_ne hj] at a c
        exact (own' j s _ hj a b c rfl).elim
      · rw [List.getElem?_set_ne hj] at a c
        rw [List.getElem?_set_ne hj'] at a' c'
        exact R.ne j j' s t q a b a' b' c c'
  · by_cases hj : i = j
    · subst hj
      rw [List.getElem?_set_self hi] at a
      cases a
    · rw [List.getElem?_set_ne hj] at a ⊢
      exact R.ioa j d' a
def dAsgO (de : DE) (i : Nat) : DS := fun DD ρ => de ρ fun r ρ1 => match r with
  | .nw d => i < ρ1.length ∧ DD.nx (ρ1.set i (some (.ow d)))
  | _ => False
theorem simS_asgO {te : TE} {de : DE} {i : Nat} (h : SimE te de) : SimS (tAsg te (gName i)) (dAsgO de i) := fun H0 B σ H ρ D DD R q E =>
  h H0 B σ H ρ _ _ R q fun r ρ1 v H1 R1 S1 K1 o1 q1 => by
    cases r with
    | fz d => exact q1.elim
    | br j => exact q1.elim
    | np _ _ => exact q1.elim
    | nw d =>
      obtain ⟨p, e, hs, nb, no, ho, Rp'⟩ := o1
      subst e
      obtain ⟨R2, sub⟩ := Rp'.setOw (R.dom p hs) nb no ho q1.1
      refine E.nx _ H1 _ R2 ⟨S1.keep, S1.dom, S1.tup, fun q z => ?_⟩ q1.2
      rcases sub q z with z | z
      · exact S1.own q z
      · exact .inr (by rw [z]; exact hs)
end Dl
set_option Elab.async false
set_option linter.all false
set_option maxRecDepth 100000
set_option maxHeartbeats 4000000
/-! The data layer, part 4: what is changed in place, loops, comprehensions. -/
namespace Dl
open PySem L2

/-! ### an own list, dict written -/
/-- slot i's object is replaced by o, holding d' -/
theorem Rel.write {H0 : Fx} {B : Av} {σ : L2.St} {H : Hp} {ρ : DEnv} {i : Nat} {s : Sl} {p : Addr} {o : HO} {d' : PyData} (R : Rel H0 B σ H ρ) (e : ρ[i]? = some (some s)) (hs : s.own = true) (hp : σ[i]? = some (some (V.ref p)))
    (ho : Hold (Al B σ ρ) (upd H p o) p d') : Rel H0 B σ (upd H p o) (ρ.set i (some (s.with d'))) ∧ Stp σ ρ H σ (ρ.set i (some (s.with d'))) (upd H p o) := by
  have hO : Ow σ ρ p := ⟨i, s, e, hs, hp⟩
  have hw : (s.with d').own = true := by cases s <;> first | rfl | cases hs
  have hd : (s.with d').dat = d' := by cases s <;> rfl
  have hi : i < ρ.length := (List.getElem?_eq_some_iff.mp e).1
  obtain ⟨o0, eo0, nt⟩ : ∃ o, H p = some o ∧ ∀ xs, o ≠ .tup xs := by
    obtain ⟨p', c1, c2⟩ := R.own i s e hs
    rw [hp] at c1
    cases c1
    exact c2.some
  have ow : ∀ q, Ow σ (ρ.set i (some (s.with d'))) q ↔ Ow σ ρ q := fun q => by
    constructor
    · rintro ⟨j, t, a, b, c⟩
      by_cases hj : i = j
      · subst hj
        rw [hp] at c
        cases c
        exact hO
      · rw [List.getElem?_set_ne hj] at a
        exact ⟨j, t, a, b, c⟩
    · rintro ⟨j, t, a, b, c⟩
      by_cases hj : i = j
      · subst hj
        exact ⟨i, _, List.getElem?_set_self hi, hw, c⟩
      · exact ⟨j, t, by rw [List.getElem?_set_ne hj]; exact a, b, c⟩
  have al : ∀ q, Al B σ (ρ.set i (some (s.with d'))) q ↔ Al B σ ρ q := fun q => or_congr Iff.rfl (ow q)
  have ps : Pass (Al B σ ρ) (Al B σ (ρ.set i (some (s.with d')))) H (upd H p o) := ⟨fun a xs n e => by
    have ne : a ≠ p := fun z => n (by rw [z]; exact .inr hO)
    exact ⟨fun q => n ((al a).mp q), by rw [upd_ne ne]; exact e⟩, fun a xs e => by
    have ne : a ≠ p := fun z => by
      rw [z, eo0] at e
      cases e
      exact nt xs rfl
    rw [upd_ne ne]
    exact e⟩
  have ps2 : Pass (Al B σ ρ) (Al B σ (ρ.set i (some (s.with d')))) (upd H p o) (upd H p o) := ⟨fun a xs n e => ⟨fun q => n ((al a).mp q), e⟩, fun _ _ e => e⟩
  refine ⟨⟨by simp [R.len], fun j d a => ?_, fun j t a b => ?_, fun j d q a b => ?_, fun j j' t u q a b a' b' c c' => ?_, fun b h => ?_, fun j d a => ?_, fun b h => ?_⟩, ⟨fun b u h n => ?_, fun b h => ?_, fun b xs h => ps.t b xs h, fun q z => .inl ((ow q).mp z)⟩⟩
  · by_cases hj : i = j
    · subst hj
      rw [List.getElem?_set_self hi] at a
      have a' : s.with d' = .fz d := by simpa using a
      rw [a'] at hw
      cases hw
    · rw [List.getElem?_set_ne hj] at a
      obtain ⟨v, c1, c2⟩ := R.fz j d a
      exact ⟨v, c1, Rp.pass ps _ _ c2⟩
  · by_cases hj : i = j
    · subst hj
      rw [List.getElem?_set_self hi] at a
      have a' : s.with d' = t := by simpa using a
      subst a'
      rw [hd]
      exact ⟨p, hp, ho.pass ps2 rfl⟩
    · rw [List.getElem?_set_ne hj] at a
      obtain ⟨q, c1, c2⟩ := R.own j t a b
      have ne : q ≠ p := fun z => by
        subst z
        exact hj (R.ne i j s t q e hs a b hp c1)
      exact ⟨q, c1, c2.pass ps (upd_ne ne)⟩
  · by_cases hj : i = j
    · subst hj
      rw [List.getElem?_set_self hi] at a
      have a' : s.with d' = .ow d := by simpa using a
      cases s with
      | ow d0 => exact R.mine i d0 q e b
      | fz d0 => cases a'
      | io d0 => cases a'
    · rw [List.getElem?_set_ne hj] at a
      exact R.mine j d q a b
  · have back : ∀ (j : Nat) (t : Sl), (ρ.set i (some (s.with d')))[j]? = some (some t) → t.own = true → ∃ t', ρ[j]? = some (some t') ∧ t'.own = true := fun j t a b => by
      by_cases hj : i = j
      · subst hj
        exact ⟨s, e, hs⟩
      · rw [List.getElem?_set_ne hj] at a
        exact ⟨t, a, b⟩
    obtain ⟨t', x1, x2⟩ := back j t a b
    obtain ⟨u', y1, y2⟩ := back j' u a' b'
    exact R.ne j j' t' u' q x1 x2 y1 y2 c c'
  · by_cases hb : b = p
    · subst hb
      rw [upd_same] at h
      cases h
    · rw [upd_ne hb] at h
      exact R.dom b h
  · by_cases hj : i = j
    · subst hj
      rw [List.getElem?_set_self hi] at a
      have a' : s.with d' = .io d := by simpa using a
      cases s with
      | io d0 => exact R.ioa i d0 e
      | fz d0 => cases a'
      | ow d0 => cases a'
    · rw [List.getElem?_set_ne hj] at a
      exact R.ioa j d a
  · by_cases hb : b = p
    · subst hb
      rw [upd_same]
      exact fun z => nomatch z
    · rw [upd_ne hb]
      exact R.bdom b h
  · have ne : b ≠ p := fun z => n (by rw [z]; exact hO)
    rw [upd_ne ne]
    exact h
  · by_cases hb : b = p
    · subst hb
      rw [upd_same] at h
      cases h
    · rw [upd_ne hb] at h
      exact h
/-- an address to be avoided is written (a comprehension's list) -/
theorem Rel.writeB {H0 : Fx} {B : Av} {σ : L2.St} {H : Hp} {ρ : DEnv} {p : Addr} {xs ys : List V} (R : Rel H0 B σ H ρ) (hb : B p) (no : ¬ Ow σ ρ p) (e0 : H p = some (.lst xs)) : Rel H0 B σ (upd H p (.lst ys)) ρ := by
  have ps : Pass (Al B σ ρ) (Al B σ ρ) H (upd H p (.lst ys)) := ⟨fun a zs n e => by
    have ne : a ≠ p := fun z => n (by rw [z]; exact .inl hb)
    exact ⟨n, by rw [upd_ne ne]; exact e⟩, fun a zs e => by
    have ne : a ≠ p := fun z => by
      rw [z, e0] at e
      cases e
    rw [upd_ne ne]
    exact e⟩
  refine ⟨R.len, fun i d a => let ⟨v, c1, c2⟩ := R.fz i d a; ⟨v, c1, Rp.pass ps _ _ c2⟩, fun i s a b => ?_, R.mine, R.ne, fun b h => ?_, R.ioa, fun b h => ?_⟩
  · obtain ⟨q, c1, c2⟩ := R.own i s a b
    have ne : q ≠ p := fun z => no ⟨i, s, a, b, by rw [← z]; exact c1⟩
    exact ⟨q, c1, c2.pass ps (upd_ne ne)⟩
  · by_cases hb : b = p
    · subst hb
      rw [upd_same] at h
      cases h
    · rw [upd_ne hb] at h
      exact R.dom b h
  · by_cases hb : b = p
    · subst hb
      rw [upd_same]
      exact fun z => nomatch z
    · rw [upd_ne hb]
      exact R.bdom b h

/-- x.append(e), x in slot i -/
def dApp (i : Nat) (de : DE) : DS := fun DD ρ => de ρ fun r ρ1 => ∃ d, r.sto = some d ∧ match ρ1[i]? with
  | some (some s) => match s.dat with
    | .list ds => s.own = true ∧ ds.length < 100000 ∧ DD.nx (ρ1.set i (some (s.with (.list (ds ++ [d])))))
    | _ => False
  | _ => False
/-- a slot that holds an own list, ahead of an expression -/
theorem simS_app {K : PySem.W.Frag} {i : Nat} {te : TE} {de : DE} (h : SimE te de) : SimS (tDrop (tBM K "list" rAppend (tVar i) (tCons te tNil)))
    (fun DD ρ => (∃ s ds, ρ[i]? = some (some s) ∧ s.own = true ∧ s.dat = .list ds) ∧ dApp i de DD ρ) := fun H0 B σ H ρ D DD R q E => by
  obtain ⟨⟨s, ds, e1, e2, e3⟩, q⟩ := q
  obtain ⟨p, h1, h2⟩ := R.own i s e1 e2
  rw [e3] at h2
  obtain ⟨xs, h3, _⟩ := h2
  refine ⟨_, h1, .inl ⟨rfl, _, SqL.of h3⟩, ?_⟩
  refine h H0 B σ H ρ _ _ R q fun r ρ1 v H1 R1 S1 K1 o1 q1 => ?_
  obtain ⟨d, hd, q1⟩ := q1
  split at q1
  · rename_i s1 es1
    split at q1
    · rename_i ds1 ed1
      obtain ⟨hs1, hl, q1⟩ := q1
      obtain ⟨p1, c1, c2⟩ := R1.own i s1 es1 hs1
      rw [h1] at c1
      cases c1
      rw [ed1] at c2
      obtain ⟨ys, c3, c4⟩ := c2
      have rp := o1.cv.sto hd
      refine ⟨p, ys, v, rfl, rfl, c3, sz5' (by rw [c4.len]; exact hl), ?_⟩
      have ps : Pass (Al B σ ρ1) (Al B σ ρ1) H1 (upd H1 p (.lst (ys ++ [v]))) := ⟨fun a zs n e => by
        have ne : a ≠ p := fun z => n (by rw [z]; exact .inr ⟨i, s1, es1, hs1, h1⟩)
        exact ⟨n, by rw [upd_ne ne]; exact e⟩, fun a zs e => by
        have ne : a ≠ p := fun z => by
          rw [z, c3] at e
          cases e
        rw [upd_ne ne]
        exact e⟩
      obtain ⟨R2, S2⟩ := R1.write (o := .lst (ys ++ [v])) (d' := .list (ds1 ++ [d])) es1 hs1 h1 ⟨_, upd_same, (RpAll.pass ps _ _ c4).app (.cons (Rp.pass ps _ _ rp) .nil)⟩
      exact E.nx σ _ _ R2 (S1.trans S2) q1
    · exact q1.elim
  · exact q1.elim
/-- x[k] = e, x in slot i (a list) -/
def dSet (i : Nat) (de dk : DE) : DS := fun DD ρ => de ρ fun r ρ1 => ∃ d, r.sto = some d ∧ dk ρ1 fun rk ρ2 => match rk.dat ρ2, ρ2[i]? with
  | .int k, some (some s) => match s.dat with
    | .list ds => s.own = true ∧ ∃ j, ixN ds.length k = some j ∧ DD.nx (ρ2.set i (some (s.with (.list (ds.set j d)))))
    | _ => False
  | _, _ => False
theorem simS_set {i : Nat} {te tk : TE} {de dk : DE} (h : SimE te de) (hk : SimE tk dk) : SimS (tAsg te (gSub (tVar i) tk rSetL))
    (fun DD ρ => (∃ s, ρ[i]? = some (some s) ∧ s.own = true) ∧ dSet i de dk DD ρ) := fun H0 B σ H ρ D DD R q E => by
  obtain ⟨⟨s, e1, e2⟩, q⟩ := q
  obtain ⟨p, h1, h2⟩ := R.own i s e1 e2
  refine h H0 B σ H ρ _ _ R q fun r ρ1 v H1 R1 S1 K1 o1 q1 => ?_
  obtain ⟨d, hd, q1⟩ := q1
  refine ⟨_, h1, ?_⟩
  refine hk H0 B σ H1 ρ1 _ _ R1 q1 fun rk ρ2 vk H2 R2 S2 K2 o2 q2 => ?_
  have vw := o2.cv.vw R2
  have rp := (o1.cv.step S2 K2).sto hd
  split at q2
  · rename_i k' s1 ek es1
    rw [ek] at vw
    cases vw.int
    split at q2
    · rename_i ds1 ed1
      obtain ⟨hs1, j, hj, q2⟩ := q2
      obtain ⟨p1, c1, c2⟩ := R2.own i s1 es1 hs1
      rw [h1] at c1
      cases c1
      rw [ed1] at c2
      obtain ⟨ys, c3, c4⟩ := c2
      refine ⟨p, ys, k', j, rfl, rfl, c3, by rw [c4.len]; exact hj, ?_⟩
      have ps : Pass (Al B σ ρ2) (Al B σ ρ2) H2 (upd H2 p (.lst (ys.set j v))) := ⟨fun a zs n e => by
        have ne : a ≠ p := fun z => n (by rw [z]; exact .inr ⟨i, s1, es1, hs1, h1⟩)
        exact ⟨n, by rw [upd_ne ne]; exact e⟩, fun a zs e => by
        have ne : a ≠ p := fun z => by
          rw [z, c3] at e
          cases e
        rw [upd_ne ne]
        exact e⟩
      obtain ⟨R3, S3⟩ := R2.write (o := .lst (ys.set j v)) (d' := .list (ds1.set j d)) es1 hs1 h1 ⟨_, upd_same, RpAll.set (Rp.pass ps _ _ rp) j (RpAll.pass ps _ _ c4)⟩
      exact E.nx σ _ _ R3 ((S1.trans S2).trans S3) q2
    · exact q2.elim
  · exact q2.elim
/-- x op= e, ints -/
def dAug (i : Nat) (f : Int → Int → Int) (de : DE) : DS := fun DD ρ => match ρ[i]? with
  | some (some (.fz (.int a))) => de ρ fun r ρ1 => match r.dat ρ1 with
    | .int b => DD.nx (ρ1.set i (some (.fz (.int (f a b)))))
    | _ => False
  | _ => False
theorem simS_aug {i : Nat} {f : Int → Int → Int} {te : TE} {de : DE} (h : SimE te de) : SimS (tAug i te (L2.ipI f)) (dAug i f de) := fun H0 B σ H ρ D DD R q E => by
  unfold dAug at q
  split at q
  · rename_i a e
    obtain ⟨v, h1, h2⟩ := R.fz i _ e
    cases h2
    refine ⟨_, h1, h H0 B σ H ρ _ _ R q fun r ρ1 v H1 R1 S1 K1 o1 q1 => ?_⟩
    have vw := o1.cv.vw R1
    split at q1
    · rename_i b eb
      rw [eb] at vw
      cases vw.int
      obtain ⟨R2, S2⟩ := R1.setFz (i := i) (v := .int (f a b)) (d := .int (f a b)) (.int _)
      exact ⟨a, b, rfl, rfl, E.nx _ _ _ R2 (S1.trans S2) q1⟩
    · exact q1.elim
  · exact q.elim

/-! ### several names at once -/
/-- the reading does not look at slot i -/
def Ind (te : TE) (i : Nat) : Prop := ∀ (σ : L2.St) (x : Option V), te (σ.set i x) = te σ
def IndA (ta : TA) (i : Nat) : Prop := ∀ (σ : L2.St) (x : Option V), ta (σ.set i x) = ta σ
theorem ind_var {i j : Nat} (h : i ≠ j) : Ind (tVar j) i := fun σ x => by
  funext H Q
  unfold tVar
  rw [List.getElem?_set_ne h]
theorem ind_c {v : V} {i : Nat} : Ind (tC v) i := fun _ _ => rfl
theorem ind_op {r : R2} {ta tb : TE} {i : Nat} (ha : Ind ta i) (hb : Ind tb i) : Ind (tOp r ta tb) i := fun σ x => by
  funext H Q
  simp only [tOp, ha σ x, hb σ x]
theorem ind_lst {ta : TA} {i : Nat} (h : IndA ta i) : Ind (tLst ta) i := fun σ x => by
  funext H Q
  simp only [tLst, h σ x]
theorem ind_tup {ta : TA} {i : Nat} (h : IndA ta i) : Ind (tTup ta) i := fun σ x => by
  funext H Q
  simp only [tTup, h σ x]
theorem ind_nil {i : Nat} : IndA tNil i := fun _ _ => rfl
theorem ind_cons {te : TE} {ta : TA} {i : Nat} (h : Ind te i) (h' : IndA ta i) : IndA (tCons te ta) i := fun σ x => by
  funext H Q
  simp only [tCons, h σ x, h' σ x]
theorem ind_cb {r : List V → Hp → VK → Prop} {ta : TA} {i : Nat} (h : IndA ta i) : Ind (tCB r ta) i := fun σ x => by
  funext H Q
  simp only [tCB, h σ x]
theorem ind_call {sp : Sp} {dvs : List V} {E : XK} {ta : TA} {i : Nat} (h : IndA ta i) : Ind (tCall sp dvs E ta) i := fun σ x => by
  funext H Q
  simp only [tCall, h σ x]
theorem simS_par {i j : Nat} {t1 t2 : TE} {d : DS} (h : SimS (tSeq (tAsg t1 (gName i)) (tAsg t2 (gName j))) d) (hi : Ind t2 i) : SimS (tPar i j (tCons t1 (tCons t2 tNil))) d := fun H0 B σ H ρ D DD R q E => by
  have z := h H0 B σ H ρ D DD R q E
  have e : tPar i j (tCons t1 (tCons t2 tNil)) D σ H = t1 σ H fun x H1 => t2 σ H1 fun y H2 => ∃ v w, [x, y] = [v, w] ∧ D.nx ((σ.set i (some v)).set j (some w)) H2 := rfl
  have e2 : tSeq (tAsg t1 (gName i)) (tAsg t2 (gName j)) D σ H = t1 σ H fun x H1 => t2 (σ.set i (some x)) H1 fun y H2 => D.nx ((σ.set i (some x)).set j (some y)) H2 := rfl
  rw [e2] at z
  rw [e]
  have e3 : (fun x H1 => t2 (σ.set i (some x)) H1 fun y H2 => D.nx ((σ.set i (some x)).set j (some y)) H2) = fun x H1 => t2 σ H1 fun y H2 => ∃ v w, [x, y] = [v, w] ∧ D.nx ((σ.set i (some v)).set j (some w)) H2 := by
    funext x H1
    rw [hi]
    congr 1
    funext y H2
    apply propext
    constructor
    · intro z
      exact ⟨x, y, rfl, z⟩
    · rintro ⟨v, w, e, z⟩
      cases e
      exact z
  rw [← e3]
  exact z
theorem simS_par3 {i j l : Nat} {t1 t2 t3 : TE} {d : DS} (h : SimS (tSeq (tAsg t1 (gName i)) (tSeq (tAsg t2 (gName j)) (tAsg t3 (gName l)))) d) (hi : Ind t2 i) (hi' : Ind t3 i) (hj : Ind t3 j) : SimS (tPar3 i j l (tCons t1 (tCons t2 (tCons t3 tNil)))) d := fun H0 B σ H ρ D DD R q E => by
  have z := h H0 B σ H ρ D DD R q E
  have e : tPar3 i j l (tCons t1 (tCons t2 (tCons t3 tNil))) D σ H = t1 σ H fun x H1 => t2 σ H1 fun y H2 => t3 σ H2 fun y3 H3 => ∃ u v w, [x, y, y3] = [u, v, w] ∧ D.nx (((σ.set i (some u)).set j (some v)).set l (some w)) H3 := rfl
  have e2 : tSeq (tAsg t1 (gName i)) (tSeq (tAsg t2 (gName j)) (tAsg t3 (gName l))) D σ H = t1 σ H fun x H1 => t2 (σ.set i (some x)) H1 fun y H2 => t3 ((σ.set i (some x)).set j (some y)) H2 fun y3 H3 => D.nx (((σ.set i (some x)).set j (some y)).set l (some y3)) H3 := rfl
  rw [e2] at z
  rw [e]
  have e3 : (fun x H1 => t2 (σ.set i (some x)) H1 fun y H2 => t3 ((σ.set i (some x)).set j (some y)) H2 fun y3 H3 => D.nx (((σ.set i (some x)).set j (some y)).set l (some y3)) H3) = fun x H1 => t2 σ H1 fun y H2 => t3 σ H2 fun y3 H3 => ∃ u v w, [x, y, y3] = [u, v, w] ∧ D.nx (((σ.set i (some u)).set j (some v)).set l (some w)) H3 := by
    funext x H1
    rw [hi]
    congr 1
    funext y H2
    rw [hj, hi']
    congr 1
    funext y3 H3
    apply propext
    constructor
    · intro z
      exact ⟨x, y, y3, rfl, z⟩
    · rintro ⟨u, v, w, e, z⟩
      cases e
      exact z
  rw [← e3]
  exact z

/-! ### what is walked -/
structure WalkD (σ : L2.St) (ρ : DEnv) (A0 : Av) (H' : Hp) (J : It) (items : List PyData) : Prop where
  goes : ∀ i H, (∀ b o, H' b = some o → ¬ Ow σ ρ b → H b = some o) → (∀ b xs, H' b = some (.tup xs) → H b = some (.tup xs)) → i < items.length → J.go i H
  stops : ∀ H, (∀ b o, H' b = some o → ¬ Ow σ ρ b → H b = some o) → (∀ b xs, H' b = some (.tup xs) → H b = some (.tup xs)) → J.stop items.length H
  yields : ∀ i H A x Hx, Pass A0 A H' H → (∀ b o, H' b = some o → ¬ Ow σ ρ b → H b = some o) → i < items.length → J.yld i H x Hx → Grow H Hx ∧ ∃ d, items[i]? = some d ∧ Rp A Hx x d
abbrev DI := DEnv → (List PyData → DEnv → Prop) → Prop
def SimI (wi : TI) (di : DI) : Prop := ∀ (H0 : Fx) (B : Av) (σ : L2.St) (H : Hp) (ρ : DEnv) (R : It → Hp → Prop) (QD : List PyData → DEnv → Prop), Rel H0 B σ H ρ → di ρ QD →
  (∀ J items ρ' H', Rel H0 B σ H' ρ' → Stp σ ρ H σ ρ' H' → Keep ρ ρ' → WalkD σ ρ' (Al B σ ρ') H' J items → QD items ρ' → R J H') → wi σ H R
def dList (de : DE) : DI := fun ρ Q => de ρ fun r ρ1 => ∃ ds, r.sto = some (.list ds) ∧ Q ds ρ1
def dTupI (de : DE) : DI := fun ρ Q => de ρ fun r ρ1 => ∃ ds, r.sto = some (.tuple ds) ∧ Q ds ρ1
theorem simI_list {K : PySem.W.Frag} {te : TE} {de : DE} (h : SimE te de) : SimI (iList K te) (dList de) := fun H0 B σ H ρ R QD Rl q k =>
  h H0 B σ H ρ _ _ Rl q fun r ρ1 v H1 R1 S1 K1 o1 q1 => by
    obtain ⟨ds, e, q1⟩ := q1
    have rp := o1.cv.sto e
    cases rp with
    | @lst a xs _ na ea ra =>
      refine ⟨a, rfl, ⟨xs, SqL.of ea⟩, k (Itl K a) ds ρ1 H1 R1 S1 K1 ⟨fun i H' kp kt hi => ?_, fun H' kp kt => ?_, fun i H' A x Hx ps kp hi y => ?_⟩ q1⟩
      · have hi' : i < xs.length := by rw [ra.len]; exact hi
        exact ⟨xs, xs[i], SqL.of (kp a _ ea fun z => na (.inr z)), by simp [hi']⟩
      · exact ⟨xs, SqL.of (kp a _ ea fun z => na (.inr z)), by rw [ra.len]; exact Nat.le_refl _⟩
      · obtain ⟨e1, e2⟩ := y
        subst e1
        obtain ⟨v, c1, c2⟩ := ra.get (i := i) (d := ds[i]) (by simp [hi])
        have e3 := e2 xs (SqL.of (kp a _ ea fun z => na (.inr z)))
        rw [c1] at e3
        cases e3
        exact ⟨.refl, ds[i], by simp [hi], Rp.pass ps _ _ c2⟩
theorem simI_tup {K : PySem.W.Frag} {te : TE} {de : DE} (h : SimE te de) : SimI (iTup K te) (dTupI de) := fun H0 B σ H ρ R QD Rl q k =>
  h H0 B σ H ρ _ _ Rl q fun r ρ1 v H1 R1 S1 K1 o1 q1 => by
    obtain ⟨ds, e, q1⟩ := q1
    have rp := o1.cv.sto e
    cases rp with
    | @tup a xs _ ea ra =>
      refine ⟨a, rfl, ⟨xs, SqT.of ea⟩, k (Itt K a) ds ρ1 H1 R1 S1 K1 ⟨fun i H' kp kt hi => ?_, fun H' kp kt => ?_, fun i H' A x Hx ps kp hi y => ?_⟩ q1⟩
      · have hi' : i < xs.length := by rw [ra.len]; exact hi
        exact ⟨xs, xs[i], SqT.of (kt a _ ea), by simp [hi']⟩
      · exact ⟨xs, SqT.of (kt a _ ea), by rw [ra.len]; exact Nat.le_refl _⟩
      · obtain ⟨e1, e2⟩ := y
        subst e1
        obtain ⟨v, c1, c2⟩ := ra.get (i := i) (d := ds[i]) (by simp [hi])
        have e3 := e2 xs (SqT.of (ps.t a _ ea))
        rw [c1] at e3
        cases e3
        exact ⟨.refl, ds[i], by simp [hi], Rp.pass ps _ _ c2⟩
/-- lo, lo + 1, .. : n of them -/
def rngD (lo : Int) (n : Nat) : List PyData := (List.range n).map fun (i : Nat) => PyData.int (lo + (i : Int))
theorem rngD_len (lo : Int) (n : Nat) : (rngD lo n).length = n := by simp [rngD]
theorem rngD_get {lo : Int} {n i : Nat} (h : i < n) : (rngD lo n)[i]? = some (.int (lo + i)) := by simp [rngD, h]
def dRng1 (da : DA) : DI := fun ρ Q => da ρ fun rs ρ1 => match rs.map (Rs.dat ρ1) with
  | [.int j] => -(2 ^ 62) ≤ j ∧ j < 2 ^ 62 ∧ Q (rngD 0 j.toNat) ρ1
  | _ => False
def dRng2 (da : DA) : DI := fun ρ Q => da ρ fun rs ρ1 => match rs.map (Rs.dat ρ1) with
  | [.int i, .int j] => (-(2 ^ 62) ≤ i ∧ i < 2 ^ 62 ∧ -(2 ^ 62) ≤ j ∧ j < 2 ^ 62) ∧ Q (rngD i (j - i).toNat) ρ1
  | _ => False
theorem walk_rng {σ : L2.St} {ρ : DEnv} {A0 : Av} {H' : Hp} {lo : Int} {n : Nat} : WalkD σ ρ A0 H' (Itr lo n) (rngD lo n) :=
  ⟨fun i H _ _ hi => by rw [rngD_len] at hi; exact hi, fun H _ _ => by rw [rngD_len]; exact Nat.le_refl _, fun i H A x Hx _ _ hi y => by
    rw [rngD_len] at hi
    obtain ⟨e1, e2⟩ := y
    subst e1 e2
    exact ⟨.refl, _, rngD_get hi, .int _⟩⟩
theorem simI_rng1 {ta : TA} {da : DA} (h : SimA ta da) : SimI (iRng1 ta) (dRng1 da) := fun H0 B σ H ρ R QD Rl q k =>
  h H0 B σ H ρ _ _ Rl q fun rs ρ1 vs H1 R1 S1 K1 o1 q1 => by
    have vw := o1.vw R1
    split at q1
    · rename_i j e
      rw [e] at vw
      obtain ⟨v, e1, hv⟩ := VwAll.one vw
      cases hv.int
      exact ⟨j, e1, q1.1, q1.2.1, k _ _ ρ1 H1 R1 S1 K1 walk_rng q1.2.2⟩
    · exact q1.elim
theorem simI_rng2 {ta : TA} {da : DA} (h : SimA ta da) : SimI (iRng2 ta) (dRng2 da) := fun H0 B σ H ρ R QD Rl q k =>
  h H0 B σ H ρ _ _ Rl q fun rs ρ1 vs H1 R1 S1 K1 o1 q1 => by
    have vw := o1.vw R1
    split at q1
    · rename_i i j e
      rw [e] at vw
      obtain ⟨v, w, e1, hv, hw⟩ := VwAll.two vw
      cases hv.int
      cases hw.int
      exact ⟨i, j, e1, q1.1, k _ _ ρ1 H1 R1 S1 K1 walk_rng q1.2⟩
    · exact q1.elim

/-! ### for -/
def loopD (g : DG) (b : DS) (DD : DEnds) : List PyData → DEnv → Prop
  | [], ρ => DD.nx ρ
  | x :: xs, ρ => g x ρ fun ρ1 => b { DD with nx := loopD g b DD xs, ct := loopD g b DD xs, bk := DD.nx } ρ1
def dFor (di : DI) (g : DG) (b : DS) : DS := fun DD ρ => di ρ fun items ρ1 => loopD g b DD items ρ1
theorem simS_for {wi : TI} {tg : TG} {tb : TS} {di : DI} {g : DG} {b : DS} (hi : SimI wi di) (hg : SimG tg g) (hb : SimS tb b) : SimS (tFor wi tg tb) (dFor di g b) := fun H0 B σ H ρ D DD R q E => by
  refine hi H0 B σ H ρ _ _ R q fun J items ρ1 H1 R1 S1 K1 W q1 => ?_
  refine ⟨fun i m σ' H' => ∃ ρ', m + i = items.length ∧ Rel H0 B σ' H' ρ' ∧ Stp σ ρ1 H1 σ' ρ' H' ∧ loopD g b DD (items.drop i) ρ', ⟨items.length, ρ1, rfl, R1, .refl, q1⟩, ?_⟩
  rintro i m σ' H' ⟨ρ', hm, R', S', q'⟩
  by_cases hlt : i < items.length
  · refine .inr ⟨W.goes i H' S'.keep S'.tup hlt, ?_⟩
    have ed : items.drop i = items[i] :: items.drop (i + 1) := List.drop_eq_getElem_cons hlt
    rw [ed] at q'
    refine ⟨fun σ2 H2 => ∃ ρ2, Rel H0 B σ2 H2 ρ2 ∧ Stp σ ρ1 H1 σ2 ρ2 H2 ∧ loopD g b DD (items.drop (i + 1)) ρ2, fun σ2 H2 ⟨ρ2, a, b, c⟩ => ⟨m - 1, by omega, ρ2, by omega, a, b, c⟩, fun x Hx y => ?_⟩
    obtain ⟨gr, d, e1, rp⟩ := W.yields i H' (Al B σ' ρ') x Hx (S'.pass fun _ z => .inl z) S'.keep hlt y
    rw [List.getElem?_eq_getElem hlt] at e1
    cases e1
    have S2 := S'.trans (gr.stp (σ := σ') (ρ := ρ'))
    refine hg H0 B σ' Hx ρ' x _ _ _ (R'.grow gr) rp q' fun σ3 H3 ρ3 R3 S3 _ q3 => ?_
    refine hb H0 B σ3 H3 ρ3 _ _ R3 q3 ⟨fun σ4 H4 ρ4 R4 S4 q4 => ⟨ρ4, R4, (S2.trans S3).trans S4, q4⟩, fun σ4 H4 ρ4 R4 S4 q4 => E.nx σ4 H4 ρ4 R4 (((S1.trans S2).trans S3).trans S4) q4, fun σ4 H4 ρ4 R4 S4 q4 => ⟨ρ4, R4, (S2.trans S3).trans S4, q4⟩, fun r ρ4 v σ4 H4 R4 S4 o q4 => ?_⟩
    exact E.rt r ρ4 v σ4 H4 R4 (((S1.trans S2).trans S3).trans S4) o q4
  · have ed : items.drop i = [] := List.drop_eq_nil_of_le (by omega)
    rw [ed] at q'
    have ei : i = items.length := by omega
    subst ei
    exact .inl ⟨W.stops H' S'.keep S'.tup, E.nx σ' H' ρ' R' (S1.trans S') q'⟩
/-! ### while -/
def whileD (t : DT) (b : DS) (DD : DEnds) : Nat → DEnv → Prop
  | 0, _ => False
  | n + 1, ρ => t ρ fun c ρ1 => if c = true then b { DD with nx := whileD t b DD n, ct := whileD t b DD n, bk := DD.nx } ρ1 else DD.nx ρ1
def dWhile (t : DT) (b : DS) : DS := fun DD ρ => ∃ n, whileD t b DD n ρ
theorem simS_while {tt : TT} {tb : TS} {t : DT} {b : DS} (ht : SimT tt t) (hb : SimS tb b) : SimS (tWhile tt tb) (dWhile t b) := fun H0 B σ H ρ D DD R q E => by
  obtain ⟨n, q⟩ := q
  refine ⟨fun m σ' H' => ∃ ρ', Rel H0 B σ' H' ρ' ∧ Stp σ ρ H σ' ρ' H' ∧ whileD t b DD m ρ', ⟨n, ρ, R, .refl, q⟩, ?_⟩
  rintro m σ' H' ⟨ρ', R', S', q'⟩
  cases m with
  | zero => exact q'.elim
  | succ m =>
    refine ht H0 B σ' H' ρ' _ _ R' q' fun c ρ1 H1 R1 S1 K1 q1 => ?_
    cases c with
    | true =>
      refine ⟨fun σ2 H2 => ∃ ρ2, Rel H0 B σ2 H2 ρ2 ∧ Stp σ ρ H σ2 ρ2 H2 ∧ whileD t b DD m ρ2, fun σ2 H2 z => ⟨m, Nat.lt_succ_self m, z⟩, ?_⟩
      refine hb H0 B σ' H1 ρ1 _ _ R1 q1 ⟨fun σ4 H4 ρ4 R4 S4 q4 => ⟨ρ4, R4, (S'.trans S1).trans S4, q4⟩, fun σ4 H4 ρ4 R4 S4 q4 => E.nx σ4 H4 ρ4 R4 ((S'.trans S1).trans S4) q4, fun σ4 H4 ρ4 R4 S4 q4 => ⟨ρ4, R4, (S'.trans S1).trans S4, q4⟩, fun r ρ4 v σ4 H4 R4 S4 o q4 => ?_⟩
      exact E.rt r ρ4 v σ4 H4 R4 ((S'.trans S1).trans S4) o q4
    | false => exact E.nx σ' H1 ρ1 R1 (S'.trans S1) q1
end Dl
set_option Elab.async false
set_option linter.all false
set_option maxRecDepth 100000
set_option maxHeartbeats 4000000
/-! The data layer, part 5: comprehensions, contracts, calls. -/
namespace Dl
open PySem L2

/-! ### comprehensions -/
def wipeD (ρ : DEnv) : List Nat → DEnv
  | [] => ρ
  | v :: vs => (wipeD ρ vs).set v none
/-- the block's own slots as they stood -/
def restD (ρ1 ρ2 : DEnv) : List Nat → DEnv
  | [] => ρ2
  | v :: vs => (restD ρ1 ρ2 vs).set v (ρ1[v]?.getD none)
/-- none of these slots is one's own list -/
def freeAt (ρ : DEnv) : List Nat → Bool
  | [] => true
  | v :: vs => (match ρ[v]? with
    | some (some s) => !s.own
    | _ => true) && freeAt ρ vs
theorem wipeD_len (ρ : DEnv) : ∀ vs, (wipeD ρ vs).length = ρ.length
  | [] => rfl
  | v :: vs => by simp [wipeD, wipeD_len ρ vs]
theorem restD_len (ρ1 ρ2 : DEnv) : ∀ vs, (restD ρ1 ρ2 vs).length = ρ2.length
  | [] => rfl
  | v :: vs => by simp [restD, restD_len ρ1 ρ2 vs]
theorem wipeD_some {ρ : DEnv} {i : Nat} {s : Sl} : ∀ {vs : List Nat}, (wipeD ρ vs)[i]? = some (some s) → ρ[i]? = some (some s) ∧ i ∉ vs
  | [], h => ⟨h, by simp⟩
  | v :: vs, h => by
    unfold wipeD at h
    by_cases hi : v = i
    · subst hi
      by_cases hv : v < (wipeD ρ vs).length
      · rw [List.getElem?_set_self hv] at h; cases h
      · rw [List.getElem?_eq_none (by simpa using hv)] at h; cases h
    · rw [List.getElem?_set_ne hi] at h
      obtain ⟨h1, h2⟩ := wipeD_some h
      exact ⟨h1, by simp only [List.mem_cons, not_or]; exact ⟨fun e => hi e.symm, h2⟩⟩
theorem wipeD_out {ρ : DEnv} {i : Nat} : ∀ {vs : List Nat}, i ∉ vs → (wipeD ρ vs)[i]? = ρ[i]?
  | [], _ => rfl
  | v :: vs, h => by
    have h1 : v ≠ i := fun e => h (by rw [e]; exact List.mem_cons_self)
    have h2 : i ∉ vs := fun m => h (List.mem_cons_of_mem _ m)
    unfold wipeD
    rw [List.getElem?_set_ne h1]
    exact wipeD_out h2
theorem restD_out {ρ1 ρ2 : DEnv} {i : Nat} : ∀ {vs : List Nat}, i ∉ vs → (restD ρ1 ρ2 vs)[i]? = ρ2[i]?
  | [], _ => rfl
  | v :: vs, h => by
    have h1 : v ≠ i := fun e => h (by rw [e]; exact List.mem_cons_self)
    have h2 : i ∉ vs := fun m => h (List.mem_cons_of_mem _ m)
    unfold restD
    rw [List.getElem?_set_ne h1]
    exact restD_out h2
theorem restD_in {ρ1 ρ2 : DEnv} {i : Nat} (hl : i < ρ2.length) : ∀ {vs : List Nat}, i ∈ vs → (restD ρ1 ρ2 vs)[i]? = some (ρ1[i]?.getD none)
  | v :: vs, h => by
    unfold restD
    by_cases hv : v = i
    · subst hv
      rw [List.getElem?_set_self (by rw [restD_len]; exact hl)]
    · rw [List.getElem?_set_ne hv]
      exact restD_in hl ((List.mem_cons.mp h).resolve_left fun e => hv e.symm)
theorem freeAt_get {ρ : DEnv} {i : Nat} {s : Sl} (h : ρ[i]? = some (some s)) : ∀ {vs : List Nat}, freeAt ρ vs = true → i ∈ vs → s.own = false
  | v :: vs, f, m => by
    unfold freeAt at f
    rw [Bool.and_eq_true] at f
    rcases List.mem_cons.mp m with e | m
    · subst e
      have f1 := f.1
      rw [h] at f1
      simpa using f1
    · exact freeAt_get h f.2 m
theorem ow_wipe {σ : L2.St} {ρ : DEnv} {vs : List Nat} {p : Addr} : Ow (wipe σ vs) (wipeD ρ vs) p → Ow σ ρ p := fun ⟨i, s, a, b, c⟩ => by
  obtain ⟨a1, a2⟩ := wipeD_some a
  rw [wipe_out a2] at c
  exact ⟨i, s, a1, b, c⟩
theorem Rel.wipe {H0 : Fx} {B : Av} {σ : L2.St} {H : Hp} {ρ : DEnv} (R : Rel H0 B σ H ρ) (vs : List Nat) : Rel H0 B (L2.wipe σ vs) H (wipeD ρ vs) ∧ Stp σ ρ H (L2.wipe σ vs) (wipeD ρ vs) H := by
  have ps : Pass (Al B σ ρ) (Al B (L2.wipe σ vs) (wipeD ρ vs)) H H := ⟨fun a xs n e => ⟨fun q => n (q.imp id ow_wipe), e⟩, fun _ _ e => e⟩
  refine ⟨⟨by rw [wipe_length, wipeD_len]; exact R.len, fun i d a => ?_, fun i s a b => ?_, fun i d p a b => ?_, fun i j s t p a b a' b' c c' => ?_, R.dom, fun i d a => ?_, R.bdom⟩, ⟨fun _ _ h _ => h, fun _ h => h, fun _ _ h => h, fun q z => .inl (ow_wipe z)⟩⟩
  · obtain ⟨a1, a2⟩ := wipeD_some a
    obtain ⟨v, c1, c2⟩ := R.fz i d a1
    exact ⟨v, by rw [wipe_out a2]; exact c1, Rp.pass ps _ _ c2⟩
  · obtain ⟨a1, a2⟩ := wipeD_some a
    obtain ⟨p, c1, c2⟩ := R.own i s a1 b
    exact ⟨p, by rw [wipe_out a2]; exact c1, c2.pass ps rfl⟩
  · obtain ⟨a1, a2⟩ := wipeD_some a
    rw [wipe_out a2] at b
    exact R.mine i d p a1 b
  · obtain ⟨a1, a2⟩ := wipeD_some a
    obtain ⟨a1', a2'⟩ := wipeD_some a'
    rw [wipe_out a2] at c
    rw [wipe_out a2'] at c'
    exact R.ne i j s t p a1 b a1' b' c c'
  · obtain ⟨a1, a2⟩ := wipeD_some a
    rw [wipe_out a2]
    exact R.ioa i d a1
/-- behind the block -/
theorem Rel.unwipe {H0 : Fx} {B0 B : Av} {σ : L2.St} {H1 H : Hp} {ρ1 ρ2 : DEnv} {vs : List Nat} (R1 : Rel H0 B0 σ H1 ρ1) (f : freeAt ρ1 vs = true) (R : Rel H0 B (L2.wipe σ vs) H ρ2) (S : Stp σ ρ1 H1 (L2.wipe σ vs) ρ2 H) (hw : wipeD ρ2 vs = ρ2)
    (hb : ∀ p, B p → B0 p ∨ H1 p = none) : Rel H0 B σ H (restD ρ1 ρ2 vs) ∧ (∀ p, Ow σ (restD ρ1 ρ2 vs) p ↔ Ow (L2.wipe σ vs) ρ2 p) := by
  have hl : σ.length = ρ2.length := by rw [← R.len, wipe_length]
  have inn : ∀ {i : Nat} {s : Sl}, i ∈ vs → (restD ρ1 ρ2 vs)[i]? = some (some s) → ρ1[i]? = some (some s) ∧ s.own = false := fun {i s} m e => by
    by_cases hi : i < ρ2.length
    · rw [restD_in hi m] at e
      cases h1 : ρ1[i]? with
      | none => rw [h1] at e; cases e
      | some o =>
        rw [h1] at e
        cases o with
        | none => cases e
        | some s' =>
          cases e
          exact ⟨rfl, freeAt_get h1 f m⟩
    · rw [List.getElem?_eq_none (by rw [restD_len]; omega)] at e
      cases e
  have out : ∀ {i : Nat} {s : Sl}, ρ2[i]? = some (some s) → i ∉ vs := fun {i s} e => by
    rw [← hw] at e
    exact (wipeD_some e).2
  have ow : ∀ p, Ow σ (restD ρ1 ρ2 vs) p ↔ Ow (L2.wipe σ vs) ρ2 p := fun p => by
    constructor
    · rintro ⟨i, s, a, b, c⟩
      by_cases m : i ∈ vs
      · rw [(inn m a).2] at b
        cases b
      · rw [restD_out m] at a
        exact ⟨i, s, a, b, by rw [wipe_out m]; exact c⟩
    · rintro ⟨i, s, a, b, c⟩
      have m := out a
      rw [wipe_out m] at c
      exact ⟨i, s, by rw [restD_out m]; exact a, b, c⟩
  have ps : Pass (Al B (L2.wipe σ vs) ρ2) (Al B σ (restD ρ1 ρ2 vs)) H H := ⟨fun a xs n e => ⟨fun q => n (q.imp id (ow a).mp), e⟩, fun _ _ e => e⟩
  have ps1 : Pass (Al B0 σ ρ1) (Al B σ (restD ρ1 ρ2 vs)) H1 H := by
    have z := S.pass (B := B0) (B' := B) hb
    exact ⟨fun a xs n e => ⟨fun q => (z.l a xs n e).1 (q.imp id (ow a).mp), (z.l a xs n e).2⟩, z.t⟩
  refine ⟨⟨by rw [restD_len]; exact hl, fun i d a => ?_, fun i s a b => ?_, fun i d p a b => ?_, fun i j s t p a b a' b' c c' => ?_, R.dom, fun i d a => ?_, R.bdom⟩, ow⟩
  · by_cases m : i ∈ vs
    · obtain ⟨v, c1, c2⟩ := R1.fz i d (inn m a).1
      exact ⟨v, c1, Rp.pass ps1 _ _ c2⟩
    · rw [restD_out m] at a
      obtain ⟨v, c1, c2⟩ := R.fz i d a
      exact ⟨v, by rw [wipe_out m] at c1; exact c1, Rp.pass ps _ _ c2⟩
  · by_cases m : i ∈ vs
    · rw [(inn m a).2] at b
      cases b
    · rw [restD_out m] at a
      obtain ⟨p, c1, c2⟩ := R.own i s a b
      exact ⟨p, by rw [wipe_out m] at c1; exact c1, c2.pass ps rfl⟩
  · by_cases m : i ∈ vs
    · cases (inn m a).2
    · rw [restD_out m] at a
      exact R.mine i d p a (by rw [wipe_out m]; exact b)
  · by_cases m : i ∈ vs
    · rw [(inn m a).2] at b
      cases b
    · by_cases m' : j ∈ vs
      · rw [(inn m' a').2] at b'
        cases b'
      · rw [restD_out m] at a
        rw [restD_out m'] at a'
        exact R.ne i j s t p a b a' b' (by rw [wipe_out m]; exact c) (by rw [wipe_out m']; exact c')
  · by_cases m : i ∈ vs
    · cases (inn m a).2
    · rw [restD_out m] at a
      have z := R.ioa i d a
      rw [wipe_out m] at z
      exact z
theorem wipe_set {σ : L2.St} {x : Option V} {j : Nat} {vs : List Nat} (h : j ∈ vs) : wipe (σ.set j x) vs = wipe σ vs := by
  apply List.ext_getElem?
  intro i
  by_cases m : i ∈ vs
  · have key : ∀ (τ : L2.St), i < τ.length → (wipe τ vs)[i]? = some none := fun τ hl => by
      have hl' : i < (wipe τ vs).length := by rw [wipe_length]; exact hl
      cases e : (wipe τ vs)[i]? with
      | none => rw [List.getElem?_eq_none_iff] at e; omega
      | some o =>
        cases o with
        | none => rfl
        | some y => exact absurd m (wipe_some e).2
    by_cases hl : i < σ.length
    · rw [key _ (by simpa using hl), key _ hl]
    · rw [List.getElem?_eq_none (by rw [wipe_length]; simp; omega), List.getElem?_eq_none (by rw [wipe_length]; omega)]
  · rw [wipe_out m, wipe_out m, List.getElem?_set_ne (fun e => m (by rw [← e]; exact h))]
/-- the target stores at the block's own slots alone -/
structure TgOk (tg : TG) (vs : List Nat) : Prop where
  ins : ∀ v σ H Q, tg v σ H Q → tg v σ H fun σ2 H2 => wipe σ2 vs = wipe σ vs ∧ Q σ2 H2
  mono : ∀ v σ H Q Q', tg v σ H Q → (∀ σ2 H2, Q σ2 H2 → Q' σ2 H2) → tg v σ H Q'
structure TgsOk (tg : TGs) (vs : List Nat) : Prop where
  ins : ∀ v σ H Q, tg v σ H Q → tg v σ H fun σ2 H2 => wipe σ2 vs = wipe σ vs ∧ Q σ2 H2
  mono : ∀ v σ H Q Q', tg v σ H Q → (∀ σ2 H2, Q σ2 H2 → Q' σ2 H2) → tg v σ H Q'
theorem tg_name {j : Nat} {vs : List Nat} (h : j ∈ vs) : TgOk (gName j) vs := ⟨fun v σ H Q q => ⟨wipe_set h, q⟩, fun _ _ _ _ _ q k => k _ _ q⟩
theorem tgs_nil {vs : List Nat} : TgsOk gNil vs := ⟨fun v σ H Q q => ⟨q.1, rfl, q.2⟩, fun _ _ _ _ _ q k => ⟨q.1, k _ _ q.2⟩⟩
theorem tgs_cons {t : TG} {u : TGs} {vs : List Nat} (h1 : TgOk t vs) (h2 : TgsOk u vs) : TgsOk (gCons t u) vs := ⟨fun v σ H Q q => by
  obtain ⟨x, r, e, q⟩ := q
  refine ⟨x, r, e, h1.mono _ _ _ _ _ (h1.ins _ _ _ _ q) fun σ2 H2 z => ?_⟩
  refine h2.mono _ _ _ _ _ (h2.ins _ _ _ _ z.2) fun σ3 H3 z2 => ⟨z2.1.trans z.1, z2.2⟩, fun _ _ _ _ _ q k => by
  obtain ⟨x, r, e, q⟩ := q
  exact ⟨x, r, e, h1.mono _ _ _ _ _ q fun _ _ z => h2.mono _ _ _ _ _ z k⟩⟩
theorem tg_tup {K : PySem.W.Frag} {n : Nat} {u : TGs} {vs : List Nat} (h : TgsOk u vs) : TgOk (gTup K n u) vs := ⟨fun v σ H Q q => by
  obtain ⟨a, xs, e, e2, e3, q⟩ := q
  exact ⟨a, xs, e, e2, e3, h.ins _ _ _ _ q⟩, fun _ _ _ _ _ q k => by
  obtain ⟨a, xs, e, e2, e3, q⟩ := q
  exact ⟨a, xs, e, e2, e3, h.mono _ _ _ _ _ q k⟩⟩
def dYes : DT := fun ρ Q => Q true ρ
theorem simT_yes : SimT tYes dYes := fun H0 B σ H ρ Q QD R q k => k true ρ H R .refl .refl q
def lcLoop (vs : List Nat) (dg : DG) (dt : DT) (de : DE) : List PyData → DEnv → (List PyData → DEnv → Prop) → Prop
  | [], ρ, Q => Q [] ρ
  | x :: xs, ρ, Q => dg x ρ fun ρ1 => dt ρ1 fun b ρ2 => if b = true then de ρ2 fun r ρ3 => ∃ d, r.sto = some d ∧ lcLoop vs dg dt de xs (wipeD ρ3 vs) fun ds ρ4 => Q (d :: ds) ρ4 else lcLoop vs dg dt de xs (wipeD ρ2 vs) Q
def dLc (di : DI) (dg : DG) (dt : DT) (de : DE) (vs : List Nat) : DE := fun ρ Q => di ρ fun items ρ1 => freeAt ρ1 vs = true ∧ items.length ≤ 100000 ∧ lcLoop vs dg dt de items (wipeD ρ1 vs) fun ds ρ2 => Q (.nw (.list ds)) (restD ρ1 ρ2 vs)
theorem wipeD_idem (ρ : DEnv) (vs : List Nat) : wipeD (wipeD ρ vs) vs = wipeD ρ vs := by
  apply List.ext_getElem?
  intro i
  by_cases m : i ∈ vs
  · have key : ∀ (τ : DEnv), i < τ.length → (wipeD τ vs)[i]? = some none := fun τ hl => by
      have hl' : i < (wipeD τ vs).length := by rw [wipeD_len]; exact hl
      cases e : (wipeD τ vs)[i]? with
      | none => rw [List.getElem?_eq_none_iff] at e; omega
      | some o =>
        cases o with
        | none => rfl
        | some y => exact absurd m (wipeD_some e).2
    by_cases hl : i < ρ.length
    · rw [key _ (by rw [wipeD_len]; exact hl), key _ hl]
    · rw [List.getElem?_eq_none (by rw [wipeD_len, wipeD_len]; omega), List.getElem?_eq_none (by rw [wipeD_len]; omega)]
  · rw [wipeD_out m]
theorem wipe_idem (σ : L2.St) (vs : List Nat) : wipe (wipe σ vs) vs = wipe σ vs := by
  apply List.ext_getElem?
  intro i
  by_cases m : i ∈ vs
  · have key : ∀ (τ : L2.St), i < τ.length → (wipe τ vs)[i]? = some none := fun τ hl => by
      have hl' : i < (wipe τ vs).length := by rw [wipe_length]; exact hl
      cases e : (wipe τ vs)[i]? with
      | none => rw [List.getElem?_eq_none_iff] at e; omega
      | some o =>
        cases o with
        | none => rfl
        | some y => exact absurd m (wipe_some e).2
    by_cases hl : i < σ.length
    · rw [key _ (by rw [wipe_length]; exact hl), key _ hl]
    · rw [List.getElem?_eq_none (by rw [wipe_length, wipe_length]; omega), List.getElem?_eq_none (by rw [wipe_length]; omega)]
  · rw [wipe_out m]
theorem simE_lc {wi : TI} {tg : TG} {tt : TT} {te : TE} {di : DI} {dg : DG} {dt : DT} {de : DE} {vs : List Nat} (hi : SimI wi di) (hg : SimG tg dg) (hv : TgOk tg vs) (ht : SimT tt dt) (he : SimE te de) : SimE (tLc wi tg tt te vs) (dLc di dg dt de vs) := fun H0 B σ H ρ Q QD R q k => by
  refine hi H0 B σ H ρ _ _ R q fun J items ρ1 H1 R1 S1 K1 W q1 => ?_
  obtain ⟨fr, hlen, q1⟩ := q1
  intro D hD
  have g0 : Grow H1 (upd H1 D (.lst [])) := .new hD
  have RD := R1.more g0 hD (by rw [upd_same]; exact fun z => nomatch z)
  have noD1 : ¬ Ow σ ρ1 D := fun z => R1.adom D (.inr z) hD
  obtain ⟨Rw, Sw⟩ := RD.wipe vs
  have noDw : ¬ Ow (L2.wipe σ vs) (wipeD ρ1 vs) D := fun z => noD1 (ow_wipe z)
  refine ⟨fun i m H' => ∃ ρ' acc ds, m + i = items.length ∧ wipeD ρ' vs = ρ' ∧ Rel H0 (bor B D) (L2.wipe σ vs) H' ρ' ∧ Stp σ ρ1 H1 (L2.wipe σ vs) ρ' H' ∧ ¬ Ow (L2.wipe σ vs) ρ' D ∧ H' D = some (.lst acc) ∧ RpAll (Al (bor B D) (L2.wipe σ vs) ρ') H' acc ds ∧ acc.length ≤ i ∧
    Keep (wipeD ρ1 vs) ρ' ∧ lcLoop vs dg dt de (items.drop i) ρ' fun ds' ρ2 => QD (.nw (.list (ds ++ ds'))) (restD ρ1 ρ2 vs), ⟨items.length, wipeD ρ1 vs, [], [], rfl, wipeD_idem _ _, Rw, (g0.stp (σ := σ) (ρ := ρ1)).trans Sw, noDw, upd_same, .nil, Nat.zero_le _, .refl, q1⟩, ?_⟩
  rintro i m H' ⟨ρ', acc, ds, hm, hwp, R', S', no', eD, rds, hal, kp', q'⟩
  by_cases hlt : i < items.length
  · refine .inr ⟨W.goes i H' S'.keep S'.tup hlt, ?_⟩
    have ed : items.drop i = items[i] :: items.drop (i + 1) := List.drop_eq_getElem_cons hlt
    rw [ed] at q'
    refine ⟨fun H2 => ∃ ρ2 acc2 ds2, wipeD ρ2 vs = ρ2 ∧ Rel H0 (bor B D) (L2.wipe σ vs) H2 ρ2 ∧ Stp σ ρ1 H1 (L2.wipe σ vs) ρ2 H2 ∧ ¬ Ow (L2.wipe σ vs) ρ2 D ∧ H2 D = some (.lst acc2) ∧ RpAll (Al (bor B D) (L2.wipe σ vs) ρ2) H2 acc2 ds2 ∧ acc2.length ≤ i + 1 ∧
      Keep (wipeD ρ1 vs) ρ2 ∧ lcLoop vs dg dt de (items.drop (i + 1)) ρ2 fun ds' ρ3 => QD (.nw (.list (ds2 ++ ds'))) (restD ρ1 ρ3 vs), fun H2 ⟨ρ2, acc2, ds2, a, b, c, d, e, f, g, h, l⟩ => ⟨m - 1, by omega, ρ2, acc2, ds2, by omega, a, b, c, d, e, f, g, h, l⟩, fun x Hx y => ?_⟩
    obtain ⟨gr, d, e1, rp⟩ := W.yields i H' (Al (bor B D) (L2.wipe σ vs) ρ') x Hx (S'.pass fun p z => z.elim .inl fun z => .inr (by rw [z]; exact hD)) S'.keep hlt y
    rw [List.getElem?_eq_getElem hlt] at e1
    cases e1
    have Rx := R'.grow gr
    have Sx := S'.trans (gr.stp (σ := L2.wipe σ vs) (ρ := ρ'))
    have eDx := gr.keep D _ eD
    have rdx := RpAll.pass (gr.pass (A := Al (bor B D) (L2.wipe σ vs) ρ') (A' := Al (bor B D) (L2.wipe σ vs) ρ') fun _ z => .inl z) _ _ rds
    have land : ∀ σ2 ρ2 H2 acc2 ds2, L2.wipe σ2 vs = L2.wipe σ vs → Rel H0 (bor B D) σ2 H2 ρ2 → Stp σ ρ1 H1 σ2 ρ2 H2 → ¬ Ow σ2 ρ2 D → H2 D = some (.lst acc2) → RpAll (Al (bor B D) σ2 ρ2) H2 acc2 ds2 → acc2.length ≤ i + 1 → Keep ρ' ρ2 →
        (lcLoop vs dg dt de (items.drop (i + 1)) (wipeD ρ2 vs) fun ds' ρ3 => QD (.nw (.list (ds2 ++ ds'))) (restD ρ1 ρ3 vs)) →
        ∃ ρ2 acc2 ds2, wipeD ρ2 vs = ρ2 ∧ Rel H0 (bor B D) (L2.wipe σ vs) H2 ρ2 ∧ Stp σ ρ1 H1 (L2.wipe σ vs) ρ2 H2 ∧ ¬ Ow (L2.wipe σ vs) ρ2 D ∧ H2 D = some (.lst acc2) ∧ RpAll (Al (bor B D) (L2.wipe σ vs) ρ2) H2 acc2 ds2 ∧ acc2.length ≤ i + 1 ∧ Keep (wipeD ρ1 vs) ρ2 ∧
          lcLoop vs dg dt de (items.drop (i + 1)) ρ2 fun ds' ρ3 => QD (.nw (.list (ds2 ++ ds'))) (restD ρ1 ρ3 vs) := fun σ2 ρ2 H2 acc2 ds2 ew R2 S2 n2 e2 r2 l2 k2 q2 => by
      obtain ⟨Rw2, Sw2⟩ := R2.wipe vs
      rw [ew] at Rw2 Sw2
      refine ⟨wipeD ρ2 vs, acc2, ds2, wipeD_idem _ _, Rw2, S2.trans Sw2, fun z => ?_, e2, ?_, l2, fun j hj => ?_, q2⟩
      · rw [← ew] at z
        exact n2 (ow_wipe z)
      · refine RpAll.pass ⟨fun a xs n e => ⟨fun z => n (z.imp id fun z => ?_), e⟩, fun _ _ e => e⟩ _ _ r2
        rw [← ew] at z
        exact ow_wipe z
      · have hm : j ∉ vs := by
          obtain ⟨s, hs⟩ := hj
          exact (wipeD_some hs).2
        rw [wipeD_out hm]
        exact k2 j (kp' j hj)
    have hh := hg H0 (bor B D) (L2.wipe σ vs) Hx ρ' x _ (fun σ2 H2 => ∃ ρ2, Rel H0 (bor B D) σ2 H2 ρ2 ∧ Stp (L2.wipe σ vs) ρ' Hx σ2 ρ2 H2 ∧ Keep ρ' ρ2 ∧ dt ρ2 fun b ρ3 => if b = true then de ρ3 fun r ρ4 => ∃ d, r.sto = some d ∧ lcLoop vs dg dt de (items.drop (i + 1)) (wipeD ρ4 vs) fun ds' ρ5 => QD (.nw (.list (ds ++ (d :: ds')))) (restD ρ1 ρ5 vs)
      else lcLoop vs dg dt de (items.drop (i + 1)) (wipeD ρ3 vs) fun ds' ρ5 => QD (.nw (.list (ds ++ ds'))) (restD ρ1 ρ5 vs)) _ Rx rp q' fun σ3 H3 ρ3 R3 S3 K3 q3 => ⟨ρ3, R3, S3, K3, q3⟩
    have hh2 := hv.ins _ _ _ _ hh
    rw [wipe_idem] at hh2
    refine hv.mono _ _ _ _ _ hh2 fun σ3 H3 ⟨ew, ρ3, R3, S3, K3, q3⟩ => ⟨ew, ?_⟩
    have eD3 : H3 D = some (.lst acc) := S3.keep D _ eDx no'
    have rd3 := RpAll.pass (S3.pass (B := bor B D) (B' := bor B D) fun _ z => .inl z) _ _ rdx
    have no3 : ¬ Ow σ3 ρ3 D := fun z => (S3.own D z).elim no' fun z => by rw [eDx] at z; cases z
    refine ht H0 (bor B D) σ3 H3 ρ3 _ _ R3 q3 fun b ρ4 H4 R4 S4 K4 q4 => ?_
    have eD4 : H4 D = some (.lst acc) := S4.keep D _ eD3 no3
    have rd4 := RpAll.pass (S4.pass (B := bor B D) (B' := bor B D) fun _ z => .inl z) _ _ rd3
    have no4 : ¬ Ow σ3 ρ4 D := fun z => (S4.own D z).elim no3 fun z => by rw [eD3] at z; cases z
    cases b with
    | false => exact land σ3 ρ4 H4 acc ds ew R4 ((Sx.trans S3).trans S4) no4 eD4 rd4 (by omega) (K3.trans K4) q4
    | true =>
      refine he H0 (bor B D) σ3 H4 ρ4 _ _ R4 q4 fun r ρ5 y H5 R5 S5 K5 o5 q5 => ?_
      obtain ⟨d, hd, q5⟩ := q5
      have eD5 : H5 D = some (.lst acc) := S5.keep D _ eD4 no4
      have rd5 := RpAll.pass (S5.pass (B := bor B D) (B' := bor B D) fun _ z => .inl z) _ _ rd4
      have no5 : ¬ Ow σ3 ρ5 D := fun z => (S5.own D z).elim no4 fun z => by rw [eD4] at z; cases z
      have rp5 := o5.cv.sto hd
      refine ⟨acc, eD5, sz5' (by omega), ?_⟩
      have R6 := R5.writeB (ys := acc ++ [y]) (.inr rfl) no5 eD5
      have ps : Pass (Al (bor B D) σ3 ρ5) (Al (bor B D) σ3 ρ5) H5 (upd H5 D (.lst (acc ++ [y]))) := ⟨fun a zs n e => by
        have ne : a ≠ D := fun z => n (by rw [z]; exact .inl (.inr rfl))
        exact ⟨n, by rw [upd_ne ne]; exact e⟩, fun a zs e => by
        have ne : a ≠ D := fun z => by
          rw [z, eD5] at e
          cases e
        rw [upd_ne ne]
        exact e⟩
      have S6 : Stp σ ρ1 H1 σ3 ρ5 (upd H5 D (.lst (acc ++ [y]))) := by
        have S := ((Sx.trans S3).trans S4).trans S5
        refine ⟨fun b o h n => ?_, fun b h => ?_, fun b xs h => ?_, S.own⟩
        · have ne : b ≠ D := fun z => by rw [z, hD] at h; cases h
          rw [upd_ne ne]
          exact S.keep b o h n
        · by_cases hb : b = D
          · rw [hb]; exact hD
          · rw [upd_ne hb] at h
            exact S.dom b h
        · have ne : b ≠ D := fun z => by rw [z, hD] at h; cases h
          rw [upd_ne ne]
          exact S.tup b xs h
      refine land σ3 ρ5 _ (acc ++ [y]) (ds ++ [d]) ew R6 S6 no5 upd_same ((RpAll.pass ps _ _ rd5).app (.cons (Rp.pass ps _ _ rp5) .nil)) (by simp; omega) ((K3.trans K4).trans K5) ?_
      simp only [List.append_assoc, List.singleton_append]
      exact q5
  · have ed : items.drop i = [] := List.drop_eq_nil_of_le (by omega)
    rw [ed] at q'
    have ei : i = items.length := by omega
    subst ei
    refine .inl ⟨W.stops H' S'.keep S'.tup, ?_⟩
    obtain ⟨R6, ow6⟩ := R1.unwipe (B := bor B D) fr R' S' hwp fun p z => z.elim .inl fun z => .inr (by rw [z]; exact hD)
    have no6 : ¬ Ow σ (restD ρ1 ρ' vs) D := fun z => no' ((ow6 D).mp z)
    have S6 : Stp σ ρ1 H1 σ (restD ρ1 ρ' vs) H' := ⟨S'.keep, S'.dom, S'.tup, fun p z => S'.own p ((ow6 p).mp z)⟩
    have q6 : QD (.nw (.list ds)) (restD ρ1 ρ' vs) := by
      have z : QD (.nw (.list (ds ++ []))) (restD ρ1 ρ' vs) := q'
      rw [List.append_nil] at z
      exact z
    refine k (.nw (.list ds)) (restD ρ1 ρ' vs) (.ref D) H' (R6.anti fun p z => .inl z) (S1.trans S6) (K1.trans ?_) ⟨D, rfl, S1.dom D hD, fun z => R1.bdom D z hD, no6, ⟨acc, eD, ?_⟩, R6⟩ q6
    · intro j ⟨s, hj⟩
      by_cases m : j ∈ vs
      · have hl : j < ρ'.length := by
          have := (List.getElem?_eq_some_iff.mp hj).1
          rw [← R1.len] at this
          have e1 := R'.len
          rw [wipe_length] at e1
          omega
        exact ⟨s, by rw [restD_in hl m, hj]; rfl⟩
      · rw [restD_out m]
        exact kp' j ⟨s, by rw [wipeD_out m]; exact hj⟩
    · refine RpAll.pass ⟨fun a xs n e => ⟨fun z => n (z.imp id (ow6 a).mp), e⟩, fun _ _ e => e⟩ _ _ rds
end Dl
set_option Elab.async false
set_option linter.all false
set_option maxRecDepth 100000
set_option maxHeartbeats 4000000
/-! The data layer, part 6: contracts of defs, calls, the rule for a def. -/
namespace Dl
open PySem L2
open PyProof.Rows (envOfC)

/-- n: how many parameters; io: the place of the parameter that is changed in place; pre: of the arguments' data and of what is wanted (of the result, and of what the changed parameter holds then) -/
structure CT where
  n : Nat
  io : Option Nat := none
  pre : List PyData → (Rs → PyData → Prop) → Prop
structure ArgsOk (io : Option Nat) (B : Av) (H : Hp) (vs : List V) (ds : List PyData) (p : Addr) : Prop where
  len : vs.length = ds.length
  fz : ∀ (j : Nat) v d, io ≠ some j → vs[j]? = some v → ds[j]? = some d → Rp B H v d
  io : ∀ k, io = some k → vs[k]? = some (.ref p) ∧ B p ∧ ∃ d, ds[k]? = some d ∧ Hold B H p d
def RetOk (io : Option Nat) (B : Av) (H : Hp) (p : Addr) (H' : Hp) (v : V) (r : Rs) (out : PyData) : Prop := match r with
  | .fz d => Rp B H' v d ∧ (io ≠ none → Hold B H' p out)
  | .nw d => ∃ q, v = .ref q ∧ H q = none ∧ H' q ≠ none ∧ Hold (bor B q) H' q d ∧ (io ≠ none → Hold (bor B q) H' p out)
  | .br _ => False
  | .np ds rest => io = none ∧ ∃ T q xs, v = .ref T ∧ H' T = some (.tup (.ref q :: xs)) ∧ H q = none ∧ H' q ≠ none ∧ Hold (bor B q) H' q (.list ds) ∧ RpAll (bor B q) H' xs rest
structure PostOk (io : Option Nat) (B : Av) (H : Hp) (p : Addr) (H' : Hp) (v : V) (r : Rs) (out : PyData) : Prop where
  keep : ∀ b o, H b = some o → (io = none ∨ b ≠ p) → H' b = some o
  dom : ∀ b, H' b = none → H b = none
  tup : ∀ b xs, H b = some (.tup xs) → H' b = some (.tup xs)
  ret : RetOk io B H p H' v r out
/-- the promise that a contract is -/
def spD (ct : CT) : Sp := fun vs H Q _ => ∃ (B : Av) (ds : List PyData) (p : Addr) (Z : Rs → PyData → Prop), ds.length = ct.n ∧ (∀ b, B b → H b ≠ none) ∧ ArgsOk ct.io B H vs ds p ∧ ct.pre ds Z ∧ ∀ r out v H', Z r out → PostOk ct.io B H p H' v r out → Q v H'

/-! ### calls -/
/-- no parameter is changed in place -/
def dCall (ct : CT) (da : DA) : DE := fun ρ Q => da ρ fun rs ρ1 => ∃ ds, stoAll rs = some ds ∧ ds.length = ct.n ∧ ct.pre ds fun r _ => Q r ρ1
theorem simE_call {ct : CT} {E : XK} {ta : TA} {da : DA} (hio : ct.io = none) (h : SimA ta da) : SimE (tCall (spD ct) [] E ta) (dCall ct da) := fun H0 B σ H ρ Q QD R q k =>
  h H0 B σ H ρ _ _ R q fun rs ρ1 vs H1 R1 S1 K1 o1 q1 => by
    obtain ⟨ds, e, hl, q1⟩ := q1
    have r := o1.sto e
    rw [List.append_nil]
    refine ⟨Al B σ ρ1, ds, 0, _, hl, R1.adom, ⟨r.len, fun j v d _ hv hd => ?_, fun k hk => by rw [hio] at hk; cases hk⟩, q1, fun r out v H' z po => ?_⟩
    · obtain ⟨v', e1, e2⟩ := r.get hd
      rw [hv] at e1
      cases e1
      exact e2
    · have g : Grow H1 H' := ⟨fun b o e => po.keep b o e (.inl hio)⟩
      have rv : ResV (Al B σ ρ1) H1 H' v r := by
        have := po.ret
        cases r with
        | fz d => exact this.1
        | br i => exact this
        | nw d =>
          obtain ⟨q, a1, a2, a3, a4, _⟩ := this
          exact ⟨q, a1, a2, a3, a4⟩
        | np ds rest => exact this.2
      exact k r ρ1 v H' (R1.grow g) (S1.trans g.stp) K1 ((resOk_of R1 g rv).back S1.dom) z
/-- lists of one's own are lent, the result is flat -/
def Rs.flat : Rs → Bool
  | .fz d => flatD d
  | _ => false
def dCallL (ct : CT) (da : DA) : DE := fun ρ Q => da ρ fun rs ρ1 => (∀ d ∈ rs.map (Rs.dat ρ1), nodict d) ∧ rs.length = ct.n ∧ ct.pre (rs.map (Rs.dat ρ1)) fun r _ => r.flat = true ∧ Q r ρ1
theorem Vw.free {A A' : Av} {H : Hp} {v : V} {d : PyData} (h : Vw A H v d) (nd : nodict d) (ha : ∀ p, ¬ A' p) : Rp A' H v d := by
  have ps : Pass A A' H H := ⟨fun a xs n e => ⟨ha a, e⟩, fun _ _ e => e⟩
  rcases h with h | ⟨p, e, h⟩
  · exact Rp.pass ps _ _ h
  · subst e
    cases d with
    | list ds =>
      obtain ⟨xs, e1, r⟩ := h
      exact .lst (ha p) e1 (RpAll.pass ps _ _ r)
    | dict kvs => exact (nd kvs rfl).elim
    | _ => exact h.elim
theorem VwAll.free {A A' : Av} {H : Hp} : ∀ {vs : List V} {ds : List PyData}, VwAll A H vs ds → (∀ d ∈ ds, nodict d) → (∀ p, ¬ A' p) → RpAll A' H vs ds
  | [], [], _, _, _ => .nil
  | v :: vs, d :: ds, h, nd, ha => .cons (Vw.free h.1 (nd d List.mem_cons_self) ha) (VwAll.free h.2 (fun e m => nd e (List.mem_cons_of_mem _ m)) ha)
  | [], _ :: _, h, _, _ => h.elim
  | _ :: _, [], h, _, _ => h.elim
theorem Rp.anyA {A A' : Av} {H : Hp} {v : V} {d : PyData} (h : Rp A H v d) (f : flatD d = true) : Rp A' H v d := by
  cases h with
  | lst _ _ _ => exact absurd f Bool.false_ne_true
  | tup _ _ => exact absurd f Bool.false_ne_true
  | non => exact .non
  | bl b => exact .bl b
  | int i => exact .int i
  | str x => exact .str x
theorem simE_callL {ct : CT} {E : XK} {ta : TA} {da : DA} (hio : ct.io = none) (h : SimA ta da) : SimE (tCall (spD ct) [] E ta) (dCallL ct da) := fun H0 B σ H ρ Q QD R q k =>
  h H0 B σ H ρ _ _ R q fun rs ρ1 vs H1 R1 S1 K1 o1 q1 => by
    obtain ⟨nd, hl, q1⟩ := q1
    have r := VwAll.free (A' := fun _ => False) (o1.vw R1) nd fun _ z => z
    rw [List.append_nil]
    refine ⟨fun _ => False, _, 0, _, by rw [List.length_map]; exact hl, fun _ z => z.elim, ⟨r.len, fun j v d _ hv hd => ?_, fun k hk => by rw [hio] at hk; cases hk⟩, q1, fun r out v H' z po => ?_⟩
    · obtain ⟨v', e1, e2⟩ := r.get hd
      rw [hv] at e1
      cases e1
      exact e2
    · have g : Grow H1 H' := ⟨fun b o e => po.keep b o e (.inl hio)⟩
      obtain ⟨zf, z⟩ := z
      cases r with
      | fz d =>
        have rp : Rp (fun _ => False) H' v d := po.ret.1
        exact k (.fz d) ρ1 v H' (R1.grow g) (S1.trans g.stp) K1 (rp.anyA zf) z
      | br i => cases zf
      | nw d => cases zf
      | np _ _ => cases zf
/-- the i-th argument is a slot of one's own, changed by the call -/
def ioSlot (ρ : DEnv) (k : Nat) (rs : List Rs) : Option (Nat × Sl) := match rs[k]? with
  | some (.br i) => match ρ[i]? with
    | some (some s) => if s.own = true then some (i, s) else none
    | _ => none
  | _ => none
def stoBut (k : Nat) (d : PyData) : Nat → List Rs → Option (List PyData)
  | _, [] => some []
  | j, r :: rs => if j = k then (match stoBut k d (j + 1) rs with
      | some ds => some (d :: ds)
      | none => none)
    else match r.sto, stoBut k d (j + 1) rs with
      | some e, some ds => some (e :: ds)
      | _, _ => none
def dCallIO (ct : CT) (k : Nat) (da : DA) : DE := fun ρ Q => da ρ fun rs ρ1 => match ioSlot ρ1 k rs with
  | some (i, s) => ∃ ds, stoBut k s.dat 0 rs = some ds ∧ ds.length = ct.n ∧ k < rs.length ∧ ct.pre ds fun r out => Q r (ρ1.set i (some (s.with out)))
  | none => False
theorem stoBut_get {B : Av} {σ : L2.St} {H : Hp} {ρ : DEnv} {k : Nat} {d0 : PyData} : ∀ {j : Nat} {vs : List V} {rs : List Rs} {ds : List PyData}, CvAll B σ H ρ vs rs → stoBut k d0 j rs = some ds →
    vs.length = ds.length ∧ (∀ (m : Nat) v d, j + m ≠ k → vs[m]? = some v → ds[m]? = some d → Rp (Al B σ ρ) H v d) ∧ (∀ m, j + m = k → m < ds.length → ds[m]? = some d0)
  | j, [], [], ds, _, e => by
    cases e
    exact ⟨rfl, fun m v d _ h _ => by simp at h, fun m _ h => by simp at h⟩
  | j, v :: vs, r :: rs, ds, h, e => by
    unfold stoBut at e
    by_cases hj : j = k
    · rw [if_pos hj] at e
      split at e
      · rename_i ds' e'
        cases e
        obtain ⟨l, a, b⟩ := stoBut_get (j := j + 1) h.2 e'
        refine ⟨by simp [l], fun m v' d' hm h1 h2 => ?_, fun m hm hl => ?_⟩
        · cases m with
          | zero => exact absurd hj hm
          | succ m => exact a m v' d' (by omega) (by simpa using h1) (by simpa using h2)
        · cases m with
          | zero => rfl
          | succ m => omega
      · cases e
    · rw [if_neg hj] at e
      split at e
      · rename_i e0 ds' e1 e2
        cases e
        obtain ⟨l, a, b⟩ := stoBut_get (j := j + 1) h.2 e2
        refine ⟨by simp [l], fun m v' d' hm h1 h2 => ?_, fun m hm hl => ?_⟩
        · cases m with
          | zero =>
            simp at h1 h2
            subst h1 h2
            exact h.1.sto e1
          | succ m => exact a m v' d' (by omega) (by simpa using h1) (by simpa using h2)
        · cases m with
          | zero => exact absurd hm hj
          | succ m =>
            have := b m (by omega) (by simpa using hl)
            simpa using this
      · cases e
  | _, [], _ :: _, _, h, _ => h.elim
  | _, _ :: _, [], _, h, _ => h.elim
theorem CvAll.get {B : Av} {σ : L2.St} {H : Hp} {ρ : DEnv} : ∀ {vs : List V} {rs : List Rs} {k : Nat} {r : Rs}, CvAll B σ H ρ vs rs → rs[k]? = some r → ∃ v, vs[k]? = some v ∧ Cv B σ H ρ v r
  | [], [], _, _, _, e => by simp at e
  | v :: vs, r :: rs, 0, _, h, e => by simp at e; subst e; exact ⟨v, rfl, h.1⟩
  | v :: vs, r :: rs, k + 1, _, h, e => by simpa using CvAll.get h.2 (by simpa using e)
  | [], _ :: _, _, _, h, _ => h.elim
  | _ :: _, [], _, _, h, _ => h.elim
/-- behind a call that changed the object of slot i alone -/
theorem Rel.called {H0 : Fx} {B B' : Av} {σ : L2.St} {H H' : Hp} {ρ : DEnv} {i : Nat} {s : Sl} {p : Addr} {d' : PyData} (R : Rel H0 B σ H ρ) (e : ρ[i]? = some (some s)) (hs : s.own = true) (hp : σ[i]? = some (some (V.ref p)))
    (keep : ∀ b o, H b = some o → b ≠ p → H' b = some o) (dom : ∀ b, H' b = none → H b = none) (tup : ∀ b xs, H b = some (.tup xs) → H' b = some (.tup xs))
    (hb : ∀ q, B q → B' q) (hb' : ∀ q, B' q → B q ∨ H q = none) (hbd : ∀ q, B' q → H' q ≠ none)
    (ho : Hold (Al B' σ ρ) H' p d') : Rel H0 B' σ H' (ρ.set i (some (s.with d'))) ∧ Stp σ ρ H σ (ρ.set i (some (s.with d'))) H' := by
  have hO : Ow σ ρ p := ⟨i, s, e, hs, hp⟩
  have hw : (s.with d').own = true := by cases s <;> first | rfl | cases hs
  have hd : (s.with d').dat = d' := by cases s <;> rfl
  have hi : i < ρ.length := (List.getElem?_eq_some_iff.mp e).1
  have ow : ∀ q, Ow σ (ρ.set i (some (s.with d'))) q ↔ Ow σ ρ q := fun q => by
    constructor
    · rintro ⟨j, t, a, b, c⟩
      by_cases hj : i = j
      · subst hj
        rw [hp] at c
        cases c
        exact hO
      · rw [List.getElem?_set_ne hj] at a
        exact ⟨j, t, a, b, c⟩
    · rintro ⟨j, t, a, b, c⟩
      by_cases hj : i = j
      · subst hj
        exact ⟨i, _, List.getElem?_set_self hi, hw, c⟩
      · exact ⟨j, t, by rw [List.getElem?_set_ne hj]; exact a, b, c⟩
  have ps : Pass (Al B σ ρ) (Al B' σ (ρ.set i (some (s.with d')))) H H' := ⟨fun a xs n e => by
    have ne : a ≠ p := fun z => n (by rw [z]; exact .inr hO)
    refine ⟨fun q => ?_, keep a _ e ne⟩
    rcases q with q | q
    · rcases hb' a q with z | z
      · exact n (.inl z)
      · rw [z] at e; cases e
    · exact n (.inr ((ow a).mp q)), tup⟩
  have ps2 : Pass (Al B' σ ρ) (Al B' σ (ρ.set i (some (s.with d')))) H' H' := ⟨fun a xs n e => ⟨fun q => n (q.imp id (ow a).mp), e⟩, fun _ _ e => e⟩
  refine ⟨⟨by simp [R.len], fun j d a => ?_, fun j t a b => ?_, fun j d q a b => ?_, fun j j' t u q a b a' b' c c' => ?_, fun b h => R.dom b (dom b h), fun j d a => ?_, hbd⟩, ⟨fun b u h n => keep b u h fun z => n (by rw [z]; exact hO), dom, tup, fun q z => .inl ((ow q).mp z)⟩⟩
  · by_cases hj : i = j
    · subst hj
      rw [List.getElem?_set_self hi] at a
      have a' : s.with d' = .fz d := by simpa using a
      rw [a'] at hw
      cases hw
    · rw [List.getElem?_set_ne hj] at a
      obtain ⟨v, c1, c2⟩ := R.fz j d a
      exact ⟨v, c1, Rp.pass ps _ _ c2⟩
  · by_cases hj : i = j
    · subst hj
      rw [List.getElem?_set_self hi] at a
      have a' : s.with d' = t := by simpa using a
      subst a'
      rw [hd]
      exact ⟨p, hp, ho.pass ps2 rfl⟩
    · rw [List.getElem?_set_ne hj] at a
      obtain ⟨q, c1, c2⟩ := R.own j t a b
      have ne : q ≠ p := fun z => by
        subst z
        exact hj (R.ne i j s t q e hs a b hp c1)
      obtain ⟨o, eo, _⟩ := c2.some
      exact ⟨q, c1, c2.pass ps ((keep q o eo ne).trans eo.symm)⟩
  · have key : ∃ d0, ρ[j]? = some (some (.ow d0)) := by
      by_cases hj : i = j
      · subst hj
        rw [List.getElem?_set_self hi] at a
        have a' : s.with d' = .ow d := by simpa using a
        cases s with
        | ow d0 => exact ⟨d0, e⟩
        | fz d0 => cases a'
        | io d0 => cases a'
      · rw [List.getElem?_set_ne hj] at a
        exact ⟨d, a⟩
    obtain ⟨d0, a0⟩ := key
    have m := R.mine j d0 q a0 b
    refine ⟨m.1, fun z => ?_⟩
    rcases hb' q z with z | z
    · exact m.2 z
    · exact R.adom q (.inr ⟨j, _, a0, rfl, b⟩) z
  · have back : ∀ (j : Nat) (t : Sl), (ρ.set i (some (s.with d')))[j]? = some (some t) → t.own = true → ∃ t', ρ[j]? = some (some t') ∧ t'.own = true := fun j t a b => by
      by_cases hj : i = j
      · subst hj
        exact ⟨s, e, hs⟩
      · rw [List.getElem?_set_ne hj] at a
        exact ⟨t, a, b⟩
    obtain ⟨t', x1, x2⟩ := back j t a b
    obtain ⟨u', y1, y2⟩ := back j' u a' b'
    exact R.ne j j' t' u' q x1 x2 y1 y2 c c'
  · by_cases hj : i = j
    · subst hj
      rw [List.getElem?_set_self hi] at a
      have a' : s.with d' = .io d := by simpa using a
      cases s with
      | io d0 => exact R.ioa i d0 e
      | fz d0 => cases a'
      | ow d0 => cases a'
    · rw [List.getElem?_set_ne hj] at a
      exact R.ioa j d a
theorem ioSlot_of {ρ : DEnv} {k i : Nat} {rs : List Rs} {s : Sl} (h : ioSlot ρ k rs = some (i, s)) : rs[k]? = some (.br i) ∧ ρ[i]? = some (some s) ∧ s.own = true := by
  unfold ioSlot at h
  cases hr : rs[k]? with
  | none => rw [hr] at h; cases h
  | some r =>
    rw [hr] at h
    cases r with
    | fz d => cases h
    | nw d => cases h
    | np _ _ => cases h
    | br j =>
      simp only at h
      cases hj : ρ[j]? with
      | none => rw [hj] at h; cases h
      | some o =>
        rw [hj] at h
        cases o with
        | none => cases h
        | some t =>
          simp only at h
          by_cases ho : t.own = true
          · rw [if_pos ho] at h
            cases h
            exact ⟨rfl, hj, ho⟩
          · rw [if_neg ho] at h
            cases h
theorem simE_callIO {ct : CT} {k : Nat} {E : XK} {ta : TA} {da : DA} (hio : ct.io = some k) (h : SimA ta da) : SimE (tCall (spD ct) [] E ta) (dCallIO ct k da) := fun H0 B σ H ρ Q QD R q kk =>
  h H0 B σ H ρ _ _ R q fun rs ρ1 vs H1 R1 S1 K1 o1 q1 => by
    split at q1
    · rename_i i s es
      obtain ⟨ds, e, hl, hk, q1⟩ := q1
      obtain ⟨hr, hi, hs⟩ : rs[k]? = some (.br i) ∧ ρ1[i]? = some (some s) ∧ s.own = true := ioSlot_of es
      obtain ⟨v0, hv0, cv0⟩ := o1.get hr
      obtain ⟨p, hp, hold⟩ := R1.own i s hi hs
      have ev : v0 = .ref p := by
        have := cv0.1
        rw [hp] at this
        cases this
        rfl
      subst ev
      obtain ⟨l, a, b⟩ := stoBut_get o1 e
      have hk' : k < ds.length := by rw [← l, o1.len]; exact hk
      have hO : Ow σ ρ1 p := ⟨i, s, hi, hs, hp⟩
      rw [List.append_nil]
      refine ⟨Al B σ ρ1, ds, p, _, hl, R1.adom, ⟨l, fun j v d hj hv hd => a j v d (by rw [hio] at hj; exact fun z => hj (by rw [← z, Nat.zero_add])) hv hd, fun k' hk2 => ?_⟩, q1, fun r out v H' z po => ?_⟩
      · rw [hio] at hk2
        cases hk2
        exact ⟨hv0, .inr hO, _, b k (by omega) hk', hold⟩
      · have hne : ct.io ≠ none := by rw [hio]; exact fun z => nomatch z
        have keep : ∀ b o, H1 b = some o → b ≠ p → H' b = some o := fun b o e n => po.keep b o e (.inr n)
        have ret := po.ret
        cases r with
        | br j => exact ret.elim
        | np _ _ => exact (hne ret.1).elim
        | fz d =>
          obtain ⟨r1, r2⟩ := ret
          obtain ⟨R2, S2⟩ := R1.called (B' := B) hi hs hp keep po.dom po.tup (fun _ z => z) (fun _ z => .inl z) (fun q z => by
            intro z2
            exact R1.bdom q z (po.dom q z2)) (r2 hne)
          refine kk (.fz d) _ v H' R2 (S1.trans S2) (K1.trans Keep.set) ?_ z
          exact Rp.pass ⟨fun a xs n e => ⟨fun q => n (q.imp id fun z => by
            obtain ⟨j, t, x1, x2, x3⟩ := z
            by_cases hj : i = j
            · subst hj
              exact ⟨i, s, hi, hs, x3⟩
            · rw [List.getElem?_set_ne hj] at x1
              exact ⟨j, t, x1, x2, x3⟩), e⟩, fun _ _ e => e⟩ _ _ r1
        | nw d =>
          obtain ⟨q, r0, r1, r2, r3, r4⟩ := ret
          have eqv : ∀ {x : PyData} {y : Addr}, Hold (bor (Al B σ ρ1) q) H' y x → Hold (Al (bor B q) σ ρ1) H' y x := fun hh => hh.pass ⟨fun a xs n e => ⟨fun z => n (by
            rcases z with (z | z) | z
            · exact .inl (.inl z)
            · exact .inr z
            · exact .inl (.inr z)), e⟩, fun _ _ e => e⟩ rfl
          obtain ⟨R2, S2⟩ := R1.called (B' := bor B q) hi hs hp keep po.dom po.tup (fun _ z => .inl z) (fun _ z => z.imp id fun z => by rw [z]; exact r1) (fun b z => by
            rcases z with z | z
            · intro z2
              exact R1.bdom b z (po.dom b z2)
            · rw [z]; exact r2) (eqv (r4 hne))
          have ow2 : ∀ b, Ow σ (ρ1.set i (some (s.with out))) b → Ow σ ρ1 b := fun b z => by
            obtain ⟨j, t, x1, x2, x3⟩ := z
            by_cases hj : i = j
            · subst hj
              exact ⟨i, s, hi, hs, x3⟩
            · rw [List.getElem?_set_ne hj] at x1
              exact ⟨j, t, x1, x2, x3⟩
          refine kk (.nw d) _ v H' (R2.anti fun b z => .inl z) (S1.trans S2) (K1.trans Keep.set) ⟨q, r0, S1.dom q r1, fun z => R1.bdom q z r1, fun z => R1.adom q (.inr (ow2 q z)) r1, ?_, R2⟩ z
          exact (eqv r3).pass ⟨fun a xs n e => ⟨fun z => n (z.imp id (ow2 a)), e⟩, fun _ _ e => e⟩ rfl
    · exact q1.elim

/-! ### the rule for a def -/
/-- the parameters' slots at the entry -/
def slotsOf (io : Option Nat) : Nat → List PyData → DEnv
  | _, [] => []
  | j, d :: ds => some (if io = some j then .io d else .fz d) :: slotsOf io (j + 1) ds
def startD (N : Nat) (io : Option Nat) (ds : List PyData) : DEnv := slotsOf io 0 ds ++ List.replicate (N - ds.length) none
/-- what the changed parameter holds -/
def outOf (io : Option Nat) (ρ : DEnv) (Z : PyData → Prop) : Prop := match io with
  | none => Z .none
  | some k => match ρ[k]? with
    | some (some (.io d)) => Z d
    | _ => False
def retD (ρ : DEnv) (r : Rs) (Z : Rs → Prop) : Prop := match r with
  | .fz d => Z (.fz d)
  | .nw d => Z (.nw d)
  | .np ds rest => Z (.np ds rest)
  | .br i => match ρ[i]? with
    | some (some (.ow d)) => Z (.nw d)
    | _ => False
def endsD (io : Option Nat) (Z : Rs → PyData → Prop) : DEnds where
  nx := fun ρ => outOf io ρ fun out => Z (.fz .none) out
  rt := fun r ρ => match r with
    | .np ds rest => io = none ∧ Z (.np ds rest) .none
    | r => retD ρ r fun r' => outOf io ρ fun out => Z r' out
theorem slotsOf_len (io : Option Nat) : ∀ (j : Nat) (ds : List PyData), (slotsOf io j ds).length = ds.length
  | _, [] => rfl
  | j, d :: ds => by simp [slotsOf, slotsOf_len io (j + 1) ds]
theorem slotsOf_get (io : Option Nat) : ∀ (j : Nat) (ds : List PyData) (m : Nat), (slotsOf io j ds)[m]? = ds[m]?.map fun d => some (if io = some (j + m) then .io d else .fz d)
  | _, [], m => by simp [slotsOf]
  | j, d :: ds, 0 => by simp [slotsOf]
  | j, d :: ds, m + 1 => by
    have := slotsOf_get io (j + 1) ds m
    simp only [slotsOf, List.getElem?_cons_succ]
    rw [this]
    simp only [show j + 1 + m = j + (m + 1) by omega]
theorem startD_get {N : Nat} {io : Option Nat} {ds : List PyData} {m : Nat} {s : Sl} (h : (startD N io ds)[m]? = some (some s)) : ∃ d, ds[m]? = some d ∧ s = if io = some m then .io d else .fz d := by
  unfold startD at h
  by_cases hm : m < ds.length
  · rw [List.getElem?_append_left (by rw [slotsOf_len]; exact hm), slotsOf_get] at h
    rw [List.getElem?_eq_getElem hm] at h
    simp at h
    exact ⟨ds[m], by simp [hm], h.symm⟩
  · rw [List.getElem?_append_right (by rw [slotsOf_len]; omega), List.getElem?_replicate] at h
    split at h
    · cases h
    · cases h
theorem rel_start {N : Nat} {io : Option Nat} {B : Av} {H : Hp} {vs : List V} {ds : List PyData} {p : Addr} {Ns : List Str} (hN : Ns.length = N) (bd : ∀ b, B b → H b ≠ none) (a : ArgsOk io B H vs ds p) :
    Rel ⟨H, fun _ => .ref p⟩ B (L2.start Ns vs) H (startD N io ds) := by
  have get : ∀ {m : Nat} {v : V}, vs[m]? = some v → (L2.start Ns vs)[m]? = some (some v) := fun {m v} h => by
    unfold L2.start
    have hm := (List.getElem?_eq_some_iff.mp h).1
    rw [List.getElem?_append_left (by simpa using hm)]
    simp [h]
  have vget : ∀ {m : Nat} {d : PyData}, ds[m]? = some d → ∃ v, vs[m]? = some v := fun {m d} h => by
    have hm := (List.getElem?_eq_some_iff.mp h).1
    exact ⟨vs[m]'(by rw [a.len]; exact hm), by simp [a.len, hm]⟩
  have ow : ∀ q, Ow (L2.start Ns vs) (startD N io ds) q → B q ∧ q = p := fun q ⟨m, s, x1, x2, x3⟩ => by
    obtain ⟨d, e1, e2⟩ := startD_get x1
    by_cases hio : io = some m
    · obtain ⟨y1, y2, _⟩ := a.io m hio
      rw [get y1] at x3
      cases x3
      exact ⟨y2, rfl⟩
    · rw [if_neg hio] at e2
      subst e2
      cases x2
  have ps : Pass B (Al B (L2.start Ns vs) (startD N io ds)) H H := ⟨fun b xs n e => ⟨fun z => n (z.elim id fun z => (ow b z).1), e⟩, fun _ _ e => e⟩
  refine ⟨?_, fun m d x => ?_, fun m s x y => ?_, fun m d q x y => ?_, fun i j s t q x1 x2 y1 y2 z1 z2 => ?_, fun _ h => h, fun m d x => ?_, bd⟩
  · unfold L2.start startD
    simp [slotsOf_len, a.len, hN]
  · obtain ⟨d', e1, e2⟩ := startD_get x
    by_cases hio : io = some m
    · rw [if_pos hio] at e2
      cases e2
    · rw [if_neg hio] at e2
      cases e2
      obtain ⟨v, ev⟩ := vget e1
      exact ⟨v, get ev, Rp.pass ps _ _ (a.fz m v d hio ev e1)⟩
  · obtain ⟨d', e1, e2⟩ := startD_get x
    by_cases hio : io = some m
    · rw [if_pos hio] at e2
      subst e2
      obtain ⟨y1, y2, d2, y3, y4⟩ := a.io m hio
      rw [e1] at y3
      cases y3
      exact ⟨p, get y1, y4.pass ps rfl⟩
    · rw [if_neg hio] at e2
      subst e2
      cases y
  · obtain ⟨d', e1, e2⟩ := startD_get x
    split at e2 <;> cases e2
  · obtain ⟨d1, e1, e2⟩ := startD_get x1
    obtain ⟨d2, e3, e4⟩ := startD_get y1
    by_cases h1 : io = some i
    · by_cases h2 : io = some j
      · rw [h1] at h2
        exact Option.some.inj h2
      · rw [if_neg h2] at e4
        subst e4
        cases y2
    · rw [if_neg h1] at e2
      subst e2
      cases x2
  · obtain ⟨d', e1, e2⟩ := startD_get x
    by_cases hio : io = some m
    · obtain ⟨y1, _⟩ := a.io m hio
      exact get y1
    · rw [if_neg hio] at e2
      cases e2
/-- at the end of the run -/
theorem ends_ok {N : Nat} {io : Option Nat} {B : Av} {H : Hp} {vs : List V} {ds : List PyData} {p : Addr} {Ns : List Str} {Z : Rs → PyData → Prop} {Q : VK} (hN : Ns.length = N) (bd : ∀ b, B b → H b ≠ none) (a : ArgsOk io B H vs ds p)
    (k : ∀ r out v H', Z r out → PostOk io B H p H' v r out → Q v H') : EndsOk ⟨H, fun _ => .ref p⟩ B (L2.start Ns vs) H (startD N io ds) { nx := fun _ H' => Q .non H', rt := Q } (endsD io Z) := by
  have ow0 : ∀ q, Ow (L2.start Ns vs) (startD N io ds) q → io ≠ none ∧ q = p := fun q ⟨m, s, x1, x2, x3⟩ => by
    obtain ⟨d, e1, e2⟩ := startD_get x1
    by_cases hio : io = some m
    · obtain ⟨y1, y2, _⟩ := a.io m hio
      have hm := (List.getElem?_eq_some_iff.mp y1).1
      unfold L2.start at x3
      rw [List.getElem?_append_left (by simpa using hm)] at x3
      simp [y1] at x3
      exact ⟨by rw [hio]; exact fun z => (nomatch z), x3.symm⟩
    · rw [if_neg hio] at e2
      subst e2
      cases x2
  have post : ∀ {σ' ρ' H' v r out}, Stp (L2.start Ns vs) (startD N io ds) H σ' ρ' H' → RetOk io B H p H' v r out → PostOk io B H p H' v r out := fun {σ' ρ' H' v r out} S ro =>
    ⟨fun b o e n => S.keep b o e fun z => (n.elim (fun n => (ow0 b z).1 n) fun n => n (ow0 b z).2), S.dom, S.tup, ro⟩
  /- what the changed parameter holds, seen at the end -/
  have holds : ∀ {σ' : L2.St} {ρ' : DEnv} {H' : Hp} {B' : Av} {W : PyData → Prop}, Rel ⟨H, fun _ => .ref p⟩ B' σ' H' ρ' → outOf io ρ' W → ∃ out, W out ∧ (io ≠ none → Hold (Al B' σ' ρ') H' p out) := fun {σ' ρ' H' B' W} R q => by
    unfold outOf at q
    split at q
    · exact ⟨.none, q, fun z => absurd rfl z⟩
    · rename_i kk
      split at q
      · rename_i d e
        refine ⟨d, q, fun _ => ?_⟩
        obtain ⟨p', y1, y2⟩ := R.own kk _ e rfl
        rw [R.ioa kk d e] at y1
        cases y1
        exact y2
      · exact q.elim
  have drop : ∀ {B' : Av} {σ' ρ' H' x y}, Hold (Al B' σ' ρ') H' x y → Hold B' H' x y := fun h => h.pass ⟨fun a xs n e => ⟨fun z => n (.inl z), e⟩, fun _ _ e => e⟩ rfl
  have dropR : ∀ {B' : Av} {σ' ρ' H' x y}, Rp (Al B' σ' ρ') H' x y → Rp B' H' x y := fun h => Rp.pass ⟨fun a xs n e => ⟨fun z => n (.inl z), e⟩, fun _ _ e => e⟩ _ _ h
  refine ⟨fun σ' H' ρ' R S q => ?_, fun _ _ _ _ _ q => q.elim, fun _ _ _ _ _ q => q.elim, fun r ρ' v σ' H' R S o q => ?_⟩
  · obtain ⟨out, w, ho⟩ := holds R q
    exact k _ _ .non H' w (post S ⟨.non, fun z => drop (ho z)⟩)
  · cases r with
    | np ds rest =>
      obtain ⟨hio, q'⟩ : io = none ∧ Z (.np ds rest) .none := q
      obtain ⟨T, q0, xs, e, e2, h0, nb, no, hold, hr, Rb⟩ := o
      obtain ⟨ob, eob, _⟩ := hold.some
      exact k _ _ v H' q' (post S ⟨hio, T, q0, xs, e, e2, h0, by rw [eob]; exact fun z => (nomatch z), drop hold, RpAll.pass ⟨fun a xs n e => ⟨fun z => n (.inl z), e⟩, fun _ _ e => e⟩ _ _ hr⟩)
    | fz d =>
      have q' : retD ρ' (.fz d) fun r' => outOf io ρ' fun out => Z r' out := q
      obtain ⟨out, w, ho⟩ := holds (W := fun out => Z (.fz d) out) R q'
      exact k _ _ v H' w (post S ⟨dropR o, fun z => drop (ho z)⟩)
    | nw d =>
      have q' : retD ρ' (.nw d) fun r' => outOf io ρ' fun out => Z r' out := q
      obtain ⟨q0, e, h0, nb, no, hold, Rb⟩ := o
      obtain ⟨out, w, ho⟩ := holds (W := fun out => Z (.nw d) out) Rb q'
      obtain ⟨ob, eob, _⟩ := hold.some
      exact k _ _ v H' w (post S ⟨q0, e, h0, by rw [eob]; exact fun z => (nomatch z), drop hold, fun z => drop (ho z)⟩)
    | br i =>
      have q2 : match ρ'[i]? with | some (some (.ow d)) => (outOf io ρ' fun out => Z (.nw d) out) | _ => False := q
      split at q2
      · rename_i d e
        obtain ⟨q0, y1, y2⟩ := R.own i _ e rfl
        obtain ⟨m1, m2⟩ := R.mine i d q0 e y1
        have ev : v = .ref q0 := by
          have := o.1
          rw [y1] at this
          cases this
          rfl
        obtain ⟨out, w, ho⟩ := holds (W := fun out => Z (.nw d) out) R q2
        obtain ⟨ob, eob, _⟩ := y2.some
        have sub : ∀ {x y}, Hold (Al B σ' ρ') H' x y → Hold (bor B q0) H' x y := fun h => h.pass ⟨fun a xs n e2 => ⟨fun z => n (z.imp id fun z => ⟨i, _, e, rfl, by rw [z]; exact y1⟩), e2⟩, fun _ _ e => e⟩ rfl
        exact k _ _ v H' w (post S ⟨q0, ev, m1, by rw [eob]; exact fun z => (nomatch z), sub y2, fun z => sub (ho z)⟩)
      · exact q2.elim
section
variable {P : Program} {w : World} {K : PySem.W.Frag} {mg : Str → Option Value} {base : Heap}
/-- THE RULE: a def keeps its contract -/
theorem okD {x qual : Str} {st : Stmt} {f : Addr} {fd : FuncData} {Ns ps : List Str} {k : Nat} {ct : CT} {t : TS} {d : DS} (F : Fun K x qual st f fd) (S : FnScope Ns ps (defScope st)) (hn : ct.n = ps.length)
    (body : ∀ (cdv : Value) (A : Around) (outer : List Env) (s : Shared) (H : Hp) (E : XK), Room k (A.deeper (envOfC qual (defScope st) s.heap.objs.size f cdv)) → PSs (cxOf CX0 P w K mg base Ns qual (defScope st) f cdv A outer s H E).nox (defBody st) t)
    (sim : SimS t d) (law : ∀ ds Z, ds.length = ct.n → ct.pre ds Z → d (endsD ct.io Z) (startD Ns.length ct.io ds)) : FnOk P w K mg base CX0 (k + 1) f fd ps (spD ct) := by
  refine F.ok S (fun vs H Q E h => ?_) (fun cdv A outer s H vs Q E hr h => ?_)
  · obtain ⟨B, ds, p, Z, hl, _, a, _⟩ := h
    rw [a.len, hl, hn]
  · obtain ⟨B, ds, p, Z, hl, bd, a, pre, k⟩ := h
    exact ⟨t, body cdv A outer s H E hr, sim _ B _ H _ _ _ (rel_start rfl bd a) (law ds Z hl pre) (ends_ok rfl bd a k)⟩
end
/-- a result's first item, a new list -/
def dIx0 (de : DE) : DE := fun ρ Q => de ρ fun r ρ1 => match r with
  | .np ds _ => Q (.nw (.list ds)) ρ1
  | _ => False
theorem simE_ix0 {K : PySem.W.Frag} {te : TE} {de : DE} (h : SimE te de) : SimE (tOp (rIx K) te (tC (.int 0))) (dIx0 de) := fun H0 B σ H ρ Q QD R q k =>
  h H0 B σ H ρ _ _ R q fun r ρ1 v H1 R1 S1 K1 o1 q1 => by
    cases r with
    | np ds rest =>
      obtain ⟨T, p, xs, e, e2, h0, nb, no, ho, hr, Rb⟩ := o1
      exact .inr (.inl ⟨T, _, 0, .ref p, e, rfl, SqT.of e2, atI_nat (j := 0) rfl, k (.nw (.list ds)) ρ1 _ H1 R1 S1 K1 ⟨p, rfl, h0, nb, no, ho, Rb⟩ q1⟩)
    | _ => exact q1.elim
/-- return (x, ..): x a list of one's own -/
def dRetT (i : Nat) (da : DA) : DS := fun DD ρ => (∃ s, ρ[i]? = some (some s) ∧ s.own = true) ∧ da ρ fun rs ρ1 => ∃ rest, stoAll rs = some rest ∧ rest.length ≤ 1000 ∧ match ρ1[i]? with
  | some (some (.ow (.list ds))) => DD.rt (.np ds rest) (ρ1.set i none)
  | _ => False
theorem simS_retT {i : Nat} {ta : TA} {da : DA} (h : SimA ta da) : SimS (tRet (tTup (tCons (tVar i) ta))) (dRetT i da) := fun H0 B σ H ρ D DD R q E => by
  obtain ⟨⟨s, e1, e2⟩, q⟩ := q
  obtain ⟨p, h1, h2⟩ := R.own i s e1 e2
  refine ⟨_, h1, ?_⟩
  refine h H0 B σ H ρ _ _ R q fun rs ρ1 vs H1 R1 S1 K1 o1 q1 => ?_
  obtain ⟨rest, hs, hl, q1⟩ := q1
  have r := o1.sto hs
  split at q1
  · rename_i ds e
    obtain ⟨p', c1, c2⟩ := R1.own i _ e rfl
    rw [h1] at c1
    cases c1
    obtain ⟨m1, m2⟩ := R1.mine i _ p e h1
    refine ⟨sz5 (by simp [r.len]; omega), fun T hT => ?_⟩
    have hi : i < ρ1.length := (List.getElem?_eq_some_iff.mp e).1
    have sub : ∀ q, Ow σ (ρ1.set i none) q → Ow σ ρ1 q ∧ q ≠ p := fun q ⟨j, t, a, b, c⟩ => by
      by_cases hj : i = j
      · subst hj
        rw [List.getElem?_set_self hi] at a
        cases a
      · rw [List.getElem?_set_ne hj] at a
        refine ⟨⟨j, t, a, b, c⟩, fun z => ?_⟩
        subst z
        exact hj (R1.ne i j _ t q e rfl a b h1 c)
    have ps : Pass (Al B σ ρ1) (Al (bor B p) σ (ρ1.set i none)) H1 H1 := ⟨fun a xs n e' => ⟨fun z => n (by
      rcases z with (z | z) | z
      · exact .inl z
      · exact .inr ⟨i, _, e, rfl, by rw [z]; exact h1⟩
      · exact .inr (sub a z).1), e'⟩, fun _ _ e => e⟩
    obtain ⟨op, eop, ntp⟩ := c2.some
    have R2 : Rel H0 (bor B p) σ H1 (ρ1.set i none) := by
      refine ⟨by simp [R1.len], fun j d a => ?_, fun j t a b => ?_, fun j d q a b => ?_, fun j j' t u q a b a' b' c c' => ?_, R1.dom, fun j d a => ?_, fun b z => ?_⟩
      · by_cases hj : i = j
        · subst hj
          rw [List.getElem?_set_self hi] at a
          cases a
        · rw [List.getElem?_set_ne hj] at a
          obtain ⟨v, x1, x2⟩ := R1.fz j d a
          exact ⟨v, x1, Rp.pass ps _ _ x2⟩
      · by_cases hj : i = j
        · subst hj
          rw [List.getElem?_set_self hi] at a
          cases a
        · rw [List.getElem?_set_ne hj] at a
          obtain ⟨q, x1, x2⟩ := R1.own j t a b
          exact ⟨q, x1, x2.pass ps rfl⟩
      · by_cases hj : i = j
        · subst hj
          rw [List.getElem?_set_self hi] at a
          cases a
        · have a0 := a
          rw [List.getElem?_set_ne hj] at a
          have m := R1.mine j d q a b
          exact ⟨m.1, fun z => z.elim m.2 fun z => (sub q ⟨j, _, a0, rfl, b⟩).2 z⟩
      · by_cases hj : i = j
        · subst hj
          rw [List.getElem?_set_self hi] at a
          cases a
        · by_cases hj' : i = j'
          · subst hj'
            rw [List.getElem?_set_self hi] at a'
            cases a'
          · rw [List.getElem?_set_ne hj] at a
            rw [List.getElem?_set_ne hj'] at a'
            exact R1.ne j j' t u q a b a' b' c c'
      · by_cases hj : i = j
        · subst hj
          rw [List.getElem?_set_self hi] at a
          cases a
        · rw [List.getElem?_set_ne hj] at a
          exact R1.ioa j d a
      · rcases z with z | z
        · exact R1.bdom b z
        · rw [z, eop]
          exact fun z => nomatch z
    have g : Grow H1 (upd H1 T (.tup (.ref p :: vs))) := .new hT
    have R3 := R2.grow g
    have eT : p ≠ T := fun z => by rw [z, hT] at eop; cases eop
    refine E.rt (.np ds rest) _ _ σ _ (R3.anti fun b z => .inl z) ⟨fun b o x n => g.keep b o (S1.keep b o x n), fun b x => S1.dom b (g.dom b x), fun b xs x => g.keep b _ (S1.tup b xs x), fun q z => S1.own q (sub q z).1⟩ ⟨T, p, vs, rfl, upd_same, m1, m2, fun z => (sub p z).2 rfl, ?_, ?_, R3⟩ q1
    · exact (c2.pass ps rfl).pass (g.pass fun _ z => .inl z) ((g.keep p op eop).trans eop.symm)
    · exact RpAll.pass (g.pass fun _ z => .inl z) _ _ (RpAll.pass ps _ _ r)
  · exact q1.elim
end Dl
set_option Elab.async false
set_option linter.all false
set_option maxRecDepth 100000
set_option maxHeartbeats 4000000
/-! The data layer, part 7: built-ins. -/
namespace Dl
open PySem L2

theorem VwAll.intsL {A : Av} {H : Hp} {v : V} {ns : List Int} (h : Vw A H v (.list (ns.map PyData.int))) : ∃ p, v = .ref p ∧ H p = some (.lst (ns.map V.int)) := by
  obtain ⟨p, xs, e, e2, r⟩ := h.lst
  rw [r.ints] at e2
  exact ⟨p, e, e2⟩
/-- list(x) -/
def oListOf : OpN := fun ds Z => match ds with
  | [d] => ∃ xs, itemsD d = some xs ∧ Z (.nw (.list xs))
  | _ => False
def rListOf (K : PySem.W.Frag) : List V → Hp → VK → Prop := fun xs H Q => ∃ p ys, xs = [.ref p] ∧ (SqL K H p ys ∨ SqT K H p ys) ∧ ∀ l, H l = none → Q (.ref l) (upd H l (.lst ys))
theorem call_listOf {X : Cx} : CallR X (.type "list") (rListOf X.K) := call_list_of
theorem simRN_listOf {K : PySem.W.Frag} : SimRN (rListOf K) oListOf := fun A H xs ds Q Z ad hv q k => by
  unfold oListOf at q
  split at q
  · rename_i d
    obtain ⟨v, e, hv1⟩ := VwAll.one hv
    subst e
    obtain ⟨us, e1, q⟩ := q
    obtain ⟨p, ys, e2, e3, e4⟩ := Vw.items (K := K) hv1 e1
    subst e2
    exact ⟨p, ys, rfl, e3, fun l hl => k (.nw (.list us)) _ _ (.new hl) ⟨l, rfl, hl, by rw [upd_same]; exact fun z => (nomatch z), ys, upd_same, RpAll.pass (pass_new hl) _ _ e4⟩ q⟩
  · exact q.elim
/-- tuple(x) -/
def oTupOf : OpN := fun ds Z => match ds with
  | [.list xs] => Z (.fz (.tuple xs))
  | [.tuple xs] => Z (.fz (.tuple xs))
  | _ => False
def rTupOf (K : PySem.W.Frag) : List V → Hp → VK → Prop := fun xs H Q => ∃ p ys, xs = [.ref p] ∧ ((SqL K H p ys ∧ ∀ l, H l = none → Q (.ref l) (upd H l (.tup ys))) ∨ (SqT K H p ys ∧ Q (.ref p) H))
theorem call_tupOf {X : Cx} : CallR X (.type "tuple") (rTupOf X.K) := call_tuple_of
theorem simRN_tupOf {K : PySem.W.Frag} : SimRN (rTupOf K) oTupOf := fun A H xs ds Q Z ad hv q k => by
  unfold oTupOf at q
  split at q
  · rename_i us
    obtain ⟨v, e, hv1⟩ := VwAll.one hv
    subst e
    obtain ⟨p, ys, e2, e3, e4⟩ := Vw.lst hv1
    subst e2
    refine ⟨p, ys, rfl, .inl ⟨SqL.of e3, fun l hl => k (.fz _) _ _ (.new hl) ?_ q⟩⟩
    exact .tup upd_same (RpAll.pass ((Grow.new hl).pass fun _ z => .inl z) _ _ e4)
  · rename_i us
    obtain ⟨v, e, hv1⟩ := VwAll.one hv
    subst e
    obtain ⟨p, ys, e2, e3, e4⟩ := Vw.tup hv1
    subst e2
    exact ⟨p, ys, rfl, .inr ⟨SqT.of e3, k (.fz _) _ _ .refl (.tup e3 e4) q⟩⟩
  · exact q.elim
/-- a list of ints -/
def intsOf : List PyData → Option (List Int)
  | [] => some []
  | .int i :: ds => match intsOf ds with
    | some ns => some (i :: ns)
    | none => none
  | _ => none
theorem intsOf_some : ∀ {ds : List PyData} {ns : List Int}, intsOf ds = some ns → ds = ns.map PyData.int
  | [], _, h => by cases h; rfl
  | .int i :: ds, ns, h => by
    unfold intsOf at h
    split at h
    · rename_i ms e
      cases h
      rw [intsOf_some e]
      rfl
    · cases h
  | .none :: _, _, h => by cases h
  | .bool _ :: _, _, h => by cases h
  | .str _ :: _, _, h => by cases h
  | .list _ :: _, _, h => by cases h
  | .tuple _ :: _, _, h => by cases h
  | .dict _ :: _, _, h => by cases h
theorem intsOf_map (ns : List Int) : intsOf (ns.map PyData.int) = some ns := by
  induction ns with
  | nil => rfl
  | cons n ns ih =>
    show (match intsOf (ns.map PyData.int) with | some ms => some (n :: ms) | none => none) = some (n :: ns)
    rw [ih]
def oSorted : OpN := fun ds Z => match ds with
  | [.list xs] => ∃ ns, intsOf xs = some ns ∧ ∀ ns' : List Int, ns'.Perm ns → ns'.Pairwise (· ≤ ·) → Z (.nw (.list (ns'.map PyData.int)))
  | _ => False
theorem simRN_sorted {K : PySem.W.Frag} : SimRN (rSortedI K) oSorted := fun A H xs ds Q Z ad hv q k => by
  unfold oSorted at q
  split at q
  · rename_i us
    obtain ⟨ns, e1, q⟩ := q
    have e1 := intsOf_some e1
    subst e1
    obtain ⟨v, e, hv1⟩ := VwAll.one hv
    subst e
    obtain ⟨p, e2, e3⟩ := VwAll.intsL hv1
    subst e2
    refine ⟨p, ns, rfl, SqL.of e3, fun ns' l hp hw hl => k (.nw (.list _)) _ _ (.new hl) ⟨l, rfl, hl, by rw [upd_same]; exact fun z => (nomatch z), _, upd_same, RpAll.ofInts ns'⟩ (q ns' hp hw)⟩
  · exact q.elim
/-- min, max of two ints -/
def oMin2 : OpN := fun ds Z => match ds with
  | [.int i, .int j] => Z (.fz (.int (if j < i then j else i)))
  | _ => False
def oMax2 : OpN := fun ds Z => match ds with
  | [.int i, .int j] => Z (.fz (.int (if j > i then j else i)))
  | _ => False
def rMin2 : List V → Hp → VK → Prop := fun xs H Q => ∃ i j, xs = [.int i, .int j] ∧ Q (.int (if j < i then j else i)) H
def rMax2 : List V → Hp → VK → Prop := fun xs H Q => ∃ i j, xs = [.int i, .int j] ∧ Q (.int (if j > i then j else i)) H
theorem simRN_min2 : SimRN rMin2 oMin2 := fun A H xs ds Q Z ad hv q k => by
  unfold oMin2 at q
  split at q
  · obtain ⟨v, w, e, h1, h2⟩ := VwAll.two hv
    subst e
    cases h1.int
    cases h2.int
    exact ⟨_, _, rfl, k (.fz _) _ _ .refl (.int _) q⟩
  · exact q.elim
theorem simRN_max2 : SimRN rMax2 oMax2 := fun A H xs ds Q Z ad hv q k => by
  unfold oMax2 at q
  split at q
  · obtain ⟨v, w, e, h1, h2⟩ := VwAll.two hv
    subst e
    cases h1.int
    cases h2.int
    exact ⟨_, _, rfl, k (.fz _) _ _ .refl (.int _) q⟩
  · exact q.elim
/-- sum, max, min of a list of ints -/
def oSum : OpN := fun ds Z => match ds with
  | [.list xs] => ∃ ns, intsOf xs = some ns ∧ Z (.fz (.int ns.sum))
  | _ => False
def oMax : OpN := fun ds Z => match ds with
  | [.list xs] => ∃ ns, intsOf xs = some ns ∧ 0 < ns.length ∧ ∀ m, m ∈ ns → (∀ y, y ∈ ns → y ≤ m) → Z (.fz (.int m))
  | _ => False
def oMin : OpN := fun ds Z => match ds with
  | [.list xs] => ∃ ns, intsOf xs = some ns ∧ 0 < ns.length ∧ ∀ m, m ∈ ns → (∀ y, y ∈ ns → m ≤ y) → Z (.fz (.int m))
  | _ => False
theorem simRN_sum {K : PySem.W.Frag} : SimRN (rSum K) oSum := fun A H xs ds Q Z ad hv q k => by
  unfold oSum at q
  split at q
  · obtain ⟨ns, e1, q⟩ := q
    have e1 := intsOf_some e1
    subst e1
    obtain ⟨v, e, hv1⟩ := VwAll.one hv
    subst e
    obtain ⟨p, e2, e3⟩ := VwAll.intsL hv1
    subst e2
    exact ⟨p, ns, rfl, SqL.of e3, k (.fz _) _ _ .refl (.int _) q⟩
  · exact q.elim
theorem simRN_max {K : PySem.W.Frag} : SimRN (rMax K) oMax := fun A H xs ds Q Z ad hv q k => by
  unfold oMax at q
  split at q
  · obtain ⟨ns, e1, hl, q⟩ := q
    have e1 := intsOf_some e1
    subst e1
    obtain ⟨v, e, hv1⟩ := VwAll.one hv
    subst e
    obtain ⟨p, e2, e3⟩ := VwAll.intsL hv1
    subst e2
    exact ⟨p, ns, rfl, SqL.of e3, hl, fun m h1 h2 => k (.fz _) _ _ .refl (.int _) (q m h1 h2)⟩
  · exact q.elim
theorem simRN_min {K : PySem.W.Frag} : SimRN (rMin K) oMin := fun A H xs ds Q Z ad hv q k => by
  unfold oMin at q
  split at q
  · obtain ⟨ns, e1, hl, q⟩ := q
    have e1 := intsOf_some e1
    subst e1
    obtain ⟨v, e, hv1⟩ := VwAll.one hv
    subst e
    obtain ⟨p, e2, e3⟩ := VwAll.intsL hv1
    subst e2
    exact ⟨p, ns, rfl, SqL.of e3, hl, fun m h1 h2 => k (.fz _) _ _ .refl (.int _) (q m h1 h2)⟩
  · exact q.elim
/-- all of a list of truth values -/
def blsOf : List PyData → Option (List Bool)
  | [] => some []
  | .bool i :: ds => match blsOf ds with
    | some ns => some (i :: ns)
    | none => none
  | _ => none
theorem blsOf_some : ∀ {ds : List PyData} {ns : List Bool}, blsOf ds = some ns → ds = ns.map PyData.bool
  | [], _, h => by cases h; rfl
  | .bool i :: ds, ns, h => by
    unfold blsOf at h
    split at h
    · rename_i ms e
      cases h
      rw [blsOf_some e]
      rfl
    · cases h
  | .none :: _, _, h => by cases h
  | .int _ :: _, _, h => by cases h
  | .str _ :: _, _, h => by cases h
  | .list _ :: _, _, h => by cases h
  | .tuple _ :: _, _, h => by cases h
  | .dict _ :: _, _, h => by cases h
theorem blsOf_map (ns : List Bool) : blsOf (ns.map PyData.bool) = some ns := by
  induction ns with
  | nil => rfl
  | cons n ns ih =>
    show (match blsOf (ns.map PyData.bool) with | some ms => some (n :: ms) | none => none) = some (n :: ns)
    rw [ih]
def oAll : OpN := fun ds Z => match ds with
  | [.list xs] => ∃ ns, blsOf xs = some ns ∧ Z (.fz (.bool (ns.all id)))
  | _ => False
theorem simRN_all {K : PySem.W.Frag} : SimRN (rAll K) oAll := fun A H xs ds Q Z ad hv q k => by
  unfold oAll at q
  split at q
  · obtain ⟨ns, e1, q⟩ := q
    have e1 := blsOf_some e1
    subst e1
    obtain ⟨v, e, hv1⟩ := VwAll.one hv
    subst e
    obtain ⟨p, xs, e2, e3, e4⟩ := hv1.lst
    subst e2
    rw [e4.bls] at e3
    exact ⟨p, ns, rfl, SqL.of e3, k (.fz _) _ _ .refl (.bl _) q⟩
  · exact q.elim
/-- int(x), of an int or a truth value -/
def oInt : OpN := fun ds Z => match ds with
  | [.int i] => Z (.fz (.int i))
  | [.bool b] => Z (.fz (.int (if b then 1 else 0)))
  | _ => False
def rInt1 : List V → Hp → VK → Prop := fun xs H Q => (∃ i, xs = [.int i] ∧ Q (.int i) H) ∨ ∃ k, xs = [.bl k] ∧ Q (.int (if k then 1 else 0)) H
theorem simRN_int : SimRN rInt1 oInt := fun A H xs ds Q Z ad hv q k => by
  unfold oInt at q
  split at q
  · obtain ⟨v, e, h1⟩ := VwAll.one hv
    subst e
    cases h1.int
    exact .inl ⟨_, rfl, k (.fz _) _ _ .refl (.int _) q⟩
  · obtain ⟨v, e, h1⟩ := VwAll.one hv
    subst e
    cases h1.bl
    exact .inr ⟨_, rfl, k (.fz _) _ _ .refl (.int _) q⟩
  · exact q.elim
/-- -x -/
def oNeg : Op1 := fun d Z => match d with
  | .int i => Z (.fz (.int (-i)))
  | _ => False
theorem simR1_neg : SimR1 (rU fun i => .int (-i)) oNeg := fun A H x d Q Z ad vx q k => by
  unfold oNeg at q
  split at q
  · cases vx.int
    exact ⟨_, rfl, k (.fz _) _ _ .refl (.int _) q⟩
  · exact q.elim

/-! ### isinstance -/
def tyName : PyData → String
  | .none => "NoneType"
  | .bool _ => "bool"
  | .int _ => "int"
  | .str _ => "str"
  | .list _ => "list"
  | .tuple _ => "tuple"
  | .dict _ => "dict"
theorem Vw.ty {K : PySem.W.Frag} {A : Av} {H : Hp} {v : V} {d : PyData} (h : Vw A H v d) : TyX K H v (.type (tyName d)) := by
  rcases h with h | ⟨p, e, h⟩
  · cases h with
    | non => exact .base .non
    | bl b => exact .base (.bl b)
    | int i => exact .base (.int i)
    | str x => exact .base (.str x)
    | lst _ e _ => exact .base (.lst e)
    | tup e _ => exact .base (.tup e)
  · subst e
    cases d with
    | list ds =>
      obtain ⟨xs, e, _⟩ := h
      exact .base (.lst e)
    | dict kvs =>
      rcases h with ⟨kv, e, _⟩ | ⟨kv, _, _, e, _⟩
      · exact .base (.dK e)
      · exact .base (.dT e)
    | _ => exact h.elim
/-- one of these types -/
def isAny (ts : List String) (d : PyData) : Bool := ts.any fun t => (kitB (tyName d) t).getD false
def kitsOk (ts : List String) : Bool := ["NoneType", "bool", "int", "str", "list", "tuple", "dict"].all fun a => ts.all fun t => (kitB a t).isSome
theorem tyName_mem (d : PyData) : tyName d ∈ ["NoneType", "bool", "int", "str", "list", "tuple", "dict"] := by
  cases d <;> simp [tyName]
theorem kit_one {K : PySem.W.Frag} {ts : List String} {t : String} (h : kitsOk ts = true) (m : t ∈ ts) (d : PyData) : PySem.W.kitOne K (.type (tyName d)) (.type t) = some ((kitB (tyName d) t).getD false) := by
  have h1 := List.all_eq_true.mp (List.all_eq_true.mp h _ (tyName_mem d)) t m
  refine kit_ty ?_
  cases e : kitB (tyName d) t with
  | none => rw [e] at h1; cases h1
  | some b => rfl
theorem kit_any {K : PySem.W.Frag} {ts : List String} (h : kitsOk ts = true) (d : PyData) : ∀ us : List String, (∀ u ∈ us, u ∈ ts) → PySem.W.kitAny K (.type (tyName d)) (us.map Value.type) = some (isAny us d)
  | [], _ => kitAny_nil
  | u :: us, m => by
    have h1 := kit_one (K := K) h (m u List.mem_cons_self) d
    have ih := kit_any (K := K) h d us fun x hx => m x (List.mem_cons_of_mem _ hx)
    cases e : (kitB (tyName d) u).getD false with
    | true =>
      refine kitAny_cons h1 (fun z => by rw [e] at z; cases z) fun _ => ?_
      unfold isAny
      rw [List.any_cons, e]
      rfl
    | false =>
      have e2 : isAny (u :: us) d = isAny us d := by
        unfold isAny
        rw [List.any_cons, e]
        rfl
      rw [e2]
      exact kitAny_cons h1 (fun _ => ih) fun z => by rw [e] at z; cases z
def dIsi (ts : List String) (de : DE) : DE := fun ρ Q => de ρ fun r ρ1 => Q (.fz (.bool (isAny ts (r.dat ρ1)))) ρ1
/-- isinstance(e, t) -/
theorem simE_isi1 {K : PySem.W.Frag} {t : String} {te : TE} {de : DE} (hk : kitsOk [t] = true) (h : SimE te de) : SimE (tCB (rIsi K) (tCons te (tCons (tC (.ty t)) tNil))) (dIsi [t] de) := fun H0 B σ H ρ Q QD R q k =>
  h H0 B σ H ρ _ _ R q fun r ρ1 v H1 R1 S1 K1 o1 q1 => by
    have hx := kit_one (K := K) hk (List.mem_cons_self (a := t) (l := [])) (r.dat ρ1)
    refine ⟨v, .ty t, .type (tyName (r.dat ρ1)), .type t, _, rfl, .ty t, (o1.cv.vw R1).ty, hx, k (.fz (.bool (isAny [t] (r.dat ρ1)))) ρ1 _ H1 R1 S1 K1 ?_ q1⟩
    have e : isAny [t] (r.dat ρ1) = (kitB (tyName (r.dat ρ1)) t).getD false := by simp [isAny]
    rw [e]
    exact .bl _
def tysA : List String → TA
  | [] => tNil
  | t :: ts => tCons (tC (.ty t)) (tysA ts)
theorem tysA_run : ∀ (ts : List String) (σ : L2.St) (H : Hp) (Q : List V → Hp → Prop), Q (ts.map V.ty) H → tysA ts σ H Q
  | [], _, _, _, h => h
  | t :: ts, σ, H, Q, h => tysA_run ts σ H _ h
theorem paired_ty : ∀ ts : List String, Paired ClsV (ts.map V.ty) (ts.map Value.type)
  | [] => .nil
  | t :: ts => .cons (.ty t) (paired_ty ts)
/-- isinstance(e, (t, u, ..)) -/
theorem simE_isiT {K : PySem.W.Frag} {ts : List String} {te : TE} {de : DE} (hk : kitsOk ts = true) (hl : ts.length ≤ 10) (h : SimE te de) : SimE (tCB (rIsiT K) (tCons te (tCons (tTup (tysA ts)) tNil))) (dIsi ts de) := fun H0 B σ H ρ Q QD R q k =>
  h H0 B σ H ρ _ _ R q fun r ρ1 v H1 R1 S1 K1 o1 q1 => by
    refine tysA_run ts _ _ _ ⟨sz5 (by simp; omega), fun p hp => ?_⟩
    have g : Grow H1 (upd H1 p (.tup (ts.map V.ty))) := .new hp
    have R2 := R1.grow g
    have vw : Vw (Al B σ ρ1) (upd H1 p (.tup (ts.map V.ty))) v (r.dat ρ1) := (o1.cv.step (g.stp (σ := σ) (ρ := ρ1)) .refl).vw R2
    exact ⟨v, p, ts.map V.ty, .type (tyName (r.dat ρ1)), ts.map Value.type, _, rfl, upd_same, paired_ty ts, vw.ty, kit_any hk _ ts (fun _ z => z), k (.fz (.bool (isAny ts (r.dat ρ1)))) ρ1 _ _ R2 (S1.trans g.stp) K1 (.bl _) q1⟩
end Dl
set_option Elab.async false
set_option linter.all false
set_option maxRecDepth 100000
set_option maxHeartbeats 4000000
/-! The data layer, part 8: short names, walks over a list or a tuple, the law's head. -/
namespace Dl
open PySem L2

abbrev oFdiv : Op2 := dI (fun _ j => 0 < j ∧ j < 2 ^ 60) fun i j => .int (i / j)
abbrev oMod : Op2 := dI (fun _ j => 0 < j) fun i j => .int (i % j)
abbrev oPow : Op2 := dI (fun i j => 0 ≤ j ∧ j ≤ 1000 ∧ i.natAbs < 2 ^ 60) fun i j => .int (i ^ j.toNat)
abbrev oLt : Op2 := cmpD fun i j => decide (i < j)
abbrev oLe : Op2 := cmpD fun i j => decide (i ≤ j)
abbrev oGt : Op2 := cmpD fun i j => decide (j < i)
abbrev oGe : Op2 := cmpD fun i j => decide (j ≤ i)
def dAppS (i : Nat) (de : DE) : DS := fun DD ρ => (∃ s ds, ρ[i]? = some (some s) ∧ s.own = true ∧ s.dat = .list ds) ∧ dApp i de DD ρ
def dSetS (i : Nat) (de dk : DE) : DS := fun DD ρ => (∃ s : Sl, ρ[i]? = some (some s) ∧ s.own = true) ∧ dSet i de dk DD ρ
def dRetN : DS := fun DD ρ => DD.rt (.fz .none) ρ
theorem simS_retN : SimS tRetN dRetN := fun H0 B σ H ρ D DD R q E => E.rt (.fz .none) ρ .non σ H R .refl .non q

/-! ### a list or a tuple, walked -/
def iSeq (K : PySem.W.Frag) (tl : TE) : TI := fun σ H R => tl σ H fun x H1 => ∃ a, x = .ref a ∧ (((∃ xs, SqL K H1 a xs) ∧ R (Itl K a) H1) ∨ ((∃ xs, SqT K H1 a xs) ∧ R (Itt K a) H1))
section
variable {X : Cx} {tg : Expr}
theorem pi_seq {l : Expr} {tl : TE} (hl : PE X l tl) : PI X tg l (iSeq X.K tl) := by
  refine ⟨fun pins s σ H R I h => ?_⟩
  refine thn (hl.run pins s σ H _ I h) fun v s1 ⟨x, H1, I1, r1, q1⟩ => ?_
  obtain ⟨a, e, q1⟩ := q1
  subst e
  cases r1
  rcases q1 with ⟨⟨xs, hq⟩, q⟩ | ⟨⟨xs, hq⟩, q⟩
  · obtain ⟨its, rv, p, hz⟩ := I1.list hq
    refine wpAny_pyIter_list p.isList ?_
    refine ⟨s1.heap.objs.size, [s1.heap.objs.size], _, _, H1, rfl, I1.kept (t' := s1.toks) fun b o e => Heap.get?_push_of_some _ e, turn_list a _, ⟨_, Heap.get?_push_size _ rfl, rfl, rfl⟩, fun b hb => ?_, q⟩
    have e : b = s1.heap.objs.size := by simpa using hb
    subst e
    exact I1.fpOk (Nat.le_refl _) (I1.hok.fresh (Nat.le_refl _))
  · obtain ⟨its, rv, p, hz⟩ := I1.tuple hq
    refine wpAny_pyIter_tuple (show s1.heap.IsTuple a its.toArray from p) ?_
    refine ⟨s1.heap.objs.size, [s1.heap.objs.size], _, _, H1, rfl, I1.kept (t' := s1.toks) fun b o e => Heap.get?_push_of_some _ e, turn_tuple a _, ⟨_, Heap.get?_push_size _ rfl, rfl, rfl⟩, fun b hb => ?_, q⟩
    have e : b = s1.heap.objs.size := by simpa using hb
    subst e
    exact I1.fpOk (Nat.le_refl _) (I1.hok.fresh (Nat.le_refl _))
end
def dSeqI (de : DE) : DI := fun ρ Q => de ρ fun r ρ1 => match r.sto with
  | some (.list ds) => Q ds ρ1
  | some (.tuple ds) => Q ds ρ1
  | _ => False
theorem walk_lst {K : PySem.W.Frag} {B : Av} {σ : L2.St} {ρ : DEnv} {H1 : Hp} {a : Addr} {xs : List V} {ds : List PyData} (na : ¬ Al B σ ρ a) (ea : H1 a = some (.lst xs)) (ra : RpAll (Al B σ ρ) H1 xs ds) : WalkD σ ρ (Al B σ ρ) H1 (Itl K a) ds := by
  refine ⟨fun i H' kp kt hi => ?_, fun H' kp kt => ?_, fun i H' A x Hx ps kp hi y => ?_⟩
  · have hi' : i < xs.length := by rw [ra.len]; exact hi
    exact ⟨xs, xs[i], SqL.of (kp a _ ea fun z => na (.inr z)), by simp [hi']⟩
  · exact ⟨xs, SqL.of (kp a _ ea fun z => na (.inr z)), by rw [ra.len]; exact Nat.le_refl _⟩
  · obtain ⟨e1, e2⟩ := y
    subst e1
    obtain ⟨v, c1, c2⟩ := ra.get (i := i) (d := ds[i]) (by simp [hi])
    have e3 := e2 xs (SqL.of (kp a _ ea fun z => na (.inr z)))
    rw [c1] at e3
    cases e3
    exact ⟨.refl, ds[i], by simp [hi], Rp.pass ps _ _ c2⟩
theorem walk_tpl {K : PySem.W.Frag} {B : Av} {σ : L2.St} {ρ : DEnv} {H1 : Hp} {a : Addr} {xs : List V} {ds : List PyData} (ea : H1 a = some (.tup xs)) (ra : RpAll (Al B σ ρ) H1 xs ds) : WalkD σ ρ (Al B σ ρ) H1 (Itt K a) ds := by
  refine ⟨fun i H' kp kt hi => ?_, fun H' kp kt => ?_, fun i H' A x Hx ps kp hi y => ?_⟩
  · have hi' : i < xs.length := by rw [ra.len]; exact hi
    exact ⟨xs, xs[i], SqT.of (kt a _ ea), by simp [hi']⟩
  · exact ⟨xs, SqT.of (kt a _ ea), by rw [ra.len]; exact Nat.le_refl _⟩
  · obtain ⟨e1, e2⟩ := y
    subst e1
    obtain ⟨v, c1, c2⟩ := ra.get (i := i) (d := ds[i]) (by simp [hi])
    have e3 := e2 xs (SqT.of (ps.t a _ ea))
    rw [c1] at e3
    cases e3
    exact ⟨.refl, ds[i], by simp [hi], Rp.pass ps _ _ c2⟩
theorem simI_seq {K : PySem.W.Frag} {te : TE} {de : DE} (h : SimE te de) : SimI (iSeq K te) (dSeqI de) := fun H0 B σ H ρ R QD Rl q k =>
  h H0 B σ H ρ _ _ Rl q fun r ρ1 v H1 R1 S1 K1 o1 q1 => by
    split at q1
    · rename_i ds e
      have rp := o1.cv.sto e
      cases rp with
      | @lst a xs _ na ea ra => exact ⟨a, rfl, .inl ⟨⟨xs, SqL.of ea⟩, k (Itl K a) ds ρ1 H1 R1 S1 K1 (walk_lst na ea ra) q1⟩⟩
    · rename_i ds e
      have rp := o1.cv.sto e
      cases rp with
      | @tup a xs _ ea ra => exact ⟨a, rfl, .inr ⟨⟨xs, SqT.of ea⟩, k (Itt K a) ds ρ1 H1 R1 S1 K1 (walk_tpl ea ra) q1⟩⟩
    · exact q1.elim

/-! ### the law's own head: tape = [list(script), 0, 0] -/
def tHead (K : PySem.W.Frag) : TS := tAsg (tLst (tCons (tCB (rListOf K) (tCons (tVar 0) tNil)) (tCons (tC (.int 0)) (tCons (tC (.int 0)) tNil)))) (gName 1)
def tapeD (ns : List Int) (i n : Int) : PyData := .list [.list (ns.map PyData.int), .int i, .int n]
def spLaw (K : PySem.W.Frag) : Sp := fun vs H Q _ => ∃ (a : Addr) (ns : List Int), vs = [.ref a] ∧ SqL K H a (ns.map V.int) ∧ ns.length ≤ 63 ∧ ∀ H', Q (.bl true) H'
section
variable {P : Program} {w : World} {K : PySem.W.Frag} {mg : Str → Option Value} {base : Heap}
/-- what is wanted at the law's end: True -/
def lawEnds : DEnds where
  nx := fun _ => False
  rt := fun r _ => r = .fz (.bool true)
def startL (N : Nat) (ns : List Int) : DEnv := none :: some (.ow (tapeD ns 0 0)) :: List.replicate (N - 2) none
theorem ok_lawD {st : Stmt} {f : Addr} {fd : FuncData} {Ns : List Str} {k : Nat} {t : TS} {d : DS} (F : Fun K "law" "law" st f fd) (S : FnScope Ns ["script"] (defScope st)) (hN : 2 ≤ Ns.length)
    (body : ∀ (cdv : Value) (A : Around) (outer : List Env) (s : Shared) (H : Hp) (E : XK), Room k (A.deeper (PyProof.Rows.envOfC "law" (defScope st) s.heap.objs.size f cdv)) → PSs (cxOf CX0 P w K mg base Ns "law" (defScope st) f cdv A outer s H E).nox (defBody st) (tSeq (tHead K) t))
    (sim : SimS t d) (law : ∀ ns : List Int, ns.length ≤ 63 → d lawEnds (startL Ns.length ns)) : FnOk P w K mg base CX0 (k + 1) f fd ["script"] (spLaw K) := by
  refine F.ok S (fun vs H Q E h => ?_) (fun cdv A outer s H vs Q E hr h => ?_)
  · obtain ⟨a, ns, rfl, _⟩ := h
    rfl
  · obtain ⟨a, ns, rfl, hS, hl, q⟩ := h
    refine ⟨_, body cdv A outer s H E hr, ?_⟩
    have e0 : L2.start Ns [V.ref a] = some (V.ref a) :: none :: List.replicate (Ns.length - 2) none := by
      unfold L2.start
      obtain ⟨m, hm⟩ : ∃ m, Ns.length = m + 2 := ⟨Ns.length - 2, by omega⟩
      rw [hm]
      rfl
    rw [e0]
    refine ⟨.ref a, rfl, a, _, rfl, .inl hS, fun l hl0 => ?_⟩
    refine ⟨(by show 3 ≤ sizeLine; decide), fun T hT => ?_⟩
    have elT : l ≠ T := fun z => by
      rw [← z, upd_same] at hT
      cases hT
    have hT0 : H T = none := by
      rw [upd_ne elT.symm] at hT
      exact hT
    have ok : Rel ⟨H, fun _ => .non⟩ (fun _ => False) (some (V.ref a) :: some (V.ref T) :: List.replicate (Ns.length - 2) none) (upd (upd H l (.lst (ns.map V.int))) T (.lst [.ref l, .int 0, .int 0])) (startL Ns.length ns) := by
      have one : ∀ {i : Nat} {s : Sl}, (startL Ns.length ns)[i]? = some (some s) → i = 1 ∧ s = .ow (tapeD ns 0 0) := fun {i s} h => by
        unfold startL at h
        match i, h with
        | 0, h => cases h
        | 1, h => cases h; exact ⟨rfl, rfl⟩
        | i + 2, h =>
          rw [List.getElem?_cons_succ, List.getElem?_cons_succ, List.getElem?_replicate] at h
          split at h <;> cases h
      have ow : ∀ p, Al (fun _ => False) (some (V.ref a) :: some (V.ref T) :: List.replicate (Ns.length - 2) none) (startL Ns.length ns) p → p = T := fun p z => by
        rcases z with z | ⟨i, s, x1, x2, x3⟩
        · exact z.elim
        · obtain ⟨e1, e2⟩ := one x1
          subst e1
          cases x3
          rfl
      refine ⟨by simp [startL], fun i d h => ?_, fun i s h hs => ?_, fun i d p h h' => ?_, fun i j s t p h1 _ h2 _ _ _ => (one h1).1.trans (one h2).1.symm, fun b h => ?_, fun i d h => ?_, fun b h => h.elim⟩
      · cases (one h).2
      · obtain ⟨e1, e2⟩ := one h
        subst e1 e2
        refine ⟨T, rfl, _, upd_same, .cons (.lst (fun z => elT (ow l z)) (by rw [upd_ne elT, upd_same]) (RpAll.ofInts ns)) (.cons (.int 0) (.cons (.int 0) .nil))⟩
      · obtain ⟨e1, e2⟩ := one h
        subst e1
        cases h'
        exact ⟨hT0, fun z => z⟩
      · by_cases e1 : b = T
        · rw [e1]; exact hT0
        · rw [upd_ne e1] at h
          by_cases e2 : b = l
          · rw [e2]; exact hl0
          · rw [upd_ne e2] at h
            exact h
      · cases (one h).2
    refine sim _ _ _ _ _ _ _ ok (law ns hl) ⟨fun _ _ _ _ _ z => z.elim, fun _ _ _ _ _ z => z.elim, fun _ _ _ _ _ z => z.elim, fun r ρ' v σ' H' R' S' o z => ?_⟩
    have z' : r = .fz (.bool true) := z
    subst z'
    have o' : Rp (Al (fun _ => False) σ' ρ') H' v (.bool true) := o
    cases o'
    exact q H'
end
end Dl
set_option Elab.async false
set_option linter.all false
set_option maxRecDepth 100000
/-! The data layer, part 9: equations for the unfolding of data readings. -/
namespace Dl
open PySem L2
section
variable {α : Type} {a b c d : α} {l : List α}
theorem atI_0 : atI (a :: l) 0 = some a := atI_nat (j := 0) rfl
theorem atI_1 : atI (a :: b :: l) 1 = some b := atI_nat (j := 1) rfl
theorem atI_2 : atI (a :: b :: c :: l) 2 = some c := atI_nat (j := 2) rfl
theorem atI_3 : atI (a :: b :: c :: d :: l) 3 = some d := atI_nat (j := 3) rfl
theorem atI_n {l : List α} {i : Nat} {x : α} (h : l[i]? = some x) : atI l (i : Int) = some x := atI_nat h
theorem atI_map {β : Type} {l : List α} {f : α → β} {i : Nat} {x : α} (h : l[i]? = some x) : atI (l.map f) (i : Int) = some (f x) := atI_nat (by simp [h])
theorem atI_back {l : List α} {x : α} : atI (l ++ [x]) (-1) = some x := atI_last l x
end
section
variable {Z : Rs → Prop} {ds es : List PyData} {i j : Int} {x y : PyData} {b : Bool}
theorem oIx_tup : oIx (.tuple ds) (.int i) Z = ∃ x, atI ds i = some x ∧ Z (.fz x) := rfl
theorem oIx_lst : oIx (.list ds) (.int i) Z = ∃ x, atI ds i = some x ∧ Z (.fz x) := rfl
theorem oLen_tup : oLen [.tuple ds] Z = Z (.fz (.int ds.length)) := propext ⟨fun ⟨_, e, q⟩ => by cases e; exact q, fun q => ⟨_, rfl, q⟩⟩
theorem oLen_lst : oLen [.list ds] Z = Z (.fz (.int ds.length)) := propext ⟨fun ⟨_, e, q⟩ => by cases e; exact q, fun q => ⟨_, rfl, q⟩⟩
theorem oListOf_tup : oListOf [.tuple ds] Z = Z (.nw (.list ds)) := propext ⟨fun ⟨_, e, q⟩ => by cases e; exact q, fun q => ⟨_, rfl, q⟩⟩
theorem oListOf_lst : oListOf [.list ds] Z = Z (.nw (.list ds)) := propext ⟨fun ⟨_, e, q⟩ => by cases e; exact q, fun q => ⟨_, rfl, q⟩⟩
theorem oTupOf_tup : oTupOf [.tuple ds] Z = Z (.fz (.tuple ds)) := rfl
theorem oTupOf_lst : oTupOf [.list ds] Z = Z (.fz (.tuple ds)) := rfl
theorem oAdd_int : oAdd (.int i) (.int j) Z = Z (.fz (.int (i + j))) := rfl
theorem oAdd_tup : oAdd (.tuple ds) (.tuple es) Z = (ds.length + es.length ≤ 100000 ∧ Z (.fz (.tuple (ds ++ es)))) := rfl
theorem oAdd_lst : oAdd (.list ds) (.list es) Z = (ds.length + es.length ≤ 100000 ∧ Z (.nw (.list (ds ++ es)))) := rfl
theorem oMul_int : oMul (.int i) (.int j) Z = ((i.natAbs < 2 ^ 64 ∨ j.natAbs < 2 ^ 64) ∧ Z (.fz (.int (i * j)))) := rfl
theorem oMul_tup : oMul (.tuple ds) (.int j) Z = (ds ≠ [] ∧ ds.length ≤ 1000 ∧ -1000 ≤ j ∧ j ≤ 1000 ∧ Z (.fz (.tuple (List.replicate j.toNat ds).flatten))) := rfl
theorem oMul_lst : oMul (.list ds) (.int j) Z = (ds.length ≤ 100 ∧ -1000 ≤ j ∧ j ≤ 1000 ∧ Z (.nw (.list (List.replicate j.toNat ds).flatten))) := rfl
theorem dI0_int {g : Int → Int → PyData} : dI0 g (.int i) (.int j) Z = Z (.fz (g i j)) := rfl
theorem dI_int {C : Int → Int → Prop} {g : Int → Int → PyData} : dI C g (.int i) (.int j) Z = (C i j ∧ Z (.fz (g i j))) := rfl
theorem oIs_non {n : Bool} : oIs n x .none Z = Z (.fz (.bool (n ^^ isN x))) := rfl
theorem oIs_bl {n c : Bool} : oIs n (.bool b) (.bool c) Z = Z (.fz (.bool (n ^^ decide (b = c)))) := rfl
theorem isN_non : isN .none = true := rfl
theorem isN_int : isN (.int i) = false := rfl
theorem isN_tup : isN (.tuple ds) = false := rfl
theorem isN_lst : isN (.list ds) = false := rfl
theorem isN_bl : isN (.bool b) = false := rfl
theorem oNeg_int : oNeg (.int i) Z = Z (.fz (.int (-i))) := rfl
theorem oMin2_int : oMin2 [.int i, .int j] Z = Z (.fz (.int (if j < i then j else i))) := rfl
theorem oMax2_int : oMax2 [.int i, .int j] Z = Z (.fz (.int (if j > i then j else i))) := rfl
theorem oInt_int : oInt [.int i] Z = Z (.fz (.int i)) := rfl
theorem oInt_bl : oInt [.bool b] Z = Z (.fz (.int (if b then 1 else 0))) := rfl
theorem oSl_tup {lo hi : Option Int} : oSl (.tuple ds) lo hi Z = Z (.fz (.tuple (cut ds lo hi))) := rfl
theorem oSl_lst {lo hi : Option Int} : oSl (.list ds) lo hi Z = Z (.nw (.list (cut ds lo hi))) := rfl
end
section
variable {Z : Rs → PyData → Prop} {ρ : DEnv} {d e : PyData} {ds rest : List PyData}
theorem ends_fz : (endsD none Z).rt (.fz d) ρ = Z (.fz d) .none := rfl
theorem ends_nw : (endsD none Z).rt (.nw d) ρ = Z (.nw d) .none := rfl
theorem ends_np : (endsD none Z).rt (.np ds rest) ρ = Z (.np ds rest) .none := propext ⟨fun z => z.2, fun z => ⟨rfl, z⟩⟩
theorem ends_nx : (endsD none Z).nx ρ = Z (.fz .none) .none := rfl
theorem ends_br {i : Nat} : (endsD none Z).rt (.br i) ρ = retD ρ (.br i) fun r => Z r .none := rfl
theorem retD_br {i : Nat} {W : Rs → Prop} : retD ρ (.br i) W = match ρ[i]? with
    | some (some (.ow d)) => W (.nw d)
    | _ => False := rfl
theorem ends_fzi {k : Nat} : (endsD (some k) Z).rt (.fz d) ρ = match ρ[k]? with
    | some (some (.io e)) => Z (.fz d) e
    | _ => False := rfl
theorem ends_nwi {k : Nat} : (endsD (some k) Z).rt (.nw d) ρ = match ρ[k]? with
    | some (some (.io e)) => Z (.nw d) e
    | _ => False := rfl
theorem ends_bri {k i : Nat} : (endsD (some k) Z).rt (.br i) ρ = retD ρ (.br i) fun r => match ρ[k]? with
    | some (some (.io e)) => Z r e
    | _ => False := rfl
end
section
variable {ρ : DEnv} {d : PyData} {ds rest : List PyData} {i : Nat}
theorem dat_fz : (Rs.fz d).dat ρ = d := rfl
theorem dat_nw : (Rs.nw d).dat ρ = d := rfl
theorem dat_br : (Rs.br i).dat ρ = datAt ρ i := rfl
theorem dat_np : (Rs.np ds rest).dat ρ = .tuple (.list ds :: rest) := rfl
theorem sto_fz : (Rs.fz d).sto = some d := rfl
theorem sto_nw : (Rs.nw (.list ds)).sto = some (.list ds) := rfl
theorem sto_np : (Rs.np ds rest).sto = some (.tuple (.list ds :: rest)) := rfl
theorem sto_br : (Rs.br i).sto = none := rfl
end
theorem whileD_succ {t : DT} {b : DS} {DD : DEnds} {n : Nat} {ρ : DEnv} : whileD t b DD (n + 1) ρ = t ρ fun c ρ1 => if c = true then b { DD with nx := whileD t b DD n, ct := whileD t b DD n, bk := DD.nx } ρ1 else DD.nx ρ1 := rfl
theorem loopD_nil {g : DG} {b : DS} {DD : DEnds} {ρ : DEnv} : loopD g b DD [] ρ = DD.nx ρ := rfl
theorem loopD_cons {g : DG} {b : DS} {DD : DEnds} {x : PyData} {xs : List PyData} {ρ : DEnv} : loopD g b DD (x :: xs) ρ = g x ρ fun ρ1 => b { DD with nx := loopD g b DD xs, ct := loopD g b DD xs, bk := DD.nx } ρ1 := rfl
theorem cut_to {α : Type} (l : List α) {n : Nat} (h : n ≤ l.length) : cut l none (some (n : Int)) = l.take n := by
  unfold cut
  rw [HT.sIx_none, HT.sIx_nat]
  simp [Nat.min_eq_left h]
theorem cut_from {α : Type} (l : List α) (n : Nat) : cut l (some (n : Int)) none = l.drop n := by
  unfold cut
  rw [HT.sIx_none, HT.sIx_nat]
  by_cases h : n ≤ l.length
  · rw [Nat.min_eq_left h]
    apply List.take_of_length_le
    simp
  · rw [Nat.min_eq_right (by omega), Nat.sub_self, List.take_zero, List.drop_eq_nil_of_le (by omega)]
theorem rep1 {α : Type} (x : α) : ∀ n : Nat, (List.replicate n [x]).flatten = List.replicate n x
  | 0 => rfl
  | n + 1 => by rw [List.replicate_succ, List.flatten_cons, rep1 x n]; rfl
/-- a statement, and what holds behind it -/
theorem dSeq_by {a b : DS} {DD : DEnds} {ρ : DEnv} (M : DEnv → Prop) (h1 : ∀ W : DEnv → Prop, (∀ ρ', M ρ' → W ρ') → a { DD with nx := W } ρ) (h2 : ∀ ρ', M ρ' → b DD ρ') : dSeq a b DD ρ := h1 _ h2
theorem ixN_31 : ixN 3 1 = some 1 := rfl
theorem ixN_32 : ixN 3 2 = some 2 := rfl
theorem ixN_n {n j : Nat} (h : j < n) : ixN n (j : Int) = some j := by
  unfold ixN
  rw [if_pos (by omega), if_pos (by omega)]
  simp
/-! ### loops -/
theorem dWhile_seq {T : DT} {B : DS} {DD : DEnds} {ρ : DEnv} (ρs : Nat → DEnv) (m : Nat) (h0 : ρ = ρs 0)
    (step : ∀ k, k < m → ∀ W : DEnv → Prop, W (ρs (k + 1)) → T (ρs k) fun c ρ1 => if c = true then B { DD with nx := W, ct := W, bk := DD.nx } ρ1 else DD.nx ρ1)
    (last : ∀ W : DEnv → Prop, T (ρs m) fun c ρ1 => if c = true then B { DD with nx := W, ct := W, bk := DD.nx } ρ1 else DD.nx ρ1) : dWhile T B DD ρ := by
  subst h0
  refine ⟨m + 1, ?_⟩
  have key : ∀ j k, k + j = m → whileD T B DD (j + 1) (ρs k) := by
    intro j
    induction j with
    | zero =>
      intro k e
      have e : k = m := by omega
      subst e
      exact last _
    | succ j ih =>
      intro k e
      exact step k (by omega) _ (ih (k + 1) (by omega))
  exact key m 0 (by omega)
theorem loopD_inv {g : DG} {b : DS} {DD : DEnds} {items : List PyData} {ρ : DEnv} (I : Nat → DEnv → Prop) (h0 : I 0 ρ)
    (step : ∀ (k : Nat) (x : PyData) (ρ : DEnv) (W : DEnv → Prop), items[k]? = some x → I k ρ → (∀ ρ', I (k + 1) ρ' → W ρ') → g x ρ fun ρ1 => b { DD with nx := W, ct := W, bk := DD.nx } ρ1)
    (last : ∀ ρ, I items.length ρ → DD.nx ρ) : loopD g b DD items ρ := by
  have key : ∀ (xs : List PyData) (k : Nat) (ρ : DEnv), items.drop k = xs → k ≤ items.length → I k ρ → loopD g b DD xs ρ := by
    intro xs
    induction xs with
    | nil =>
      intro k ρ e hk h
      have hk2 : k = items.length := by
        have := congrArg List.length e
        simp at this
        omega
      subst hk2
      exact last ρ h
    | cons x xs ih =>
      intro k ρ e hk h
      have hx : items[k]? = some x := by
        have := congrArg (fun l => l[0]?) e
        simpa using this
      have hk2 : k < items.length := (List.getElem?_eq_some_iff.mp hx).1
      have e2 : items.drop (k + 1) = xs := by
        have := congrArg (List.drop 1) e
        simpa [Nat.add_comm] using this
      exact step k x ρ _ hx h fun ρ' h' => ih (k + 1) ρ' e2 hk2 h'
  exact key items 0 ρ rfl (Nat.zero_le _) h0
theorem loopD_seq {g : DG} {b : DS} {DD : DEnds} {items : List PyData} {ρ : DEnv} (ρs : Nat → DEnv) (h0 : ρ = ρs 0)
    (step : ∀ (k : Nat) (x : PyData) (W : DEnv → Prop), items[k]? = some x → W (ρs (k + 1)) → g x (ρs k) fun ρ1 => b { DD with nx := W, ct := W, bk := DD.nx } ρ1)
    (last : DD.nx (ρs items.length)) : loopD g b DD items ρ := by
  subst h0
  refine loopD_inv (fun k ρ => ρ = ρs k) rfl (fun k x ρ W hx e hW => ?_) fun ρ e => ?_
  · subst e
    exact step k x W hx (hW _ rfl)
  · subst e
    exact last
/-- a comprehension, its own slots vs -/
theorem lcLoop_inv {vs : List Nat} {dg : DG} {dt : DT} {de : DE} {items : List PyData} {ρ : DEnv} {Q : List PyData → DEnv → Prop} (I : Nat → List PyData → DEnv → Prop) (h0 : I 0 [] ρ)
    (step : ∀ (k : Nat) (x : PyData) (acc : List PyData) (ρ : DEnv) (W : DEnv → Option PyData → Prop), items[k]? = some x → I k acc ρ → (∀ ρ' d, I (k + 1) (acc ++ [d]) ρ' → W ρ' (some d)) → (∀ ρ', I (k + 1) acc ρ' → W ρ' none) →
      dg x ρ fun ρ1 => dt ρ1 fun b ρ2 => if b = true then de ρ2 fun r ρ3 => ∃ d, r.sto = some d ∧ W (wipeD ρ3 vs) (some d) else W (wipeD ρ2 vs) none)
    (last : ∀ acc ρ, I items.length acc ρ → Q acc ρ) : lcLoop vs dg dt de items ρ Q := by
  have key : ∀ (xs : List PyData) (k : Nat) (acc : List PyData) (ρ : DEnv), items.drop k = xs → k ≤ items.length → I k acc ρ → lcLoop vs dg dt de xs ρ fun ds ρ' => Q (acc ++ ds) ρ' := by
    intro xs
    induction xs with
    | nil =>
      intro k acc ρ e hk h
      have hk2 : k = items.length := by
        have := congrArg List.length e
        simp at this
        omega
      subst hk2
      show Q (acc ++ []) ρ
      rw [List.append_nil]
      exact last acc ρ h
    | cons x xs ih =>
      intro k acc ρ e hk h
      have hx : items[k]? = some x := by
        have := congrArg (fun l => l[0]?) e
        simpa using this
      have hk2 : k < items.length := (List.getElem?_eq_some_iff.mp hx).1
      have e2 : items.drop (k + 1) = xs := by
        have := congrArg (List.drop 1) e
        simpa [Nat.add_comm] using this
      refine step k x acc ρ (fun ρ' o => match o with
        | some d => lcLoop vs dg dt de xs ρ' fun ds ρ4 => Q (acc ++ (d :: ds)) ρ4
        | none => lcLoop vs dg dt de xs ρ' fun ds ρ4 => Q (acc ++ ds) ρ4) hx h (fun ρ' d z => ?_) fun ρ' z => ih (k + 1) acc ρ' e2 hk2 z
      have := ih (k + 1) (acc ++ [d]) ρ' e2 hk2 z
      simpa using this
  have := key items 0 [] ρ rfl (Nat.zero_le _) h0
  simpa using this
/-- a comprehension whose turn depends on its item alone -/
theorem lcLoop_pure {vs : List Nat} {dg : DG} {dt : DT} {de : DE} {ρ : DEnv} (f : PyData → Option PyData) : ∀ {items : List PyData} {Q : List PyData → DEnv → Prop},
    (∀ x, x ∈ items → ∀ W : DEnv → Option PyData → Prop, W ρ (f x) → dg x ρ fun ρ1 => dt ρ1 fun b ρ2 => if b = true then de ρ2 fun r ρ3 => ∃ d, r.sto = some d ∧ W (wipeD ρ3 vs) (some d) else W (wipeD ρ2 vs) none) →
    Q (items.filterMap f) ρ → lcLoop vs dg dt de items ρ Q
  | [], Q, _, q => q
  | x :: xs, Q, h, q => by
    refine h x List.mem_cons_self (fun ρ' o => match o with
      | some d => lcLoop vs dg dt de xs ρ' fun ds ρ4 => Q (d :: ds) ρ4
      | none => lcLoop vs dg dt de xs ρ' Q) ?_
    rw [List.filterMap_cons] at q
    cases hf : f x with
    | some d =>
      rw [hf] at q
      exact lcLoop_pure f (fun y hy => h y (List.mem_cons_of_mem _ hy)) q
    | none =>
      rw [hf] at q
      exact lcLoop_pure f (fun y hy => h y (List.mem_cons_of_mem _ hy)) q
theorem lcLoop_map {vs : List Nat} {dg : DG} {de : DE} {ρ : DEnv} (f : PyData → PyData) {items : List PyData} {Q : List PyData → DEnv → Prop}
    (h : ∀ x, x ∈ items → ∀ W : DEnv → PyData → Prop, W ρ (f x) → dg x ρ fun ρ1 => de ρ1 fun r ρ3 => ∃ d, r.sto = some d ∧ W (wipeD ρ3 vs) d) (q : Q (items.map f) ρ) : lcLoop vs dg dYes de items ρ Q := by
  refine lcLoop_pure (fun x => some (f x)) (fun x hx W w => ?_) (by rw [List.filterMap_eq_map']; exact q)
  exact h x hx (fun ρ' d => W ρ' (some d)) w
end Dl
set_option Elab.async false
set_option linter.all false
set_option maxRecDepth 100000
/-! The data layer: what isinstance says, what == says. -/
namespace Dl
open PySem L2
section
variable {b : Bool} {i : Int} {x : Str} {ds : List PyData} {kvs : List (PyData × PyData)}
theorem tyn (ts : List String) (d : PyData) (n : String) (h : tyName d = n) : isAny ts d = ts.any fun t => (kitB n t).getD false := by
  subst h
  rfl
theorem isi_lt_lst : isAny ["list", "tuple"] (.list ds) = true := (tyn _ _ "list" rfl).trans (by decide +kernel)
theorem isi_lt_tup : isAny ["list", "tuple"] (.tuple ds) = true := (tyn _ _ "tuple" rfl).trans (by decide +kernel)
theorem isi_lt_non : isAny ["list", "tuple"] .none = false := (tyn _ _ "NoneType" rfl).trans (by decide +kernel)
theorem isi_lt_bl : isAny ["list", "tuple"] (.bool b) = false := (tyn _ _ "bool" rfl).trans (by decide +kernel)
theorem isi_lt_int : isAny ["list", "tuple"] (.int i) = false := (tyn _ _ "int" rfl).trans (by decide +kernel)
theorem isi_lt_str : isAny ["list", "tuple"] (.str x) = false := (tyn _ _ "str" rfl).trans (by decide +kernel)
theorem isi_int_non : isAny ["int"] .none = false := (tyn _ _ "NoneType" rfl).trans (by decide +kernel)
theorem isi_int_bl : isAny ["int"] (.bool b) = true := (tyn _ _ "bool" rfl).trans (by decide +kernel)
theorem isi_int_int : isAny ["int"] (.int i) = true := (tyn _ _ "int" rfl).trans (by decide +kernel)
theorem isi_int_str : isAny ["int"] (.str x) = false := (tyn _ _ "str" rfl).trans (by decide +kernel)
theorem isi_int_lst : isAny ["int"] (.list ds) = false := (tyn _ _ "list" rfl).trans (by decide +kernel)
theorem isi_int_tup : isAny ["int"] (.tuple ds) = false := (tyn _ _ "tuple" rfl).trans (by decide +kernel)
theorem isi_bl_non : isAny ["bool"] .none = false := (tyn _ _ "NoneType" rfl).trans (by decide +kernel)
theorem isi_bl_bl : isAny ["bool"] (.bool b) = true := (tyn _ _ "bool" rfl).trans (by decide +kernel)
theorem isi_bl_int : isAny ["bool"] (.int i) = false := (tyn _ _ "int" rfl).trans (by decide +kernel)
theorem isi_bl_str : isAny ["bool"] (.str x) = false := (tyn _ _ "str" rfl).trans (by decide +kernel)
theorem isi_bl_lst : isAny ["bool"] (.list ds) = false := (tyn _ _ "list" rfl).trans (by decide +kernel)
theorem isi_bl_tup : isAny ["bool"] (.tuple ds) = false := (tyn _ _ "tuple" rfl).trans (by decide +kernel)
theorem isi_tup_non : isAny ["tuple"] .none = false := (tyn _ _ "NoneType" rfl).trans (by decide +kernel)
theorem isi_tup_bl : isAny ["tuple"] (.bool b) = false := (tyn _ _ "bool" rfl).trans (by decide +kernel)
theorem isi_tup_int : isAny ["tuple"] (.int i) = false := (tyn _ _ "int" rfl).trans (by decide +kernel)
theorem isi_tup_str : isAny ["tuple"] (.str x) = false := (tyn _ _ "str" rfl).trans (by decide +kernel)
theorem isi_tup_lst : isAny ["tuple"] (.list ds) = false := (tyn _ _ "list" rfl).trans (by decide +kernel)
theorem isi_tup_tup : isAny ["tuple"] (.tuple ds) = true := (tyn _ _ "tuple" rfl).trans (by decide +kernel)
end
/-! ### == -/
theorem shp_int (i : Int) : SeqAt.shaped (.int i) = true := by simp [SeqAt.shaped, PyData.canLay0, PyData.depth]
theorem shp_bl (i : Bool) : SeqAt.shaped (.bool i) = true := by simp [SeqAt.shaped, PyData.canLay0, PyData.depth]
theorem shp_non : SeqAt.shaped .none = true := by simp [SeqAt.shaped, PyData.canLay0, PyData.depth]
/-- data of no more than n levels, without texts -/
def Flat : Nat → PyData → Prop
  | _, .none => True
  | _, .bool _ => True
  | _, .int _ => True
  | n + 1, .list ds => ∀ x ∈ ds, Flat n x
  | n + 1, .tuple ds => ∀ x ∈ ds, Flat n x
  | _, _ => False
mutual
theorem Flat.lay : ∀ (n : Nat) (d : PyData), Flat n d → d.canLay0 = true ∧ d.depth ≤ n
  | _, .none, _ => by simp [PyData.canLay0, PyData.depth]
  | _, .bool _, _ => by simp [PyData.canLay0, PyData.depth]
  | _, .int _, _ => by simp [PyData.canLay0, PyData.depth]
  | 0, .list ds, h => by simp [Flat] at h
  | 0, .tuple ds, h => by simp [Flat] at h
  | n + 1, .list ds, h => by
    have := Flat.layAll n ds (by simpa [Flat] using h)
    simp only [PyData.canLay0, PyData.depth]
    exact ⟨this.1, by omega⟩
  | n + 1, .tuple ds, h => by
    have := Flat.layAll n ds (by simpa [Flat] using h)
    simp only [PyData.canLay0, PyData.depth]
    exact ⟨this.1, by omega⟩
  | 0, .str _, h => by simp [Flat] at h
  | n + 1, .str _, h => by simp [Flat] at h
  | 0, .dict _, h => by simp [Flat] at h
  | n + 1, .dict _, h => by simp [Flat] at h
theorem Flat.layAll : ∀ (n : Nat) (ds : List PyData), (∀ x ∈ ds, Flat n x) → PyData.canLayAll0 ds = true ∧ PyData.depthAll ds ≤ n
  | _, [], _ => by simp [PyData.canLayAll0, PyData.depthAll]
  | n, d :: ds, h => by
    have h1 := Flat.lay n d (h d List.mem_cons_self)
    have h2 := Flat.layAll n ds fun x hx => h x (List.mem_cons_of_mem _ hx)
    simp only [PyData.canLayAll0, PyData.depthAll, h1.1, h2.1, Bool.and_self, true_and]
    omega
end
theorem Flat.shp {n : Nat} {d : PyData} (h : Flat n d) (hn : n ≤ 64) : SeqAt.shaped d = true := by
  obtain ⟨h1, h2⟩ := Flat.lay n d h
  show (d.canLay0 && decide (d.depth ≤ 64)) = true
  rw [h1, decide_eq_true (show d.depth ≤ 64 by omega)]
  rfl
mutual
theorem eqv_same : ∀ (n : Nat) (d : PyData), Flat n d → PyData.eqv d d = true
  | _, .none, _ => by simp [PyData.eqv]
  | _, .bool _, _ => by simp [PyData.eqv]
  | _, .int _, _ => by simp [PyData.eqv]
  | 0, .list ds, h => by simp [Flat] at h
  | 0, .tuple ds, h => by simp [Flat] at h
  | n + 1, .list ds, h => by
    have := eqvAll_same n ds (by simpa [Flat] using h)
    simpa [PyData.eqv] using this
  | n + 1, .tuple ds, h => by
    have := eqvAll_same n ds (by simpa [Flat] using h)
    simpa [PyData.eqv] using this
  | 0, .str _, h => by simp [Flat] at h
  | n + 1, .str _, h => by simp [Flat] at h
  | 0, .dict _, h => by simp [Flat] at h
  | n + 1, .dict _, h => by simp [Flat] at h
theorem eqvAll_same : ∀ (n : Nat) (ds : List PyData), (∀ x ∈ ds, Flat n x) → PyData.eqvAll ds ds = true
  | _, [], _ => by simp [PyData.eqvAll]
  | n, d :: ds, h => by
    have h1 := eqv_same n d (h d List.mem_cons_self)
    have h2 := eqvAll_same n ds fun x hx => h x (List.mem_cons_of_mem _ hx)
    simp only [PyData.eqvAll, h1, h2, Bool.and_self]
end
/-- a kind of data whose == is equality -/
structure EqK (P : PyData → Prop) : Prop where
  eq : ∀ d e, P d → P e → PyData.eqv d e = true → d = e
theorem eqvAll_eq {P : PyData → Prop} (k : ∀ d e, P d → P e → PyData.eqv d e = true → d = e) : ∀ (ds es : List PyData), (∀ x ∈ ds, P x) → (∀ x ∈ es, P x) → PyData.eqvAll ds es = true → ds = es
  | [], [], _, _, _ => rfl
  | [], _ :: _, _, _, h => by simp [PyData.eqvAll] at h
  | _ :: _, [], _, _, h => by simp [PyData.eqvAll] at h
  | d :: ds, e :: es, h1, h2, h => by
    simp only [PyData.eqvAll, Bool.and_eq_true] at h
    rw [k d e (h1 d List.mem_cons_self) (h2 e List.mem_cons_self) h.1, eqvAll_eq k ds es (fun x hx => h1 x (List.mem_cons_of_mem _ hx)) (fun x hx => h2 x (List.mem_cons_of_mem _ hx)) h.2]
/-- no truth values: == is equality -/
def Nob : Nat → PyData → Prop
  | _, .none => True
  | _, .int _ => True
  | n + 1, .list ds => ∀ x ∈ ds, Nob n x
  | n + 1, .tuple ds => ∀ x ∈ ds, Nob n x
  | _, _ => False
theorem Nob.flat : ∀ (n : Nat) (d : PyData), Nob n d → Flat n d
  | _, .none, _ => by simp [Flat]
  | _, .int _, _ => by simp [Flat]
  | 0, .list ds, h => by simp [Nob] at h
  | 0, .tuple ds, h => by simp [Nob] at h
  | n + 1, .list ds, h => by
    simp only [Flat]
    exact fun x hx => Nob.flat n x ((by simpa [Nob] using h : ∀ x ∈ ds, Nob n x) x hx)
  | n + 1, .tuple ds, h => by
    simp only [Flat]
    exact fun x hx => Nob.flat n x ((by simpa [Nob] using h : ∀ x ∈ ds, Nob n x) x hx)
  | 0, .str _, h => by simp [Nob] at h
  | n + 1, .str _, h => by simp [Nob] at h
  | 0, .dict _, h => by simp [Nob] at h
  | n + 1, .dict _, h => by simp [Nob] at h
  | 0, .bool _, h => by simp [Nob] at h
  | n + 1, .bool _, h => by simp [Nob] at h
theorem Nob.eq : ∀ (n : Nat) (d e : PyData), Nob n d → Nob n e → PyData.eqv d e = true → d = e
  | n, .none, e, _, _, h => by cases e <;> first | rfl | simp [PyData.eqv] at h
  | n, .int i, e, _, h2, h => by
    cases e with
    | int j => simp [PyData.eqv] at h; rw [h]
    | bool b => cases n <;> simp [Nob] at h2
    | _ => simp [PyData.eqv] at h
  | 0, .list ds, _, h, _, _ => by simp [Nob] at h
  | 0, .tuple ds, _, h, _, _ => by simp [Nob] at h
  | n + 1, .list ds, e, h1, h2, h => by
    cases e with
    | list es =>
      have := eqvAll_eq (P := Nob n) (Nob.eq n) ds es (by simpa [Nob] using h1) (by simpa [Nob] using h2) (by simpa [PyData.eqv] using h)
      rw [this]
    | _ => simp [PyData.eqv] at h
  | n + 1, .tuple ds, e, h1, h2, h => by
    cases e with
    | tuple es =>
      have := eqvAll_eq (P := Nob n) (Nob.eq n) ds es (by simpa [Nob] using h1) (by simpa [Nob] using h2) (by simpa [PyData.eqv] using h)
      rw [this]
    | _ => simp [PyData.eqv] at h
  | 0, .str _, _, h, _, _ => by simp [Nob] at h
  | n + 1, .str _, _, h, _, _ => by simp [Nob] at h
  | 0, .dict _, _, h, _, _ => by simp [Nob] at h
  | n + 1, .dict _, _, h, _, _ => by simp [Nob] at h
  | 0, .bool _, _, h, _, _ => by simp [Nob] at h
  | n + 1, .bool _, _, h, _, _ => by simp [Nob] at h
/-- == of such data, as a decision -/
theorem Nob.eqv {n : Nat} {d e : PyData} (h1 : Nob n d) (h2 : Nob n e) {p : Prop} [Decidable p] (hp : d = e ↔ p) : PyData.eqv d e = decide p := by
  by_cases h : p
  · rw [decide_eq_true h, hp.mpr h]
    exact eqv_same n e (h2.flat)
  · rw [decide_eq_false h]
    cases q : PyData.eqv d e with
    | false => rfl
    | true => exact (h (hp.mp (Nob.eq n d e h1 h2 q))).elim
section
variable {Z : Rs → Prop} {i j : Int} {a b : Bool} {d e : PyData}
theorem oEq_int : oEq (.int i) (.int j) Z = Z (.fz (.bool (decide (i = j)))) := by
  unfold oEq
  rw [shp_int, shp_int]
  simp [PyData.eqv, Bool.beq_eq_decide_eq]
theorem oNe_int : oNe (.int i) (.int j) Z = Z (.fz (.bool (!decide (i = j)))) := by
  unfold oNe
  rw [shp_int, shp_int]
  simp [PyData.eqv, Bool.beq_eq_decide_eq]
theorem oEq_bl : oEq (.bool a) (.bool b) Z = Z (.fz (.bool (decide (a = b)))) := by
  unfold oEq
  rw [shp_bl, shp_bl]
  simp [PyData.eqv, Bool.beq_eq_decide_eq]
theorem oNe_bl : oNe (.bool a) (.bool b) Z = Z (.fz (.bool (!decide (a = b)))) := by
  unfold oNe
  rw [shp_bl, shp_bl]
  simp [PyData.eqv, Bool.beq_eq_decide_eq]
theorem oEq_nob {n : Nat} (hn : n ≤ 64) (h1 : Nob n d) (h2 : Nob n e) {p : Prop} [Decidable p] (hp : d = e ↔ p) (q : Z (.fz (.bool (decide p)))) : oEq d e Z := by
  refine ⟨h1.flat.shp hn, h2.flat.shp hn, ?_⟩
  rw [Nob.eqv h1 h2 hp]
  exact q
theorem oNe_nob {n : Nat} (hn : n ≤ 64) (h1 : Nob n d) (h2 : Nob n e) {p : Prop} [Decidable p] (hp : d = e ↔ p) (q : Z (.fz (.bool (!decide p)))) : oNe d e Z := by
  refine ⟨h1.flat.shp hn, h2.flat.shp hn, ?_⟩
  rw [Nob.eqv h1 h2 hp]
  exact q
theorem oEq_same {n : Nat} (hn : n ≤ 64) (h1 : Flat n d) (q : Z (.fz (.bool true))) : oEq d d Z := by
  refine ⟨h1.shp hn, h1.shp hn, ?_⟩
  rw [eqv_same n d h1]
  exact q
theorem oNe_same {n : Nat} (hn : n ≤ 64) (h1 : Flat n d) (q : Z (.fz (.bool false))) : oNe d d Z := by
  refine ⟨h1.shp hn, h1.shp hn, ?_⟩
  rw [eqv_same n d h1]
  exact q
end
theorem mem_rngD {lo : Int} {n : Nat} {x : PyData} (h : x ∈ rngD lo n) : ∃ i : Nat, i < n ∧ x = .int (lo + i) := by
  unfold rngD at h
  obtain ⟨i, h1, h2⟩ := List.mem_map.mp h
  exact ⟨i, List.mem_range.mp h1, h2.symm⟩
theorem rngD_at {lo : Int} {n k : Nat} {x : PyData} (h : (rngD lo n)[k]? = some x) : k < n ∧ x = .int (lo + k) := by
  have hk : k < n := by
    have := (List.getElem?_eq_some_iff.mp h).1
    rw [rngD_len] at this
    exact this
  rw [rngD_get hk] at h
  exact ⟨hk, (Option.some.inj h).symm⟩
theorem fm_none {α β : Type} (l : List α) : l.filterMap (fun _ => (none : Option β)) = [] := by
  induction l with
  | nil => rfl
  | cons x l ih => rw [List.filterMap_cons]; exact ih
theorem oSorted_ints {Z : Rs → Prop} {ns : List Int} (h : ∀ ns' : List Int, ns'.Perm ns → ns'.Pairwise (· ≤ ·) → Z (.nw (.list (ns'.map PyData.int)))) : oSorted [.list (ns.map PyData.int)] Z := ⟨ns, intsOf_map ns, h⟩
theorem oSorted_nats {Z : Rs → Prop} {ps : List Nat} (h : ∀ qs : List Nat, qs.Perm ps → qs.Pairwise (· ≤ ·) → Z (.nw (.list (qs.map fun (p : Nat) => PyData.int (p : Int))))) : oSorted [.list (ps.map fun (p : Nat) => PyData.int (p : Int))] Z := by
  have e : (ps.map fun (p : Nat) => PyData.int (p : Int)) = (ps.map fun (p : Nat) => (p : Int)).map PyData.int := by rw [List.map_map]; rfl
  rw [e]
  refine oSorted_ints fun ns' hp hw => ?_
  have hnn : ∀ x ∈ ns', 0 ≤ x := fun x hx => by
    have := hp.mem_iff.mp hx
    obtain ⟨p, _, rfl⟩ := List.mem_map.mp this
    omega
  have e2 : ns' = (ns'.map Int.toNat).map fun (p : Nat) => (p : Int) := by
    rw [List.map_map]
    conv => lhs; rw [← List.map_id ns']
    apply List.map_congr_left
    intro x hx
    have := hnn x hx
    show x = ((x.toNat : Nat) : Int)
    omega
  have hp2 : (ns'.map Int.toNat).Perm ps := by
    have h1 := hp.map Int.toNat
    rw [List.map_map] at h1
    have h2 : (ps.map (Int.toNat ∘ fun (p : Nat) => (p : Int))) = ps := by
      conv => rhs; rw [← List.map_id ps]
      apply List.map_congr_left
      intro x _
      show Int.toNat (x : Int) = x
      omega
    rw [h2] at h1
    exact h1
  have hw2 : (ns'.map Int.toNat).Pairwise (· ≤ ·) := by
    rw [List.pairwise_map]
    exact hw.imp_of_mem fun {a b} ha hb hab => by
      have h1 := hnn a ha
      have h2 := hnn b hb
      show a.toNat ≤ b.toNat
      omega
  have q := h _ hp2 hw2
  have e3 : (ns'.map PyData.int) = (ns'.map Int.toNat).map fun (p : Nat) => PyData.int (p : Int) := by
    conv => lhs; rw [e2]
    rw [List.map_map]
    rfl
  rw [e3]
  exact q
end Dl
namespace Dl
open PySem L2
theorem fnOk_no {P : Program} {w : World} {K : PySem.W.Frag} {mg : Str → Option Value} {base : Heap} {CX : CXT} {k : Nat} {f : Addr} {fd : FuncData} {ps : List Str} {ct : CT} (h : ∀ ds Z, ct.pre ds Z → False) : FnOk P w K mg base CX k f fd ps (spD ct) :=
  ⟨fun vs H Q E h1 => by
    obtain ⟨B, ds, p, Z, _, _, _, pre, _⟩ := h1
    exact (h ds Z pre).elim, fun A outer s H args us vs Q E _ _ _ _ h1 => by
    obtain ⟨B, ds, p, Z, _, _, _, pre, _⟩ := h1
    exact (h ds Z pre).elim⟩
end Dl
set_option Elab.async false
set_option linter.all false
set_option maxRecDepth 100000
set_option maxHeartbeats 4000000
/-! The data layer, part 11: membership by equality. -/
namespace Dl
open PySem L2
def oInD (neg : Bool) : Op2 := fun d e Z => match e with
  | .list ds => SeqAt.shaped d = true ∧ SeqAt.shaped (.list ds) = true ∧ Z (.fz (.bool (neg ^^ ds.any fun z => PyData.eqv z d)))
  | _ => False
theorem un65 {k : Nat} {A : Around} (r : Room k A) : A.units + 65 < cLine := by
  have := r.un
  omega
theorem simR2_inD {K : PySem.W.Frag} : SimR2 (rInD K) (oInD false) := fun A H x y d e Q Z ad vx vy q k => by
  unfold oInD at q
  split at q
  · exact ⟨d, _, vx.dp (nodict_of_shaped q.1), vy.dp (nodict_of_shaped q.2.1), q.1, q.2.1, k (.fz _) _ H .refl (.bl _) (by simpa using q.2.2)⟩
  · exact q.elim
theorem simR2_notInD {K : PySem.W.Frag} : SimR2 (rNotInD K) (oInD true) := fun A H x y d e Q Z ad vx vy q k => by
  unfold oInD at q
  split at q
  · exact ⟨d, _, vx.dp (nodict_of_shaped q.1), vy.dp (nodict_of_shaped q.2.1), q.1, q.2.1, k (.fz _) _ H .refl (.bl _) (by simpa using q.2.2)⟩
  · exact q.elim
theorem oInD_nob {α : Type} {neg : Bool} {n : Nat} {f : α → PyData} {x : α} {xs : List α} {Z : Rs → Prop} [DecidableEq α] {p : Prop} [Decidable p] (hn : n + 1 ≤ 64) (hf : ∀ y, Nob n (f y)) (inj : ∀ y z, f y = f z ↔ y = z)
    (hp : x ∈ xs ↔ p) (q : Z (.fz (.bool (neg ^^ decide p)))) : oInD neg (f x) (.list (xs.map f)) Z := by
  refine ⟨(hf x).flat.shp (by omega), ?_, ?_⟩
  · have : Flat (n + 1) (.list (xs.map f)) := by
      simp only [Flat]
      intro y hy
      obtain ⟨z, _, rfl⟩ := List.mem_map.mp hy
      exact (hf z).flat
    exact this.shp hn
  · have e : ((xs.map f).any fun z => PyData.eqv z (f x)) = decide p := by
      rw [List.any_map]
      have h : ((fun z => PyData.eqv z (f x)) ∘ f) = fun y => decide (y = x) := by
        funext y
        exact (hf y).eqv (hf x) (inj y x)
      rw [h]
      by_cases m : x ∈ xs
      · rw [decide_eq_true (hp.mp m), List.any_eq_true]
        exact ⟨x, m, by simp⟩
      · rw [decide_eq_false (fun z => m (hp.mpr z)), List.any_eq_false]
        intro y hy
        have : y ≠ x := fun z => m (z ▸ hy)
        simpa using this
    show Z (.fz (.bool (neg ^^ (xs.map f).any fun z => PyData.eqv z (f x))))
    rw [e]
    exact q
end Dl
set_option Elab.async false
set_option linter.all false
set_option maxRecDepth 100000
set_option maxHeartbeats 4000000
/-! The data layer, part 12: enumerate and zip over lists and tuples alike; range with a step. -/
namespace Dl
open PySem L2 RZ PyProof.Rows
/-- b: a list; else a tuple -/
def Qi (b : Bool) (h : Heap) (it a : Addr) (i : Nat) : Prop := cond b (h.IsListIter it a i) (h.IsTupleIter it a i)
def Qh (b : Bool) (h : Heap) (a : Addr) (its : Array Value) : Prop := cond b (h.IsList a its) (h.IsTuple a its)
def Qs (b : Bool) (K : PySem.W.Frag) (H : Hp) (a : Addr) (xs : List V) : Prop := cond b (SqL K H a xs) (SqT K H a xs)
theorem Qi.at' {b : Bool} {h h' : Heap} {it a : Addr} {i : Nat} (q : Qi b h it a i) (k : ∀ o, h.get? it = some o → h'.get? it = some o) : Qi b h' it a i := by
  cases b
  · exact Heap.IsTupleIter.at q k
  · exact Heap.IsListIter.at q k
theorem Qh.at' {b : Bool} {h h' : Heap} {a : Addr} {its : Array Value} (q : Qh b h a its) (k : ∀ o, h.get? a = some o → h'.get? a = some o) : Qh b h' a its := by
  cases b
  · obtain ⟨o, e, r⟩ := q
    exact ⟨o, k o e, r⟩
  · exact Heap.IsList.at q k
theorem Qi.obj {b : Bool} {h : Heap} {it a : Addr} {i : Nat} (q : Qi b h it a i) : ∃ o, h.get? it = some o ∧ ∀ v, o.data ≠ .cell v := by
  cases b <;> (obtain ⟨o, e, _, d⟩ := q; exact ⟨o, e, fun v z => by rw [d] at z; cases z⟩)
theorem Qh.lt {b : Bool} {h : Heap} {a : Addr} {its : Array Value} (q : Qh b h a its) : a < h.objs.size := by
  cases b <;> (obtain ⟨o, e, _⟩ := q; exact Heap.lt_size e)
theorem draws_tup {prog : Program} {w : World} {A : Around} (hh : A.handled = none) (it l : Addr) (hne : l ≠ it) (items : Array Value) :
    Draws prog w A it [it, l] items.size (fun i v => items[i]? = some v) (fun i h => h.IsTupleIter it l i ∧ h.IsTuple l items) where
  live := fun _ _ st => let ⟨o, ho, _⟩ := st.1; ⟨o, ho⟩
  frame := fun _ _ _ st hk => ⟨st.1.at fun o e => hk it (by simp) o e, let ⟨o, e, r⟩ := st.2; ⟨o, hk l (by simp) o e, r⟩⟩
  item := fun i s Q E hi st hQ => by
    refine nextOf_tuple_item st.1 st.2 (x := items[i]) (by simp [hi]) fun h' hit' hs' => ?_
    exact hQ _ h' s.toks (by simp [hi]) ⟨hit', st.2.extBut hs'.extBut hne⟩ hs'
  done := fun s Q E st hE => nextOf_tuple_end hh st.1 st.2 (by simp) hE
theorem draws_of {prog : Program} {w : World} {A : Around} (b : Bool) (hh : A.handled = none) (it l : Addr) (hne : l ≠ it) (items : Array Value) :
    Draws prog w A it [it, l] items.size (fun i v => items[i]? = some v) (fun i h => Qi b h it l i ∧ Qh b h l items) := by
  cases b
  · exact draws_tup hh it l hne items
  · exact Draws.list hh it l hne items
theorem Qs.get {b : Bool} {X : Cx} {pins : List (Addr × Obj)} {σ : L2.St} {H : Hp} {s : Shared} {a : Addr} {xs : List V} (I : Inv X pins σ H s) (q : Qs b X.K H a xs) : ∃ its : List Value, List.length its = xs.length ∧ (∀ (i : Nat) (x : V), xs[i]? = some x → ∃ u, its[i]? = some u ∧ RelV x u) ∧ Qh b s.heap a its.toArray := by
  cases b
  · obtain ⟨its, rv, p, _⟩ := I.tuple q
    exact ⟨its, rv.length.symm, fun i x e => rv.get e, p⟩
  · obtain ⟨its, rv, p, _⟩ := I.list q
    exact ⟨its, rv.length.symm, fun i x e => rv.get e, p.isList⟩
theorem Qs.inj {b : Bool} {X : Cx} {pins : List (Addr × Obj)} {σ : L2.St} {H : Hp} {s : Shared} {a : Addr} {xs ys : List V} (I : Inv X pins σ H s) (q : Qs b X.K H a xs) (q2 : Qs b X.K H a ys) : xs = ys := by
  cases b
  · exact I.tuple_inj q q2
  · exact I.list_inj q q2

/-! ### zip -/
abbrev itObj (b : Bool) (l : Addr) : Obj := cond b { cls := .type "list_iterator", data := .fields #[.ref l, .int 0 0] } { cls := .type "tuple_iterator", data := .fields #[.ref l, .int 0 0] }
abbrev zM1 (b1 : Bool) (h : Heap) (l1 : Addr) : Heap := h.push (itObj b1 l1)
abbrev zM2 (b1 b2 : Bool) (h : Heap) (l1 l2 : Addr) : Heap := (zM1 b1 h l1).push (itObj b2 l2)
abbrev zM3 (b1 b2 : Bool) (h : Heap) (l1 l2 : Addr) : Heap := (zM2 b1 b2 h l1 l2).push { cls := .type "tuple", data := .seq #[.ref h.objs.size, .ref (zM1 b1 h l1).objs.size] }
abbrev zM4 (b1 b2 : Bool) (h : Heap) (l1 l2 : Addr) : Heap := (zM3 b1 b2 h l1 l2).push { cls := .type "tuple", data := .seq #[.none, .none] }
abbrev zM5 (b1 b2 : Bool) (h : Heap) (l1 l2 : Addr) : Heap := (zM4 b1 b2 h l1 l2).push { cls := .type "zip", data := .fields #[.none, .bool false, .bool false, .ref (zM2 b1 b2 h l1 l2).objs.size, .ref (zM3 b1 b2 h l1 l2).objs.size] }
theorem meets_zipM (b1 b2 : Bool) (l1 l2 : Addr) (xs ys : Array Value) :
    Meets (Builtin.«zip.__new__» ⟨[.type "zip", .ref l1, .ref l2], []⟩) (fun _ R s => Qh b1 s.heap l1 xs ∧ Qh b2 s.heap l2 ys ∧
      R (.ok (.ret (.ref (zM4 b1 b2 s.heap l1 l2).objs.size))) { s with heap := zM5 b1 b2 s.heap l1 l2 }) :=
  .of_wp fun prog w A R s h => by
    obtain ⟨hp, g, d, tk, os⟩ := s; obtain ⟨hl1, hl2, h⟩ := h
    have hsub := sub_zip
    cases b1 <;> cases b2
    · have hL1 : Heap.IsTuple (Shared.heap ⟨hp, g, d, tk, os⟩) l1 xs := hl1
      have hL2 : Heap.IsTuple (Shared.heap ⟨hp.push { cls := .type "tuple_iterator", data := .fields #[.ref l1, .int 0 0] }, g, d, tk, os⟩) l2 ys := Heap.IsTuple.push hl2 _
      wp_walk using wpAny_pyIter_tuple hL1, wpAny_pyIter_tuple hL2
      exact ⟨_, rfl, h⟩
    · have hL1 : Heap.IsTuple (Shared.heap ⟨hp, g, d, tk, os⟩) l1 xs := hl1
      have hL2 : Heap.IsList (Shared.heap ⟨hp.push { cls := .type "tuple_iterator", data := .fields #[.ref l1, .int 0 0] }, g, d, tk, os⟩) l2 ys := Heap.IsList.push hl2 _
      wp_walk using wpAny_pyIter_tuple hL1, wpAny_pyIter_list hL2
      exact ⟨_, rfl, h⟩
    · have hL1 : Heap.IsList (Shared.heap ⟨hp, g, d, tk, os⟩) l1 xs := hl1
      have hL2 : Heap.IsTuple (Shared.heap ⟨hp.push { cls := .type "list_iterator", data := .fields #[.ref l1, .int 0 0] }, g, d, tk, os⟩) l2 ys := Heap.IsTuple.push hl2 _
      wp_walk using wpAny_pyIter_list hL1, wpAny_pyIter_tuple hL2
      exact ⟨_, rfl, h⟩
    · have hL1 : Heap.IsList (Shared.heap ⟨hp, g, d, tk, os⟩) l1 xs := hl1
      have hL2 : Heap.IsList (Shared.heap ⟨hp.push { cls := .type "list_iterator", data := .fields #[.ref l1, .int 0 0] }, g, d, tk, os⟩) l2 ys := Heap.IsList.push hl2 _
      wp_walk using wpAny_pyIter_list hL1, wpAny_pyIter_list hL2
      exact ⟨_, rfl, h⟩
theorem Qi.new {b : Bool} {h : Heap} {it l : Addr} (e : h.get? it = some (itObj b l)) : Qi b h it l 0 := by
  cases b <;> exact ⟨_, e, rfl, rfl⟩
theorem call_zipM {prog : Program} {w : World} {A : Around} {E : Value → Shared → Prop} {s : Shared} (b1 b2 : Bool) {l1 l2 : Addr} {xs ys : Array Value} {Q : Value → Shared → Prop} (hl1 : Qh b1 s.heap l1 xs) (hl2 : Qh b2 s.heap l2 ys)
    (h : ∀ h', IsZip h' (s.heap.objs.size + 4) (s.heap.objs.size + 2) (s.heap.objs.size + 3) .none → IsPair h' (s.heap.objs.size + 2) (.ref s.heap.objs.size) (.ref (s.heap.objs.size + 1)) →
      IsPair h' (s.heap.objs.size + 3) .none .none → Qi b1 h' s.heap.objs.size l1 0 → Qi b2 h' (s.heap.objs.size + 1) l2 0 →
      (∀ c o, s.heap.get? c = some o → h'.get? c = some o) → Q (.ref (s.heap.objs.size + 4)) { s with heap := h' }) :
    wpAny (model prog w) A (call (.type "zip") [.ref l1, .ref l2]) Q E s := by
  refine callType_new F.called_zip (by decide) (F.typeCall_zip_2 _ _) (F.newCall_zip_2 _ _) (fun obj => F.args_object_init_3 obj _ _) F.entry_zip_new
    (meets_zipM b1 b2 l1 l2 xs ys) ⟨hl1, hl2, ?_⟩
  have z1 : (zM1 b1 s.heap l1).objs.size = s.heap.objs.size + 1 := Heap.size_push ..
  have z2 : (zM2 b1 b2 s.heap l1 l2).objs.size = s.heap.objs.size + 2 := by rw [Heap.size_push, z1]
  have z3 : (zM3 b1 b2 s.heap l1 l2).objs.size = s.heap.objs.size + 3 := by rw [Heap.size_push, z2]
  have z4 : (zM4 b1 b2 s.heap l1 l2).objs.size = s.heap.objs.size + 4 := by rw [Heap.size_push, z3]
  have g5 : (zM5 b1 b2 s.heap l1 l2).get? (zM4 b1 b2 s.heap l1 l2).objs.size = some _ := Heap.get?_push_size _ rfl
  have g4 : (zM5 b1 b2 s.heap l1 l2).get? (zM3 b1 b2 s.heap l1 l2).objs.size = some _ := Heap.get?_push_of_some _ (Heap.get?_push_size _ rfl)
  have g3 : (zM5 b1 b2 s.heap l1 l2).get? (zM2 b1 b2 s.heap l1 l2).objs.size = some _ := Heap.get?_push_of_some _ (Heap.get?_push_of_some _ (Heap.get?_push_size _ rfl))
  have g2 : (zM5 b1 b2 s.heap l1 l2).get? (zM1 b1 s.heap l1).objs.size = some (itObj b2 l2) := Heap.get?_push_of_some _ (Heap.get?_push_of_some _ (Heap.get?_push_of_some _ (Heap.get?_push_size _ (by cases b2 <;> rfl))))
  have g1 : (zM5 b1 b2 s.heap l1 l2).get? s.heap.objs.size = some (itObj b1 l1) := Heap.get?_push_of_some _ (Heap.get?_push_of_some _ (Heap.get?_push_of_some _ (Heap.get?_push_of_some _ (Heap.get?_push_size _ (by cases b1 <;> rfl)))))
  show _ ∧ _
  rw [z2, z3, z4] at g5
  rw [z1, z2] at g3
  rw [z3] at g4
  rw [z1] at g2
  rw [z4]
  exact ⟨⟨_, g5, rfl⟩, h _ g5 g3 g4 (Qi.new g1) (Qi.new g2) fun c o x =>
    Heap.get?_push_of_some _ (Heap.get?_push_of_some _ (Heap.get?_push_of_some _ (Heap.get?_push_of_some _ (Heap.get?_push_of_some _ x))))⟩
/-- the lists or tuples at a and b, the items in new pairs -/
def ItzM (b1 b2 : Bool) (K : PySem.W.Frag) (a b : Addr) : It :=
  ⟨fun i H => ∃ (xs ys : List V) (x y : V), Qs b1 K H a xs ∧ Qs b2 K H b ys ∧ xs[i]? = some x ∧ ys[i]? = some y,
    fun i H v H' => ∃ T x y, v = .ref T ∧ H T = none ∧ H' = upd H T (.tup [x, y]) ∧ (∀ xs, Qs b1 K H a xs → xs[i]? = some x) ∧ ∀ ys, Qs b2 K H b ys → ys[i]? = some y,
    fun i H => ∃ xs ys : List V, Qs b1 K H a xs ∧ Qs b2 K H b ys ∧ i ≤ xs.length ∧ i ≤ ys.length ∧ (xs.length ≤ i ∨ ys.length ≤ i)⟩
theorem sep_of {z TI TO i1 i2 a b : Addr} (D : ZipApart z TI TO i1 i2 a b) : ZipSep2 z TI TO i1 i2 [i1, a] [i2, b] where
  TIz := D.TIz
  TOz := D.TOz
  TITO := D.TITO
  TIi1 := D.TIi1
  mem1 := by simp
  zf1 := by simp [D.i1z.symm, D.l1z.symm]
  Tf1 := by simp [D.TOi1, D.l1TO.symm]
  TIi2 := D.TIi2
  mem2 := by simp
  zf2 := by simp [D.i2z.symm, D.l2z.symm]
  Tf2 := by simp [D.TOi2, D.l2TO.symm]
  sep1_2 := by simp [D.i12, D.l2i1.symm]
  sep2_1 := by simp [D.i12.symm, D.l1i2.symm]
theorem turn_zipM (b1 b2 : Bool) {P : Program} {w : World} {K : PySem.W.Frag} {elts : List Expr} {kk : Nat} {tpos : Pos} {a b z TI TO i1 i2 : Addr} (D : ZipApart z TI TO i1 i2 a b) :
    Turn P w K (.Tuple elts kk tpos) (ItzM b1 b2 K a b) [z, TI, TO, i1, i2] z (fun i h => IsZip h z TI TO .none ∧ IsPair h TI (.ref i1) (.ref i2) ∧ (∃ x y, IsPair h TO x y) ∧ Qi b1 h i1 a i ∧ Qi b2 h i2 b i) where
  mem := by simp
  obj := fun i h st c hc => by
    obtain ⟨hz, hTI, ⟨x, y, hTO⟩, q1, q2⟩ := st
    have e' : c = z ∨ c = TI ∨ c = TO ∨ c = i1 ∨ c = i2 := by simpa using hc
    rcases e' with q | q | q | q | q
    · rw [q]; exact ⟨_, hz, fun v q => nomatch q⟩
    · rw [q]; exact ⟨_, hTI, fun v q => nomatch q⟩
    · rw [q]; exact ⟨_, hTO, fun v q => nomatch q⟩
    · rw [q]; exact q1.obj
    · rw [q]; exact q2.obj
  keep := fun i h h' st k => by
    obtain ⟨hz, hTI, ⟨x, y, hTO⟩, h1, h2⟩ := st
    exact ⟨k z (by simp) _ hz, k TI (by simp) _ hTI, ⟨x, y, k TO (by simp) _ hTO⟩, h1.at' fun o q => k i1 (by simp) o q, h2.at' fun o q => k i2 (by simp) o q⟩
  item := by
    intro X hP hw hK hc i pins s σ H E I hf st hg
    subst hP hw hK
    obtain ⟨hz, hTI, ⟨x0, y0, hTO⟩, h1, h2⟩ := st
    obtain ⟨xs, ys, x, y, hqx, hqy, hx, hy⟩ := hg
    obtain ⟨its, n1, g1, p⟩ := hqx.get I
    obtain ⟨its2, n2, g2, p2⟩ := hqy.get I
    obtain ⟨u, hu, ru⟩ := g1 i x hx
    obtain ⟨u2, hu2, ru2⟩ := g2 i y hy
    have l1 : i < its.toArray.size := by have := (List.getElem?_eq_some_iff.mp hu).1; simpa using this
    have l2 : i < its2.toArray.size := by have := (List.getElem?_eq_some_iff.mp hu2).1; simpa using this
    have hzl : z < s.heap.objs.size := Heap.lt_size hz
    refine wpAny_pyNext_zipD2_item (sep_of D) (draws_of b1 (A := X.A.in1) (show X.A.in1.handled = none from I.ok.hd hc) i1 a D.l1i1 its.toArray) (draws_of b2 (A := X.A.in1) (show X.A.in1.handled = none from I.ok.hd hc) i2 b D.l2i2 its2.toArray) hz hTI hTO ⟨h1, p⟩ ⟨h2, p2⟩ l1 l2 fun v1 v2 h' tk e1 e2 z' TO' st1' st2' hT hsz hk => ?_
    have e1 : v1 = u := by
      have : its[i]? = some v1 := by simpa using e1
      rw [hu] at this
      exact (Option.some.inj this).symm
    have e2 : v2 = u2 := by
      have : its2[i]? = some v2 := by simpa using e2
      rw [hu2] at this
      exact (Option.some.inj this).symm
    subst e1 e2
    refine ⟨_, rfl, wpAny_letOwnedTupleGo_zip (s := { s with heap := h', toks := tk }) z' fun h'' z'' sb => ?_⟩
    have hT2 : h''.get? s.heap.objs.size = some { cls := .type "tuple", data := .seq #[v1, v2] } := (sb.2 _ (Nat.ne_of_gt hzl)).trans hT
    have new : ObjOk X.prog X.w (upd H s.heap.objs.size (.tup [x, y])) h'' s.heap.objs.size (.tup [x, y]) :=
      ⟨by show 2 ≤ sizeLine; decide, [v1, v2], .cons ru (.cons ru2 .nil), ⟨_, hT2, rfl, _, rfl⟩⟩
    have I1 : Inv X pins σ (upd H s.heap.objs.size (.tup [x, y])) { s with heap := h'', toks := tk } :=
      I.turnedNew (t' := tk) (ch := [z, TI, TO, i1, i2]) (fun c o hb q => (sb.2 c (fun q' => hb (by simp [q']))).trans (hk c o (fun q' => hb (by simp [q'])) (fun q' => hb (by simp [q'])) (fun q' => hb (by simp [q'])) (fun q' => hb (by simp [q'])) q)) hf (Nat.le_refl _) new
    refine ⟨.ref s.heap.objs.size, _, I1, rfl, ⟨_, x, y, rfl, I.hok.fresh (Nat.le_refl _), rfl, fun l hl => by rw [hl.inj I hqx]; exact hx, fun l hl => by rw [hl.inj I hqy]; exact hy⟩, ⟨z'', ?_, ⟨v1, v2, ?_⟩, ?_, ?_⟩, fun c hcm => ?_⟩
    · exact (sb.2 _ D.TIz).trans (hk _ _ D.TIz D.TITO D.TIi1 D.TIi2 hTI)
    · exact (sb.2 _ D.TOz).trans TO'
    · exact st1'.1.at' fun o q => (sb.2 _ D.i1z).trans q
    · exact st2'.1.at' fun o q => (sb.2 _ D.i2z).trans q
    · have hlt : c < s.heap.objs.size := by
        have e' : c = z ∨ c = TI ∨ c = TO ∨ c = i1 ∨ c = i2 := by simpa using hcm
        rcases e' with q | q | q | q | q
        · rw [q]; exact hzl
        · rw [q]; exact Heap.lt_size hTI
        · rw [q]; exact Heap.lt_size hTO
        · rw [q]; obtain ⟨_, e1, _⟩ := h1.obj; exact Heap.lt_size e1
        · rw [q]; obtain ⟨_, e2, _⟩ := h2.obj; exact Heap.lt_size e2
      rw [upd_ne (Nat.ne_of_lt hlt)]
      exact (hf c hcm).1
  done := by
    intro X hP hw hK hc i pins s σ H E I hf st hg
    subst hP hw hK
    obtain ⟨hz, hTI, ⟨x0, y0, hTO⟩, h1, h2⟩ := st
    obtain ⟨xs, ys, hqx, hqy, m1, m2, hend⟩ := hg
    obtain ⟨its, n1, g1, p⟩ := hqx.get I
    obtain ⟨its2, n2, g2, p2⟩ := hqy.get I
    refine wpAny_pyNext_zipD2_end (sep_of D) (draws_of b1 (A := X.A.in1) (show X.A.in1.handled = none from I.ok.hd hc) i1 a D.l1i1 its.toArray) (draws_of b2 (A := X.A.in1) (show X.A.in1.handled = none from I.ok.hd hc) i2 b D.l2i2 its2.toArray) hz hTI hTO ⟨h1, p⟩ ⟨h2, p2⟩ (by simp; omega) (by simp; omega) (by simp; omega) fun h' tk hk => ⟨rfl, I.turnedL (t' := tk) (ch := [z, TI, TO, i1, i2]) (fun c o hb q =>
      hk c o (fun q' => hb (by simp [q'])) (fun q' => hb (by simp [q'])) (fun q' => hb (by simp [q'])) (fun q' => hb (by simp [q'])) q) hf⟩
  self := fun A i s Q E st h => wpAny_pyIter_zip st.1 h
def iZipU (K : PySem.W.Frag) (ta : TA) : TI := fun σ H R => ta σ H fun vs H1 => ∃ a b xs ys b1 b2, vs = [.ref a, .ref b] ∧ Qs b1 K H1 a xs ∧ Qs b2 K H1 b ys ∧ R (ItzM b1 b2 K a b) H1
theorem pi_zipU {X : Cx} {e e2 : Expr} {ta : TA} {p pos tpos : Pos} {elts : List Expr} {kk : Nat} (hg : Gl X "zip") (hm : X.mg "zip" = none) (ha : PA X [e, e2] ta)
    (hs : starEach [e, e2] X.env = (false, eval e X.env) :: starEach [e2] X.env := by rfl) (hpl : (backTo pos (starEach [e2] X.env)).any (·.1) = false := by rfl) :
    PI X (.Tuple elts kk tpos) (.Call (.Name "zip" p) [e, e2] [] pos) (iZipU X.K ta) := by
  refine ⟨fun pins s σ H R I h => ?_⟩
  refine Call_ (ld_blt I hg hm PyProof.Rows.boot_zip (PyProof.Rows.callWith_type1 (thn (ha.run pos pins s σ H _ I h) fun us s1 ⟨vs, H1, I1, r1, q1⟩ => ?_) hs hpl))
  obtain ⟨a, b, xs, ys, b1, b2, ex, hqx, hqy, q⟩ := q1
  subst ex
  cases r1 with
  | cons r rr =>
    cases rr with
    | cons r' rr =>
      cases rr
      cases r
      cases r'
      obtain ⟨its, n1, g1, p1⟩ := hqx.get I1
      obtain ⟨its2, n2, g2, p2⟩ := hqy.get I1
      refine call_zipM b1 b2 p1 p2 fun h' hz hTI hTO h1 h2 hk => wpAny_pyIter_zip hz ?_
      have I2 : Inv X pins σ H1 { s1 with heap := h' } := I1.kept (t' := s1.toks) hk
      refine ⟨s1.heap.objs.size + 4, [s1.heap.objs.size + 4, s1.heap.objs.size + 2, s1.heap.objs.size + 3, s1.heap.objs.size, s1.heap.objs.size + 1], _, _, H1, rfl, I2, turn_zipM b1 b2 (PySem.W.ktu_apart s1.heap.objs.size a b p1.lt p2.lt), ⟨hz, hTI, ⟨_, _, hTO⟩, h1, h2⟩, fun c hcm => ?_, q⟩
      have hle : s1.heap.objs.size ≤ c := by
        have e' : c = s1.heap.objs.size + 4 ∨ c = s1.heap.objs.size + 2 ∨ c = s1.heap.objs.size + 3 ∨ c = s1.heap.objs.size ∨ c = s1.heap.objs.size + 1 := by simpa using hcm
        rcases e' with z | z | z | z | z
        · rw [z]; exact Nat.le_add_right _ _
        · rw [z]; exact Nat.le_add_right _ _
        · rw [z]; exact Nat.le_add_right _ _
        · rw [z]; exact Nat.le_refl _
        · rw [z]; exact Nat.le_add_right _ _
      exact I1.fpOk hle (I1.hok.fresh hle)
/-- pairs -/
def zipDs : List PyData → List PyData → List PyData
  | x :: xs, y :: ys => .tuple [x, y] :: zipDs xs ys
  | _, _ => []
theorem zipDs_get : ∀ {xs ys : List PyData} {i : Nat}, i < (zipDs xs ys).length → ∃ x y, xs[i]? = some x ∧ ys[i]? = some y ∧ (zipDs xs ys)[i]? = some (.tuple [x, y])
  | [], ys, i, h => by simp [zipDs] at h
  | _ :: _, [], i, h => by simp [zipDs] at h
  | x :: xs, y :: ys, 0, h => ⟨x, y, rfl, rfl, rfl⟩
  | x :: xs, y :: ys, i + 1, h => by
    obtain ⟨a, b, e1, e2, e3⟩ := zipDs_get (xs := xs) (ys := ys) (i := i) (by simpa [zipDs] using h)
    exact ⟨a, b, by simpa using e1, by simpa using e2, by simpa [zipDs] using e3⟩
theorem zipDs_len : ∀ (xs ys : List PyData), (zipDs xs ys).length ≤ xs.length ∧ (zipDs xs ys).length ≤ ys.length ∧ (xs.length ≤ (zipDs xs ys).length ∨ ys.length ≤ (zipDs xs ys).length)
  | [], ys => by simp [zipDs]
  | _ :: _, [] => by simp [zipDs]
  | x :: xs, y :: ys => by
    obtain ⟨a, b, c⟩ := zipDs_len xs ys
    refine ⟨?_, ?_, ?_⟩
    · simp [zipDs]; omega
    · simp [zipDs]; omega
    · simp only [zipDs, List.length_cons]; omega
def dZip (da : DA) : DI := fun ρ Q => da ρ fun rs ρ1 => match stoAll rs with
  | some [x, y] => ∃ ds es, itemsD x = some ds ∧ itemsD y = some es ∧ Q (zipDs ds es) ρ1
  | _ => False
/-- the list or the tuple at a holds ds, also later -/
structure Hs (b : Bool) (K : PySem.W.Frag) (σ : L2.St) (ρ : DEnv) (A0 : Av) (H' : Hp) (a : Addr) (ds : List PyData) : Prop where
  all : ∃ xs : List V, xs.length = ds.length ∧ RpAll A0 H' xs ds ∧ ∀ H, (∀ b o, H' b = some o → ¬ Ow σ ρ b → H b = some o) → (∀ b xs, H' b = some (.tup xs) → H b = some (.tup xs)) → Qs b K H a xs
theorem Rp.hs {K : PySem.W.Frag} {B : Av} {σ : L2.St} {ρ : DEnv} {H1 : Hp} {v : V} {d : PyData} {ds : List PyData} (h : Rp (Al B σ ρ) H1 v d) (e : itemsD d = some ds) : ∃ a b, v = .ref a ∧ Hs b K σ ρ (Al B σ ρ) H1 a ds := by
  cases h with
  | @lst a xs _ na ea ra =>
    cases e
    exact ⟨a, true, rfl, ⟨xs, ra.len, ra, fun H kp kt => SqL.of (kp a _ ea fun z => na (.inr z))⟩⟩
  | @tup a xs _ ea ra =>
    cases e
    exact ⟨a, false, rfl, ⟨xs, ra.len, ra, fun H kp kt => SqT.of (kt a _ ea)⟩⟩
  | _ => cases e
theorem walk_zip {K : PySem.W.Frag} {B : Av} {σ : L2.St} {ρ : DEnv} {H1 : Hp} {a b : Addr} {b1 b2 : Bool} {ds es : List PyData} (h1 : Hs b1 K σ ρ (Al B σ ρ) H1 a ds) (h2 : Hs b2 K σ ρ (Al B σ ρ) H1 b es) :
    WalkD σ ρ (Al B σ ρ) H1 (ItzM b1 b2 K a b) (zipDs ds es) := by
  obtain ⟨xs, l1, r1, k1⟩ := h1.all
  obtain ⟨ys, l2, r2, k2⟩ := h2.all
  have hz := zipDs_len ds es
  refine ⟨fun i H' kp kt hi => ?_, fun H' kp kt => ?_, fun i H' A x Hx ps kp hi y => ?_⟩
  · have i1 : i < xs.length := by omega
    have i2 : i < ys.length := by omega
    exact ⟨xs, ys, xs[i], ys[i], k1 H' kp kt, k2 H' kp kt, by simp [i1], by simp [i2]⟩
  · exact ⟨xs, ys, k1 H' kp kt, k2 H' kp kt, by omega, by omega, by omega⟩
  · obtain ⟨T, u, v, e1, e2, e3, e4, e5⟩ := y
    subst e1 e3
    obtain ⟨d, e, c1, c2, c3⟩ := zipDs_get hi
    obtain ⟨u', w1, w2⟩ := r1.get c1
    obtain ⟨v', w3, w4⟩ := r2.get c2
    have g1 := e4 xs (k1 H' kp fun b xs q => ps.t b xs q)
    have g2 := e5 ys (k2 H' kp fun b xs q => ps.t b xs q)
    rw [w1] at g1
    rw [w3] at g2
    cases g1
    cases g2
    have g : Grow H' (upd H' T (.tup [u, v])) := .new e2
    refine ⟨g, _, c3, .tup upd_same ?_⟩
    have pq : Pass A A H' (upd H' T (.tup [u, v])) := g.pass fun _ z => .inl z
    exact .cons (Rp.pass pq _ _ (Rp.pass ps _ _ w2)) (.cons (Rp.pass pq _ _ (Rp.pass ps _ _ w4)) .nil)
theorem simI_zip {K : PySem.W.Frag} {ta : TA} {da : DA} (h : SimA ta da) : SimI (iZipU K ta) (dZip da) := fun H0 B σ H ρ R QD Rl q k =>
  h H0 B σ H ρ _ _ Rl q fun rs ρ1 vs H1 R1 S1 K1 o1 q1 => by
    split at q1
    · rename_i x y e
      obtain ⟨ds, es, m1, m2, q1⟩ := q1
      have r := o1.sto e
      cases r with
      | cons ra rb =>
        cases rb with
        | cons rb rc =>
          cases rc
          obtain ⟨a, b1, e1, s1⟩ := ra.hs (K := K) m1
          obtain ⟨b, b2, e2, s2⟩ := rb.hs (K := K) m2
          subst e1 e2
          obtain ⟨xs, _, _, w1⟩ := s1.all
          obtain ⟨ys, _, _, w2⟩ := s2.all
          exact ⟨a, b, xs, ys, b1, b2, rfl, w1 H1 (fun _ _ z _ => z) (fun _ _ z => z), w2 H1 (fun _ _ z _ => z) (fun _ _ z => z), k _ _ ρ1 H1 R1 S1 K1 (walk_zip s1 s2) q1⟩
    · exact q1.elim
end Dl
set_option Elab.async false
set_option linter.all false
set_option maxRecDepth 100000
set_option maxHeartbeats 4000000
/-! The data layer, part 13: enumerate over lists and tuples alike; range with a step. -/
namespace Dl
open PySem L2 RZ PyProof.Rows
open AutoSeq1 (wpAny_loadPart')
theorem meets_enumT (l : Addr) (items : Array Value) :
    Meets (Builtin.«enumerate.__new__» ⟨[.type "enumerate", .ref l], []⟩) (fun _ R s => s.heap.IsTuple l items ∧
      R (.ok (.ret (.ref (s.heap.push { cls := .type "tuple_iterator", data := .fields #[.ref l, .int 0 0] }).objs.size)))
        { s with heap := (s.heap.push { cls := .type "tuple_iterator", data := .fields #[.ref l, .int 0 0] }).push { cls := .type "enumerate", data := .fields #[.none, .bool false, .ref s.heap.objs.size, rawInt 0, .none, .none] } }) :=
  .of_wp fun prog w A R s h => by
    obtain ⟨hp, g, d, tk, os⟩ := s; obtain ⟨hl, h⟩ := h
    have hsub := sub_enumerate
    have hL : Heap.IsTuple (Shared.heap ⟨hp, g, d, tk, os⟩) l items := hl
    wp_walk
    refine wpAny_stack_any fun st => wpAny_pure ?_
    split
    · rename_i c _ _ _ _ _
      cases (c == Value.type "enumerate")
      · wp_walk using wpAny_pyIter_tuple hL
        exact ⟨_, rfl, h⟩
      · wp_walk using wpAny_pyIter_tuple hL
        exact ⟨_, rfl, h⟩
    · wp_walk using wpAny_pyIter_tuple hL
      exact ⟨_, rfl, h⟩
theorem call_enumM {prog : Program} {w : World} {A : Around} {E : Value → Shared → Prop} {s : Shared} (b : Bool) {l : Addr} {items : Array Value} {Q : Value → Shared → Prop} (hL : Qh b s.heap l items)
    (h : ∀ h', IsEnum h' (s.heap.objs.size + 1) s.heap.objs.size 0 .none → Qi b h' s.heap.objs.size l 0 →
      (∀ b o, s.heap.get? b = some o → h'.get? b = some o) → Q (.ref (s.heap.objs.size + 1)) { s with heap := h' }) :
    wpAny (model prog w) A (call (.type "enumerate") [.ref l]) Q E s := by
  cases b
  · refine callType_new F.called_enumerate (by decide) (F.typeCall_enumerate_1 _) (F.newCall_enumerate_1 _) (fun obj => F.args_object_init_2 obj _) F.entry_enumerate_new
      (meets_enumT l items) ⟨hL, ?_⟩
    have hz : (s.heap.push { cls := .type "tuple_iterator", data := .fields #[.ref l, .int 0 0] }).objs.size = s.heap.objs.size + 1 := Heap.size_push ..
    show _ ∧ _
    rw [hz]
    have he : IsEnum ((s.heap.push { cls := .type "tuple_iterator", data := .fields #[.ref l, .int 0 0] }).push
        { cls := .type "enumerate", data := .fields #[.none, .bool false, .ref s.heap.objs.size, rawInt 0, .none, .none] }) (s.heap.objs.size + 1) s.heap.objs.size 0 .none := by
      have := Heap.get?_push_size (s.heap.push { cls := .type "tuple_iterator", data := .fields #[.ref l, .int 0 0] })
        (o := { cls := .type "enumerate", data := .fields #[.none, .bool false, .ref s.heap.objs.size, rawInt 0, .none, .none] }) rfl
      rw [hz] at this; exact this
    exact ⟨⟨_, he, rfl⟩, h _ he ⟨_, Heap.get?_push_of_some _ (Heap.get?_push_size _ rfl), rfl, rfl⟩ fun b o x => Heap.get?_push_of_some _ (Heap.get?_push_of_some _ x)⟩
  · exact call_enumerate_list hL fun h' he hi _ hk => h h' he hi hk
def IteM (b : Bool) (K : PySem.W.Frag) (a : Addr) : It :=
  ⟨fun i H => ∃ (xs : List V) (x : V), Qs b K H a xs ∧ xs[i]? = some x, fun i H v H' => ∃ T x, v = .ref T ∧ H T = none ∧ H' = upd H T (.tup [.int (i : Nat), x]) ∧ ∀ xs, Qs b K H a xs → xs[i]? = some x, fun i H => ∃ xs : List V, Qs b K H a xs ∧ xs.length = i⟩
theorem turn_enumM (b : Bool) {P : Program} {w : World} {K : PySem.W.Frag} {elts : List Expr} {kk : Nat} {tpos : Pos} {a e it : Addr} (hae : a ≠ e) (hai : a ≠ it) :
    Turn P w K (.Tuple elts kk tpos) (IteM b K a) [e, it] e (fun i h => (∃ old, IsEnum h e it ((i : Nat) : Int) old) ∧ Qi b h it a i ∧ e ≠ it) where
  mem := by simp
  obj := fun i h st b hb => by
    obtain ⟨⟨old, he⟩, hi, _⟩ := st
    have e' : b = e ∨ b = it := by simpa using hb
    rcases e' with z | z
    · rw [z]; exact ⟨_, he, fun v q => nomatch q⟩
    · rw [z]; exact hi.obj
  keep := fun i h h' st k => let ⟨⟨old, he⟩, hi, hne⟩ := st; ⟨⟨old, k e (by simp) _ he⟩, hi.at' fun o q => k it (by simp) o q, hne⟩
  item := by
    intro X hP hw hK hc i pins s σ H E I hf st hg
    subst hP hw hK
    obtain ⟨⟨old, he⟩, hit, hne⟩ := st
    obtain ⟨xs, x, hq, hx⟩ := hg
    obtain ⟨its, n1, g1, p⟩ := hq.get I
    obtain ⟨u, hu, ru⟩ := g1 i x hx
    have l1 : i < its.toArray.size := by have := (List.getElem?_eq_some_iff.mp hu).1; simpa using this
    have hel : e < s.heap.objs.size := Heap.lt_size he
    have hil : it < s.heap.objs.size := by obtain ⟨_, q, _⟩ := hit.obj; exact Heap.lt_size q
    refine wpAny_pyNext_enum_itemD (draws_of b (A := X.A.in1) (show X.A.in1.handled = none from I.ok.hd hc) it a hai its.toArray) he ⟨hit, p⟩ l1 hne (by simp [hne, hae.symm]) fun v h' tk e1 ho st' hT hsz hk => ?_
    have e1 : v = u := by
      have : its[i]? = some v := by simpa using e1
      rw [hu] at this
      exact (Option.some.inj this).symm
    subst e1
    refine ⟨_, rfl, wpAny_letOwnedTupleGo_enum (s := { s with heap := h', toks := tk + 1 }) ho fun h'' he' sb => ?_⟩
    have hT2 : h''.get? s.heap.objs.size = some { cls := .type "tuple", data := .seq #[.int i tk, v] } := (sb.2 _ (Nat.ne_of_gt hel)).trans hT
    have new : ObjOk X.prog X.w (upd H s.heap.objs.size (.tup [.int (i : Nat), x])) h'' s.heap.objs.size (.tup [.int (i : Nat), x]) :=
      ⟨by show 2 ≤ sizeLine; decide, [.int i tk, v], .cons ⟨_, rfl⟩ (.cons ru .nil), ⟨_, hT2, rfl, _, rfl⟩⟩
    have I1 : Inv X pins σ (upd H s.heap.objs.size (.tup [.int (i : Nat), x])) { s with heap := h'', toks := tk + 1 } :=
      I.turnedNew (t' := tk + 1) (ch := [e, it]) (fun b ob hb q => (sb.2 b (fun z => hb (by simp [z]))).trans (hk b ob (fun z => hb (by simp [z])) (fun z => hb (by simp [z])) q)) hf (Nat.le_refl _) new
    refine ⟨.ref s.heap.objs.size, _, I1, rfl, ⟨_, x, rfl, I.hok.fresh (Nat.le_refl _), rfl, fun ys hy => by rw [hy.inj I hq]; exact hx⟩, ⟨⟨v, ?_⟩, st'.1.at' fun o q => (sb.2 it (Ne.symm hne)).trans q, hne⟩, fun b hb => ?_⟩
    · have e1 : ((i + 1 : Nat) : Int) = (i : Int) + 1 := by omega
      rw [e1]; exact he'
    · have hb' : b < s.heap.objs.size := by
        have e' : b = e ∨ b = it := by simpa using hb
        rcases e' with z | z
        · rw [z]; exact hel
        · rw [z]; exact hil
      rw [upd_ne (Nat.ne_of_lt hb')]
      exact (hf b hb).1
  done := by
    intro X hP hw hK hc i pins s σ H E I hf st hg
    subst hP hw hK
    obtain ⟨⟨old, he⟩, hit, hne⟩ := st
    obtain ⟨xs, hq, hx⟩ := hg
    obtain ⟨its, n1, g1, p⟩ := hq.get I
    obtain ⟨f0, f1, f2, f3, f4, f5⟩ := hf it (by simp)
    have en : i = its.toArray.size := by simp; omega
    subst en
    exact wpAny_pyNext_enum_endD (draws_of b (A := X.A.in1) (show X.A.in1.handled = none from I.ok.hd hc) it a hai its.toArray) he ⟨hit, p⟩ fun h' eb => ⟨rfl, I.turned (t' := s.toks) (fun b o hb q => eb b o hb q) f0 f1 f3 f4 f5⟩
  self := fun A i s Q E st h => let ⟨⟨_, he⟩, _⟩ := st; wpAny_pyIter_enum he h
def iEnumU (K : PySem.W.Frag) (ta : TA) : TI := fun σ H R => ta σ H fun vs H1 => ∃ a xs b, vs = [.ref a] ∧ Qs b K H1 a xs ∧ R (IteM b K a) H1
theorem pi_enumU {X : Cx} {e : Expr} {ta : TA} {p pos tpos : Pos} {elts : List Expr} {kk : Nat} (hg : Gl X "enumerate") (hm : X.mg "enumerate" = none) (ha : PA X [e] ta) (hs : starEach [e] X.env = [(false, eval e X.env)] := by rfl) :
    PI X (.Tuple elts kk tpos) (.Call (.Name "enumerate" p) [e] [] pos) (iEnumU X.K ta) := by
  refine ⟨fun pins s σ H R I h => ?_⟩
  refine Call_ (ld_blt I hg hm boot_enumerate (PyProof.Rows.callWith_type1 (thn (ha.run pos pins s σ H _ I h) fun us s1 ⟨vs, H1, I1, r1, q1⟩ => ?_) hs rfl))
  obtain ⟨a, xs, b, ex, hq, q⟩ := q1
  subst ex
  cases r1 with
  | cons r rr =>
    cases rr
    cases r
    obtain ⟨its, n1, g1, p'⟩ := hq.get I1
    have hlt := p'.lt
    refine call_enumM b p' fun h' he hit hk => wpAny_pyIter_enum he ?_
    have I2 : Inv X pins σ H1 { s1 with heap := h' } := I1.kept (t' := s1.toks) hk
    refine ⟨s1.heap.objs.size + 1, [s1.heap.objs.size + 1, s1.heap.objs.size], _, _, H1, rfl, I2, turn_enumM b (e := s1.heap.objs.size + 1) (it := s1.heap.objs.size) (Nat.ne_of_lt (Nat.lt_succ_of_lt hlt)) (Nat.ne_of_lt hlt), ⟨⟨.none, he⟩, hit, Nat.succ_ne_self _⟩, fun b hb => ?_, q⟩
    have hle : s1.heap.objs.size ≤ b := by
      have e' : b = s1.heap.objs.size + 1 ∨ b = s1.heap.objs.size := by simpa using hb
      rcases e' with z | z
      · rw [z]; exact Nat.le_add_right _ _
      · rw [z]; exact Nat.le_refl _
    exact I1.fpOk hle (I1.hok.fresh hle)
/-- numbered from k on -/
def enumDs : Nat → List PyData → List PyData
  | k, x :: xs => .tuple [.int (k : Int), x] :: enumDs (k + 1) xs
  | _, [] => []
theorem enumDs_get : ∀ {xs : List PyData} {k i : Nat} {x : PyData}, xs[i]? = some x → (enumDs k xs)[i]? = some (.tuple [.int ((k + i : Nat) : Int), x])
  | [], k, i, x, h => by simp at h
  | y :: ys, k, 0, x, h => by
    have : y = x := by simpa using h
    subst this
    rfl
  | y :: ys, k, i + 1, x, h => by
    have := enumDs_get (xs := ys) (k := k + 1) (i := i) (x := x) (by simpa using h)
    have e : k + 1 + i = k + (i + 1) := by omega
    rw [e] at this
    simpa [enumDs] using this
theorem enumDs_len : ∀ (xs : List PyData) (k : Nat), (enumDs k xs).length = xs.length
  | [], k => rfl
  | x :: xs, k => by simp [enumDs, enumDs_len xs]
def dEnum (da : DA) : DI := fun ρ Q => da ρ fun rs ρ1 => match stoAll rs with
  | some [x] => ∃ ds, itemsD x = some ds ∧ Q (enumDs 0 ds) ρ1
  | _ => False
theorem walk_enum {K : PySem.W.Frag} {B : Av} {σ : L2.St} {ρ : DEnv} {H1 : Hp} {a : Addr} {b : Bool} {ds : List PyData} (h1 : Hs b K σ ρ (Al B σ ρ) H1 a ds) :
    WalkD σ ρ (Al B σ ρ) H1 (IteM b K a) (enumDs 0 ds) := by
  obtain ⟨xs, l1, r1, k1⟩ := h1.all
  have hz := enumDs_len ds 0
  refine ⟨fun i H' kp kt hi => ?_, fun H' kp kt => ?_, fun i H' A x Hx ps kp hi y => ?_⟩
  · have i1 : i < xs.length := by omega
    exact ⟨xs, xs[i], k1 H' kp kt, by simp [i1]⟩
  · exact ⟨xs, k1 H' kp kt, by omega⟩
  · obtain ⟨T, u, e1, e2, e3, e4⟩ := y
    subst e1 e3
    have hi2 : i < ds.length := by omega
    obtain ⟨u', w1, w2⟩ := r1.get (d := ds[i]) (i := i) (by simp [hi2])
    have g1 := e4 xs (k1 H' kp fun b xs q => ps.t b xs q)
    rw [w1] at g1
    cases g1
    have g : Grow H' (upd H' T (.tup [.int (i : Nat), u])) := .new e2
    refine ⟨g, _, enumDs_get (x := ds[i]) (by simp [hi2]), .tup upd_same ?_⟩
    have pq : Pass A A H' (upd H' T (.tup [.int (i : Nat), u])) := g.pass fun _ z => .inl z
    have e0 : ((0 + i : Nat) : Int) = (i : Int) := by omega
    rw [e0]
    exact .cons (.int _) (.cons (Rp.pass pq _ _ (Rp.pass ps _ _ w2)) .nil)
theorem simI_enum {K : PySem.W.Frag} {ta : TA} {da : DA} (h : SimA ta da) : SimI (iEnumU K ta) (dEnum da) := fun H0 B σ H ρ R QD Rl q k =>
  h H0 B σ H ρ _ _ Rl q fun rs ρ1 vs H1 R1 S1 K1 o1 q1 => by
    split at q1
    · rename_i x e
      obtain ⟨ds, m1, q1⟩ := q1
      have r := o1.sto e
      cases r with
      | cons ra rb =>
        cases rb
        obtain ⟨a, b, e1, s1⟩ := ra.hs (K := K) m1
        subst e1
        obtain ⟨xs, _, _, w1⟩ := s1.all
        exact ⟨a, xs, b, rfl, w1 H1 (fun _ _ z _ => z) (fun _ _ z => z), k _ _ ρ1 H1 R1 S1 K1 (walk_enum s1) q1⟩
    · exact q1.elim

/-! ### range with a step -/
def rngC (lo c : Int) (n : Nat) : List PyData := (List.range n).map fun (i : Nat) => PyData.int (lo + (i : Int) * c)
theorem rngC_len (lo c : Int) (n : Nat) : (rngC lo c n).length = n := by simp [rngC]
def dRng3 (da : DA) : DI := fun ρ Q => da ρ fun rs ρ1 => match rs.map (Rs.dat ρ1) with
  | [.int i, .int j, .int c] => ∃ n, RgC i j c n ∧ Q (rngC i c n) ρ1
  | _ => False
theorem walk_rngC {σ : L2.St} {ρ : DEnv} {A0 : Av} {H' : Hp} {lo c : Int} {n : Nat} : WalkD σ ρ A0 H' (Itc lo c n) (rngC lo c n) :=
  ⟨fun i H _ _ hi => by rw [rngC_len] at hi; exact hi, fun H _ _ => by rw [rngC_len]; exact Nat.le_refl _, fun i H A x Hx _ _ hi y => by
    rw [rngC_len] at hi
    obtain ⟨e1, e2⟩ := y
    subst e1 e2
    exact ⟨.refl, _, by simp [rngC, hi], .int _⟩⟩
theorem VwAll.three {A : Av} {H : Hp} {vs : List V} {d e f : PyData} (h : VwAll A H vs [d, e, f]) : ∃ u v w, vs = [u, v, w] ∧ Vw A H u d ∧ Vw A H v e ∧ Vw A H w f := by
  match vs, h with
  | [u, v, w], h => exact ⟨u, v, w, rfl, h.1, h.2.1, h.2.2.1⟩
theorem simI_rng3 {ta : TA} {da : DA} (h : SimA ta da) : SimI (iRng3 ta) (dRng3 da) := fun H0 B σ H ρ R QD Rl q k =>
  h H0 B σ H ρ _ _ Rl q fun rs ρ1 vs H1 R1 S1 K1 o1 q1 => by
    have vw := o1.vw R1
    split at q1
    · rename_i i j c e
      rw [e] at vw
      obtain ⟨u, v, w, e1, h1, h2, h3⟩ := VwAll.three vw
      cases h1.int
      cases h2.int
      cases h3.int
      obtain ⟨n, hr, q1⟩ := q1
      exact ⟨i, j, c, n, e1, hr, k _ _ ρ1 H1 R1 S1 K1 walk_rngC q1⟩
    · exact q1.elim
/-- a block in a block -/
theorem blk_in {N : List Str} {sc0 S sc : Scope} {own : List (Str × Nat)} {e : Env} (h : e.scope = S) (q : blkC N (relabel sc0 (envOfC "" S 0 0 .none)) sc own = true) : BlkOk N (relabel sc0 e) sc own := by
  subst h
  exact blkOk_by q
end Dl
set_option Elab.async false
set_option linter.all false
set_option maxRecDepth 100000
set_option maxHeartbeats 4000000
/-! The data layer, part 14: dicts by ints and by tuples of ints (these with a mark ahead of their pairs). -/
namespace Dl
open PySem L2 RZ PyProof.Rows
def isI (i : Int) : PyData → Bool
  | .int j => decide (j = i)
  | _ => false
def isT (is : List Int) : PyData → Bool
  | .tuple ds => decide (intsOf ds = some is)
  | _ => false
def lookD (τ : PyData → Bool) (kvs : List (PyData × PyData)) : Option PyData := (kvs.find? fun p => τ p.1).map (·.2)
def putD (τ : PyData → Bool) (kvs : List (PyData × PyData)) (k v : PyData) : List (PyData × PyData) :=
  if (kvs.any fun p => τ p.1) = true then kvs.map (fun p => if τ p.1 = true then (p.1, v) else p) else kvs ++ [(k, v)]
abbrev mark : PyData × PyData := (.none, .none)
def noMark (kvs : List (PyData × PyData)) : Prop := ∀ r, kvs ≠ mark :: r
section
variable {κ : Type} [DecidableEq κ] {A : Av} {H : Hp} {f : κ → PyData} {τ : PyData → Bool} {k : κ}
theorem pair_len {F : κ × V → PyData × PyData → Prop} : ∀ {kv : List (κ × V)} {ds : List (PyData × PyData)}, Paired F kv ds → kv.length = ds.length
  | _, _, .nil => rfl
  | _, _, .cons _ t => congrArg (· + 1) (pair_len t)
theorem pair_look (hτ : ∀ a, τ (f a) = decide (a = k)) : ∀ {kv : List (κ × V)} {ds : List (PyData × PyData)}, Paired (fun (q : κ × V) (r : PyData × PyData) => r.1 = f q.1 ∧ Rp A H q.2 r.2) kv ds →
    (valV kv k = none ∧ lookD τ ds = none) ∨ ∃ v d, valV kv k = some v ∧ lookD τ ds = some d ∧ Rp A H v d
  | _, _, .nil => .inl ⟨rfl, rfl⟩
  | q :: kv, r :: ds, .cons h t => by
    have e : τ r.1 = decide (q.1 = k) := by rw [h.1, hτ]
    by_cases c : q.1 = k
    · refine .inr ⟨q.2, r.2, valV_pos c, ?_, h.2⟩
      unfold lookD
      rw [List.find?_cons_of_pos (by rw [e, decide_eq_true c])]
      rfl
    · have l : lookD τ (r :: ds) = lookD τ ds := by
        unfold lookD
        rw [List.find?_cons_of_neg (by rw [e, decide_eq_false c]; exact Bool.false_ne_true)]
      rw [valV_neg c, l]
      exact pair_look hτ t
theorem pair_any (hτ : ∀ a, τ (f a) = decide (a = k)) : ∀ {kv : List (κ × V)} {ds : List (PyData × PyData)}, Paired (fun (q : κ × V) (r : PyData × PyData) => r.1 = f q.1 ∧ Rp A H q.2 r.2) kv ds →
    (kv.any fun q => decide (q.1 = k)) = ds.any fun r => τ r.1
  | _, _, .nil => rfl
  | q :: kv, r :: ds, .cons h t => by
    rw [List.any_cons, List.any_cons, pair_any hτ t, h.1, hτ]
theorem pair_map (hτ : ∀ a, τ (f a) = decide (a = k)) {v : V} {d : PyData} (hv : Rp A H v d) : ∀ {kv : List (κ × V)} {ds : List (PyData × PyData)}, Paired (fun (q : κ × V) (r : PyData × PyData) => r.1 = f q.1 ∧ Rp A H q.2 r.2) kv ds →
    Paired (fun (q : κ × V) (r : PyData × PyData) => r.1 = f q.1 ∧ Rp A H q.2 r.2) (kv.map fun q => if q.1 = k then (q.1, v) else q) (ds.map fun r => if τ r.1 = true then (r.1, d) else r)
  | _, _, .nil => .nil
  | q :: kv, r :: ds, .cons h t => by
    refine .cons ?_ (pair_map hτ hv t)
    have e : τ r.1 = decide (q.1 = k) := by rw [h.1, hτ]
    show (if τ r.1 = true then (r.1, d) else r).1 = f (if q.1 = k then (q.1, v) else q).1 ∧ Rp A H (if q.1 = k then (q.1, v) else q).2 (if τ r.1 = true then (r.1, d) else r).2
    by_cases c : q.1 = k
    · rw [if_pos c, if_pos (by rw [e, decide_eq_true c])]
      exact ⟨h.1, hv⟩
    · rw [if_neg c, if_neg (by rw [e, decide_eq_false c]; exact Bool.false_ne_true)]
      exact h
theorem pair_app {F : κ × V → PyData × PyData → Prop} {q : κ × V} {r : PyData × PyData} (h : F q r) : ∀ {kv : List (κ × V)} {ds : List (PyData × PyData)}, Paired F kv ds → Paired F (kv ++ [q]) (ds ++ [r])
  | _, _, .nil => .cons h .nil
  | _, _, .cons a t => .cons a (pair_app h t)
theorem pair_put (hτ : ∀ a, τ (f a) = decide (a = k)) {v : V} {d : PyData} (hv : Rp A H v d) {kv : List (κ × V)} {ds : List (PyData × PyData)} (h : Paired (fun (q : κ × V) (r : PyData × PyData) => r.1 = f q.1 ∧ Rp A H q.2 r.2) kv ds) :
    Paired (fun (q : κ × V) (r : PyData × PyData) => r.1 = f q.1 ∧ Rp A H q.2 r.2) (putK kv k v) (putD τ ds (f k) d) := by
  unfold putK putD
  rw [pair_any hτ h]
  by_cases c : (ds.any fun r => τ r.1) = true
  · rw [if_pos c, if_pos c]
    exact pair_map hτ hv h
  · rw [if_neg c, if_neg c]
    exact pair_app ⟨rfl, hv⟩ h
end
theorem isI_key (i : Int) (a : Key) : isI i (keyD a) = decide (a = Sum.inl i) := by
  cases a with
  | inl j => simp [isI, keyD]
  | inr x => simp [isI, keyD]
theorem intsOf_key : ∀ (q : List Key) (is : List Int), intsOf (q.map keyD) = some is ↔ q = is.map Sum.inl
  | [], is => by
    constructor
    · intro h; cases h; rfl
    · intro h
      cases is with
      | nil => rfl
      | cons _ _ => cases h
  | .inl j :: q, is => by
    have ih := intsOf_key q
    show (match intsOf (q.map keyD) with | some ns => some (j :: ns) | none => none) = some is ↔ _
    cases e : intsOf (q.map keyD) with
    | none =>
      constructor
      · intro h; cases h
      · intro h
        cases is with
        | nil => cases h
        | cons b bs =>
          rw [List.map_cons] at h
          injection h with h1 h2
          have := (ih bs).mpr h2
          rw [e] at this
          cases this
    | some ns =>
      have h0 := (ih ns).mp e
      subst h0
      constructor
      · intro h
        injection h with h
        subst h
        rfl
      · intro h
        cases is with
        | nil => cases h
        | cons b bs =>
          rw [List.map_cons] at h
          injection h with h1 h2
          injection h1 with h1
          have := (List.map_inj_right (fun a b e => by injection e)).mp h2
          rw [h1, this]
  | .inr x :: q, is => by
    constructor
    · intro h; cases h
    · intro h
      cases is with
      | nil => cases h
      | cons b bs =>
        rw [List.map_cons] at h
        injection h with h1 h2
        cases h1
theorem isT_key (is : List Int) (q : List Key) : isT is (.tuple (q.map keyD)) = decide (q = is.map Sum.inl) := by
  show decide (intsOf (q.map keyD) = some is) = _
  by_cases h : q = is.map Sum.inl
  · rw [decide_eq_true h, decide_eq_true ((intsOf_key q is).mpr h)]
  · rw [decide_eq_false h, decide_eq_false (fun z => h ((intsOf_key q is).mp z))]
/-- what a dict holds at a key -/
def atD (d e : PyData) (Z : Option PyData → Prop) : Prop :=
  (∃ kvs j, d = .dict kvs ∧ noMark kvs ∧ e = .int j ∧ Z (lookD (isI j) kvs)) ∨ ∃ r ds is, d = .dict (mark :: r) ∧ e = .tuple ds ∧ intsOf ds = some is ∧ Z (lookD (isT is) r)
theorem key_ints {A : Av} {H : Hp} {y : V} {ds : List PyData} {is : List Int} (h : Vw A H y (.tuple ds)) (e : intsOf ds = some is) : ∃ b, y = .ref b ∧ H b = some (.tup ((is.map Sum.inl : List Key).map kV)) := by
  have e := intsOf_some e
  subst e
  obtain ⟨p, xs, e1, e2, r⟩ := h.tup
  rw [r.ints] at e2
  refine ⟨p, e1, ?_⟩
  rw [e2, List.map_map]
  rfl
theorem at_get {A : Av} {H : Hp} {x y : V} {d e : PyData} {Z : Option PyData → Prop} (vx : Vw A H x d) (vy : Vw A H y e) (q : atD d e Z) :
    ∃ a o, x = .ref a ∧ DGet H a y o ∧ IsD H a ∧ ((o = none ∧ Z none) ∨ ∃ v d', o = some v ∧ Rp A H v d' ∧ Z (some d')) := by
  rcases q with ⟨kvs, j, rfl, nm, rfl, z⟩ | ⟨r, ds, is, rfl, rfl, ei, z⟩
  · cases vy.int
    rcases vx with h | ⟨p, rfl, h⟩
    · cases h
    rcases h with ⟨kv, e1, pr⟩ | ⟨kv, r, er, _⟩
    · refine ⟨p, _, rfl, .k (k := Sum.inl j) e1, .inl ⟨kv, .inl e1⟩, ?_⟩
      rcases pair_look (f := keyD) (k := Sum.inl j) (isI_key j) pr with ⟨h1, h2⟩ | ⟨v, d, h1, h2, h3⟩
      · exact .inl ⟨h1, by rw [← h2]; exact z⟩
      · exact .inr ⟨v, d, h1, h3, by rw [← h2]; exact z⟩
    · exact (nm r er).elim
  · obtain ⟨b, rfl, eb⟩ := key_ints vy ei
    rcases vx with h | ⟨p, rfl, h⟩
    · cases h
    rcases h with ⟨kv, e1, pr⟩ | ⟨kv, r', er, e1, pr⟩
    · cases pr with
      | @cons a _ _ _ h t =>
        have h1 := h.1
        cases a with
        | mk k v => cases k <;> cases h1
    · injection er with _ er
      subst er
      refine ⟨p, _, rfl, .t e1 eb, .inr ⟨kv, .inl e1⟩, ?_⟩
      rcases pair_look (f := fun q : List Key => PyData.tuple (q.map keyD)) (k := is.map Sum.inl) (isT_key is) pr with ⟨h1, h2⟩ | ⟨v, d, h1, h2, h3⟩
      · exact .inl ⟨h1, by rw [← h2]; exact z⟩
      · exact .inr ⟨v, d, h1, h3, by rw [← h2]; exact z⟩
/-! ### reading -/
def oDGet : Op2 := fun d e Z => atD d e fun o => ∃ v, o = some v ∧ Z (.fz v)
def dDGet (da db : DE) : DE := dOp2 oDGet da db
theorem simE_dget {ta tb : TE} {da db : DE} (ha : SimE ta da) (hb : SimE tb db) : SimE (tDGet ta tb) (dDGet da db) := by
  refine simE_op2 (r := fun x y H Q => ∃ a v, x = .ref a ∧ DGet H a y (some v) ∧ Q v H) (fun A H x y d e Q Z ad vx vy q k => ?_) ha hb
  obtain ⟨a, o, ex, g, _, q⟩ := at_get vx vy q
  rcases q with ⟨_, v, z, _⟩ | ⟨v, d', eo, rp, w, z, q⟩
  · cases z
  · cases z
    subst eo
    exact ⟨a, v, ex, g, k (.fz _) _ H .refl rp q⟩
def rDIn : R2 := fun y x H Q => ∃ a o, x = .ref a ∧ DGet H a y o ∧ Q (.bl o.isSome) H
def rDNotIn : R2 := fun y x H Q => ∃ a o, x = .ref a ∧ DGet H a y o ∧ Q (.bl (!o.isSome)) H
theorem op_dinU {X : Cx} (hu : X.A.units + 1 < cLine) : OpR X (compareOp .In) rDIn := by
  intro pins s σ H x y v u Q I rx ry h
  obtain ⟨a, o, rfl, g, q⟩ := h
  cases ry
  exact d_in hu I g rx fun s3 I3 => ⟨.bl o.isSome, H, I3, rfl, q⟩
theorem op_dnotinU {X : Cx} (hu : X.A.units + 1 < cLine) : OpR X (compareOp .NotIn) rDNotIn := by
  intro pins s σ H x y v u Q I rx ry h
  obtain ⟨a, o, rfl, g, q⟩ := h
  cases ry
  exact d_notIn hu I g rx fun s3 I3 => ⟨.bl (!o.isSome), H, I3, rfl, q⟩
def oDIn (neg : Bool) : Op2 := fun e d Z => atD d e fun o => Z (.fz (.bool (neg ^^ o.isSome)))
theorem simR2_din : SimR2 rDIn (oDIn false) := fun A H y x e d Q Z ad vy vx q k => by
  obtain ⟨a, o, ex, g, _, q⟩ := at_get vx vy q
  rcases q with ⟨eo, q⟩ | ⟨v, d', eo, rp, q⟩
  · subst eo
    exact ⟨a, _, ex, g, k (.fz _) _ H .refl (.bl _) q⟩
  · subst eo
    exact ⟨a, _, ex, g, k (.fz _) _ H .refl (.bl _) q⟩
theorem simR2_dnotin : SimR2 rDNotIn (oDIn true) := fun A H y x e d Q Z ad vy vx q k => by
  obtain ⟨a, o, ex, g, _, q⟩ := at_get vx vy q
  rcases q with ⟨eo, q⟩ | ⟨v, d', eo, rp, q⟩
  · subst eo
    exact ⟨a, _, ex, g, k (.fz _) _ H .refl (.bl _) q⟩
  · subst eo
    exact ⟨a, _, ex, g, k (.fz _) _ H .refl (.bl _) q⟩
/-- d.get(k, x), d in slot i, x an int or so -/
def dDGet2 (i : Nat) (dk dx : DE) : DE := fun ρ Q => (∃ kvs, ρ[i]? = some (some (.ow (.dict kvs)))) ∧ dk ρ fun rk ρ1 => dx ρ1 fun rx ρ2 => ∃ d, rx.sto = some d ∧ ∃ s, ρ2[i]? = some (some s) ∧ s.own = true ∧ atD s.dat (rk.dat ρ2) fun o => Q (.fz (o.getD d)) ρ2
theorem simE_dget2 {i : Nat} {ty tx : TE} {dk dx : DE} (hk : SimE ty dk) (hx : SimE tx dx) : SimE (tDGet2 (tVar i) ty tx) (dDGet2 i dk dx) := fun H0 B σ H ρ Q QD R q k => by
  obtain ⟨⟨kvs, es⟩, q⟩ := q
  obtain ⟨p, h1, h2⟩ := R.own i _ es rfl
  refine ⟨_, h1, p, rfl, ?_, ?_⟩
  · rcases h2 with ⟨kv, e1, _⟩ | ⟨kv, r, _, e1, _⟩
    · exact .inl ⟨kv, .inl e1⟩
    · exact .inr ⟨kv, .inl e1⟩
  · refine hk H0 B σ H ρ _ _ R q fun rk ρ1 v1 H1 R1 S1 K1 o1 q1 => ?_
    refine hx H0 B σ H1 ρ1 _ _ R1 q1 fun rx ρ2 v2 H2 R2 S2 K2 o2 q2 => ?_
    obtain ⟨d, hd, s, e3, e4, q2⟩ := q2
    obtain ⟨p', c1, c2⟩ := R2.own i s e3 e4
    rw [h1] at c1
    cases c1
    have vk := ((o1.cv.step S2 K2)).vw R2
    obtain ⟨a, o, ex, g, _, q3⟩ := at_get (.inr ⟨p, rfl, c2⟩) vk q2
    cases ex
    refine ⟨o, g, ?_⟩
    rcases q3 with ⟨eo, z⟩ | ⟨v, d', eo, rp, z⟩
    · subst eo
      exact k (.fz d) ρ2 _ H2 R2 (S1.trans S2) (K1.trans K2) (o2.cv.sto hd) z
    · subst eo
      exact k (.fz d') ρ2 _ H2 R2 (S1.trans S2) (K1.trans K2) rp z
/-! ### writing -/
def putsD (d e v : PyData) (Z : List (PyData × PyData) → Prop) : Prop :=
  (∃ kvs j, d = .dict kvs ∧ noMark kvs ∧ e = .int j ∧ kvs.length < 100000 ∧ Z (putD (isI j) kvs (.int j) v)) ∨ ∃ r ds is, d = .dict (mark :: r) ∧ e = .tuple ds ∧ intsOf ds = some is ∧ r.length < 100000 ∧ Z (mark :: putD (isT is) r (.tuple ds) v)
def dDPut (i : Nat) (dk dv : DE) : DS := fun DD ρ => (∃ s, ρ[i]? = some (some s) ∧ s.own = true) ∧ dv ρ fun r ρ1 => ∃ d, r.sto = some d ∧ dk ρ1 fun rk ρ2 => ∃ s, ρ2[i]? = some (some s) ∧ s.own = true ∧ putsD s.dat (rk.dat ρ2) d fun kvs => DD.nx (ρ2.set i (some (s.with (.dict kvs))))
theorem simS_dput {i : Nat} {ty tv : TE} {dk dv : DE} (hk : SimE ty dk) (hv : SimE tv dv) : SimS (sDPut (tVar i) ty tv) (dDPut i dk dv) := fun H0 B σ H ρ D DD R q E => by
  obtain ⟨⟨s, e1, e2⟩, q⟩ := q
  obtain ⟨p, h1, h2⟩ := R.own i s e1 e2
  refine hv H0 B σ H ρ _ _ R q fun r ρ1 v H1 R1 S1 K1 o1 q1 => ?_
  obtain ⟨d, hd, q1⟩ := q1
  refine ⟨_, h1, ?_⟩
  refine hk H0 B σ H1 ρ1 _ _ R1 q1 fun rk ρ2 vk H2 R2 S2 K2 o2 q2 => ?_
  have vw := o2.cv.vw R2
  have rp := (o1.cv.step S2 K2).sto hd
  obtain ⟨s1, es1, hs1, q2⟩ := q2
  obtain ⟨p1, c1, c2⟩ := R2.own i s1 es1 hs1
  rw [h1] at c1
  cases c1
  have psO : ∀ {o' : HO} {o0 : HO}, H2 p = some o0 → (∀ xs, o0 ≠ .tup xs) → Pass (Al B σ ρ2) (Al B σ ρ2) H2 (upd H2 p o') := fun {o' o0} e0 nt => ⟨fun a zs n e => by
    have ne : a ≠ p := fun z => n (by rw [z]; exact .inr ⟨i, s1, es1, hs1, h1⟩)
    exact ⟨n, by rw [upd_ne ne]; exact e⟩, fun a zs e => by
    have ne : a ≠ p := fun z => by
      rw [z, e0] at e
      cases e
      exact nt _ rfl
    rw [upd_ne ne]
    exact e⟩
  rcases q2 with ⟨kvs, j, ed, nm, ek, hl, z⟩ | ⟨r', ds, is, ed, ek, ei, hl, z⟩
  · rw [ed] at c2
    rw [ek] at vw
    cases vw.int
    rcases c2 with ⟨kv, c3, pr⟩ | ⟨kv, r, er, _⟩
    · have ps := psO (o' := .dK (putK kv (Sum.inl j) v)) c3 (fun _ z => nomatch z)
      refine ⟨p, _, rfl, .k (k := Sum.inl j) c3 (by rw [pair_len pr]; exact sz5' hl), ?_⟩
      have pr2 : PairK (Al B σ ρ2) (upd H2 p (.dK (putK kv (Sum.inl j) v))) kv kvs := Paired.map2 pr fun a b z => ⟨z.1, Rp.pass ps _ _ z.2⟩
      obtain ⟨R3, S3⟩ := R2.write (o := .dK (putK kv (Sum.inl j) v)) (d' := .dict (putD (isI j) kvs (.int j) d)) es1 hs1 h1 (.inl ⟨_, upd_same, pair_put (f := keyD) (k := Sum.inl j) (isI_key j) (Rp.pass ps _ _ rp) pr2⟩)
      exact E.nx σ _ _ R3 ((S1.trans S2).trans S3) z
    · exact (nm r er).elim
  · rw [ed] at c2
    rw [ek] at vw
    obtain ⟨b, rfl, eb⟩ := key_ints vw ei
    rcases c2 with ⟨kv, c3, pr⟩ | ⟨kv, r'', er, c3, pr⟩
    · cases pr with
      | @cons a _ _ _ h t =>
        have h1 := h.1
        cases a with
        | mk k v => cases k <;> cases h1
    · injection er with _ er
      subst er
      have ps := psO (o' := .dT (putK kv (is.map Sum.inl) v)) c3 (fun _ z => nomatch z)
      refine ⟨p, _, rfl, .t c3 eb (by rw [pair_len pr]; exact sz5' hl), ?_⟩
      have pr2 : PairT (Al B σ ρ2) (upd H2 p (.dT (putK kv (is.map Sum.inl) v))) kv r' := Paired.map2 pr fun a b z => ⟨z.1, Rp.pass ps _ _ z.2⟩
      have ek2 : PyData.tuple ds = .tuple ((is.map Sum.inl : List Key).map keyD) := by
        rw [intsOf_some ei, List.map_map]
        rfl
      obtain ⟨R3, S3⟩ := R2.write (o := .dT (putK kv (is.map Sum.inl) v)) (d' := .dict (mark :: putD (isT is) r' (.tuple ds) d)) es1 hs1 h1 (.inr ⟨_, _, rfl, upd_same, by
        rw [ek2]
        exact pair_put (f := fun q : List Key => PyData.tuple (q.map keyD)) (k := is.map Sum.inl) (isT_key is) (Rp.pass ps _ _ rp) pr2⟩)
      exact E.nx σ _ _ R3 ((S1.trans S2).trans S3) z
/-! ### a new dict -/
def dDNewK : DE := fun ρ Q => Q (.nw (.dict [])) ρ
def dDNewT : DE := fun ρ Q => Q (.nw (.dict [mark])) ρ
theorem simE_dnewK : SimE tDNewK dDNewK := fun H0 B σ H ρ Q QD R q k => fun p hp => by
  have g : Grow H (upd H p (.dK [])) := .new hp
  exact k (.nw (.dict [])) ρ _ _ (R.grow g) g.stp .refl ((resOk_of R g (r := .nw (.dict [])) ⟨p, rfl, hp, by rw [upd_same]; exact fun z => (nomatch z), .inl ⟨[], upd_same, .nil⟩⟩)) q
theorem simE_dnewT : SimE tDNewT dDNewT := fun H0 B σ H ρ Q QD R q k => fun p hp => by
  have g : Grow H (upd H p (.dT [])) := .new hp
  exact k (.nw (.dict [mark])) ρ _ _ (R.grow g) g.stp .refl ((resOk_of R g (r := .nw (.dict [mark])) ⟨p, rfl, hp, by rw [upd_same]; exact fun z => (nomatch z), .inr ⟨[], [], rfl, upd_same, .nil⟩⟩)) q
theorem pi_zipK {X : Cx} {K : PySem.W.Frag} {e e2 : Expr} {ta : TA} {p pos tpos : Pos} {elts : List Expr} {kk : Nat} (hg : Gl X "zip") (hm : X.mg "zip" = none) (ha : PA X [e, e2] ta)
    (hs : starEach [e, e2] X.env = (false, eval e X.env) :: starEach [e2] X.env := by rfl) (hpl : (backTo pos (starEach [e2] X.env)).any (·.1) = false := by rfl) (hK : X.K = K := by rfl) :
    PI X (.Tuple elts kk tpos) (.Call (.Name "zip" p) [e, e2] [] pos) (iZipU K ta) := by
  subst hK
  exact pi_zipU hg hm ha hs hpl
theorem pi_enumK {X : Cx} {K : PySem.W.Frag} {e : Expr} {ta : TA} {p pos tpos : Pos} {elts : List Expr} {kk : Nat} (hg : Gl X "enumerate") (hm : X.mg "enumerate" = none) (ha : PA X [e] ta) (hs : starEach [e] X.env = [(false, eval e X.env)] := by rfl) (hK : X.K = K := by rfl) :
    PI X (.Tuple elts kk tpos) (.Call (.Name "enumerate" p) [e] [] pos) (iEnumU K ta) := by
  subst hK
  exact pi_enumU hg hm ha hs
theorem pg_tupK {X : Cx} {K : PySem.W.Frag} {pos : Pos} {es : List Expr} {k : Nat} {t : TGs} {n : Nat} (hc : X.calm = true) (h : PGs X es t)
    (hn : (assignEach es X.env).length = n := by rfl) (hst : (assignEach es X.env).findIdx? (·.1) = none := by rfl) (hK : X.K = K := by rfl) : PG X (.Tuple es k pos) (gTup K n t) := by
  subst hK
  exact pg_tup hc h hn hst
theorem ind_dnewK {i : Nat} : Ind tDNewK i := fun _ _ => rfl
theorem ind_dnewT {i : Nat} : Ind tDNewT i := fun _ _ => rfl
theorem hu1 {k : Nat} {A : Around} (r : Room k A) : A.units + 1 < cLine := by
  have := r.un
  omega
end Dl
set_option Elab.async false
set_option linter.all false
/-! Rows, schedules, entries as plain data; what a read does. -/
namespace St
open PySem
abbrev Ent := Option (Int × Int)
structure Row where
  ls : List Int
  ps : List Nat
abbrev Sch := List (Int × Nat)
def intsT (ns : List Int) : PyData := .tuple (ns.map PyData.int)
def natsT (ns : List Nat) : PyData := .tuple (ns.map fun (n : Nat) => PyData.int (n : Int))
def rowD (r : Row) : PyData := .tuple [intsT r.ls, natsT r.ps]
def tcD (x : Int × Nat) : PyData := .tuple [.int x.1, .int (x.2 : Int)]
def schD (s : Sch) : PyData := .tuple (s.map tcD)
def entD : Ent → PyData
  | none => .none
  | some (a, t) => .tuple [.int a, .int t]
/-- what a cache of lifetime l that holds h answers at t -/
def fresh (l : Int) (h : Ent) (t : Int) : Option Int := match h with
  | some (a, s) => if s + l ≤ t then none else some a
  | none => none
/-- the caches from the i-th on are asked at t: the answer, the index that gave it, and what they hold then -/
def askL : List Int → List Ent → Int → Nat → (Int × Nat) × List Ent
  | l :: ls, h :: hs, t, i => match fresh l h t with
    | some a => ((a, i), h :: hs)
    | none => ((askL ls hs t (i + 1)).1, some ((askL ls hs t (i + 1)).1.1, t) :: (askL ls hs t (i + 1)).2)
  | _, hs, t, i => ((t, i), hs)
def ask (ls : List Int) (hs : List Ent) (t : Int) (p : Nat) : (Int × Nat) × List Ent :=
  ((askL (ls.drop p) (hs.drop p) t p).1, hs.take p ++ (askL (ls.drop p) (hs.drop p) t p).2)
def walk (r : Row) : List Ent → Sch → List (Int × Nat) × List Ent
  | hs, [] => ([], hs)
  | hs, x :: s => ((ask r.ls hs x.1 (r.ps.getD x.2 0)).1 :: (walk r (ask r.ls hs x.1 (r.ps.getD x.2 0)).2 s).1, (walk r (ask r.ls hs x.1 (r.ps.getD x.2 0)).2 s).2)
def empt (r : Row) : List Ent := List.replicate r.ls.length none
def answers (r : Row) (s : Sch) : List Int := (walk r (empt r) s).1.map (·.1)
def sources (r : Row) (s : Sch) : List Nat := (walk r (empt r) s).1.map (·.2)
def entries (r : Row) (s : Sch) : List Ent := (walk r (empt r) s).2
theorem askL_len : ∀ (ls : List Int) (hs : List Ent) (t : Int) (i : Nat), (askL ls hs t i).2.length = hs.length
  | [], hs, t, i => by cases hs <;> rfl
  | l :: ls, [], t, i => rfl
  | l :: ls, h :: hs, t, i => by
    unfold askL
    split
    · rfl
    · simp [askL_len ls hs t (i + 1)]
theorem ask_len (ls : List Int) (hs : List Ent) (t : Int) (p : Nat) : (ask ls hs t p).2.length = hs.length := by
  unfold ask
  simp [askL_len]
  omega
/-- a row that a law may draw -/
structure Row.Ok (r : Row) : Prop where
  few : r.ls.length ≤ 8
  pos : ∀ l ∈ r.ls, 1 ≤ l
  some : r.ps ≠ []
  fewP : r.ps.length ≤ 5
  inn : ∀ p ∈ r.ps, p ≤ r.ls.length
  up : r.ps.Pairwise (· ≤ ·)
structure SchOk (r : Row) (s : Sch) : Prop where
  few : s.length ≤ 50
  cl : ∀ x ∈ s, x.2 < r.ps.length
  nn : ∀ x ∈ s, 0 ≤ x.1
  up : s.Pairwise (fun x y => x.1 ≤ y.1)
end St
set_option Elab.async false
set_option linter.all false
/-! Where an answer comes from. -/
namespace St
open PySem
theorem askL_src : ∀ (ls : List Int) (hs : List Ent) (t : Int) (i : Nat), ls.length = hs.length →
    i ≤ (askL ls hs t i).1.2 ∧ (askL ls hs t i).1.2 ≤ i + ls.length ∧
    (∀ k, i + k < (askL ls hs t i).1.2 → ∃ l h, ls[k]? = some l ∧ hs[k]? = some h ∧ fresh l h t = none) ∧
    ((askL ls hs t i).1.2 = i + ls.length → (askL ls hs t i).1.1 = t) ∧
    (∀ k, i + k = (askL ls hs t i).1.2 → k < ls.length → ∃ l h, ls[k]? = some l ∧ hs[k]? = some h ∧ fresh l h t = some (askL ls hs t i).1.1) ∧
    (askL ls hs t i).2 = List.replicate ((askL ls hs t i).1.2 - i) (some ((askL ls hs t i).1.1, t)) ++ hs.drop ((askL ls hs t i).1.2 - i)
  | [], [], t, i, _ => by
    refine ⟨Nat.le_refl _, Nat.le_refl _, fun k hk => ?_, fun _ => rfl, fun k _ hk => ?_, ?_⟩
    · have : i + k < i := hk
      omega
    · simp at hk
    · simp [askL]
  | [], _ :: _, _, _, h => by simp at h
  | _ :: _, [], _, _, h => by simp at h
  | l :: ls, h :: hs, t, i, hl => by
    have ih := askL_src ls hs t (i + 1) (by simpa using hl)
    unfold askL
    cases hf : fresh l h t with
    | some a =>
      refine ⟨Nat.le_refl _, Nat.le_add_right _ _, fun k hk => ?_, fun e => ?_, fun k e hk => ?_, ?_⟩
      · simp only at hk; omega
      · simp only [List.length_cons] at e; omega
      · simp only at e
        have : k = 0 := by omega
        subst this
        exact ⟨l, h, rfl, rfl, hf⟩
      · simp
    | none =>
      obtain ⟨h1, h2, h3, h4, h5, h6⟩ := ih
      refine ⟨by simp only; omega, by simp only [List.length_cons]; omega, fun k hk => ?_, fun e => ?_, fun k e hk => ?_, ?_⟩
      · cases k with
        | zero => exact ⟨l, h, rfl, rfl, hf⟩
        | succ k =>
          simp only at hk
          simpa using h3 k (by omega)
      · simp only [List.length_cons] at e
        exact h4 (by omega)
      · cases k with
        | zero => simp only at e; omega
        | succ k =>
          simp only at e
          simpa using h5 k (by omega) (by simpa using hk)
      · simp only
        have e : (askL ls hs t (i + 1)).1.2 - i = ((askL ls hs t (i + 1)).1.2 - (i + 1)) + 1 := by omega
        rw [e, List.replicate_succ, List.cons_append, List.drop_succ_cons, ← h6]
theorem ask_src {ls : List Int} {hs : List Ent} {t : Int} {p : Nat} (hl : ls.length = hs.length) (hp : p ≤ ls.length) :
    p ≤ (ask ls hs t p).1.2 ∧ (ask ls hs t p).1.2 ≤ ls.length ∧
    (∀ k, p ≤ k → k < (ask ls hs t p).1.2 → ∃ l h, ls[k]? = some l ∧ hs[k]? = some h ∧ fresh l h t = none) ∧
    ((ask ls hs t p).1.2 = ls.length → (ask ls hs t p).1.1 = t) ∧
    ((ask ls hs t p).1.2 < ls.length → ∃ l h, ls[(ask ls hs t p).1.2]? = some l ∧ hs[(ask ls hs t p).1.2]? = some h ∧ fresh l h t = some (ask ls hs t p).1.1) ∧
    (ask ls hs t p).2 = hs.take p ++ List.replicate ((ask ls hs t p).1.2 - p) (some ((ask ls hs t p).1.1, t)) ++ hs.drop (ask ls hs t p).1.2 := by
  obtain ⟨h1, h2, h3, h4, h5, h6⟩ := askL_src (ls.drop p) (hs.drop p) t p (by simp [hl])
  unfold ask
  simp only [List.length_drop] at h2 h4
  simp only
  refine ⟨h1, by omega, fun k hk hk2 => ?_, fun e => h4 (by omega), fun e => ?_, ?_⟩
  · obtain ⟨l, h, a, b, c⟩ := h3 (k - p) (by omega)
    rw [List.getElem?_drop] at a b
    exact ⟨l, h, by rw [← a]; congr 1; omega, by rw [← b]; congr 1; omega, c⟩
  · obtain ⟨l, h, a, b, c⟩ := h5 ((askL (ls.drop p) (hs.drop p) t p).1.2 - p) (by omega) (by simp; omega)
    rw [List.getElem?_drop] at a b
    exact ⟨l, h, by rw [← a]; congr 1; omega, by rw [← b]; congr 1; omega, c⟩
  · rw [h6, List.drop_drop, List.append_assoc]
    congr 3
    omega
theorem fresh_some {l : Int} {h : Ent} {t a : Int} (e : fresh l h t = some a) : ∃ s, h = some (a, s) ∧ t < s + l := by
  cases h with
  | none => cases e
  | some q =>
    obtain ⟨a', s⟩ := q
    unfold fresh at e
    simp only at e
    split at e
    · cases e
    · cases e
      exact ⟨s, rfl, by omega⟩
theorem fresh_none {l : Int} {h : Ent} {t : Int} (e : fresh l h t = none) : h = none ∨ ∃ a s, h = some (a, s) ∧ s + l ≤ t := by
  cases h with
  | none => exact .inl rfl
  | some q =>
    obtain ⟨a', s⟩ := q
    unfold fresh at e
    simp only at e
    split at e
    · exact .inr ⟨a', s, rfl, by assumption⟩
    · cases e
end St
set_option Elab.async false
set_option linter.all false
/-! A walk, read by read. -/
namespace St
open PySem
theorem walk_snoc (r : Row) : ∀ (s : Sch) (hs : List Ent) (x : Int × Nat), walk r hs (s ++ [x]) = ((walk r hs s).1 ++ [(ask r.ls (walk r hs s).2 x.1 (r.ps.getD x.2 0)).1], (ask r.ls (walk r hs s).2 x.1 (r.ps.getD x.2 0)).2)
  | [], hs, x => rfl
  | y :: s, hs, x => by
    rw [List.cons_append]
    unfold walk
    rw [walk_snoc r s]
    rfl
theorem walk_len (r : Row) : ∀ (s : Sch) (hs : List Ent), (walk r hs s).1.length = s.length ∧ (walk r hs s).2.length = hs.length
  | [], hs => ⟨rfl, rfl⟩
  | y :: s, hs => by
    obtain ⟨h1, h2⟩ := walk_len r s (ask r.ls hs y.1 (r.ps.getD y.2 0)).2
    unfold walk
    exact ⟨congrArg (· + 1) h1, h2.trans (ask_len _ _ _ _)⟩
theorem take_snoc {α : Type} {l : List α} {k : Nat} {x : α} (h : l[k]? = some x) : l.take (k + 1) = l.take k ++ [x] := by
  rw [List.take_add_one, h]
  rfl
theorem getD_of {α : Type} {l : List α} {k : Nat} {x d : α} (h : l[k]? = some x) : l.getD k d = x := by
  rw [List.getD_eq_getElem?_getD, h]
  rfl
theorem map_get {α β : Type} {l : List α} {f : α → β} {k : Nat} {y : β} (h : (l.map f)[k]? = some y) : ∃ x, l[k]? = some x ∧ y = f x := by
  rw [List.getElem?_map] at h
  cases hx : l[k]? with
  | none => rw [hx] at h; cases h
  | some x =>
    rw [hx] at h
    cases h
    exact ⟨x, rfl, rfl⟩
theorem tcD_mk (t : Int) (c : Nat) : tcD (t, c) = .tuple [.int t, .int (c : Int)] := rfl
theorem entD_some (a t : Int) : entD (some (a, t)) = .tuple [.int a, .int t] := rfl
theorem entD_none : entD none = .none := rfl
theorem get_lt {α : Type} {l : List α} {k : Nat} {x : α} (h : l[k]? = some x) : k < l.length := (List.getElem?_eq_some_iff.mp h).1
theorem get_at {α : Type} {l : List α} {k : Nat} (h : k < l.length) : ∃ x, l[k]? = some x := ⟨l[k], by simp [h]⟩
theorem get_mem {α : Type} {l : List α} {k : Nat} {x : α} (h : l[k]? = some x) : x ∈ l := List.mem_of_getElem? h
end St
set_option Elab.async false
set_option linter.all false
/-! Answers by one cache never go back; shifted times. -/
namespace St
open PySem
/-- what the caches hold up to T: times in order, the values growing upward -/
def Held (T : Int) (hs : List Ent) : Prop := ∀ (i : Nat) (a s : Int), hs[i]? = some (some (a, s)) → 0 ≤ a ∧ a ≤ s ∧ s ≤ T ∧ ∀ j : Nat, i ≤ j → j < hs.length → ∃ a' s', hs[j]? = some (some (a', s')) ∧ a ≤ a'
theorem held_empt (r : Row) : Held 0 (empt r) := fun i a s h => by
  unfold empt at h
  rw [List.getElem?_replicate] at h
  split at h <;> cases h
theorem ask_get {ls : List Int} {hs : List Ent} {t : Int} {p : Nat} (hl : ls.length = hs.length) (hp : p ≤ ls.length) (i : Nat) :
    (ask ls hs t p).2[i]? = if p ≤ i ∧ i < (ask ls hs t p).1.2 then some (some ((ask ls hs t p).1.1, t)) else hs[i]? := by
  obtain ⟨h1, h2, h3, h4, h5, h6⟩ := ask_src (t := t) hl hp
  rw [h6]
  have ht : (hs.take p).length = p := by simp; omega
  by_cases c1 : i < p
  · rw [if_neg (by omega), List.append_assoc, List.getElem?_append_left (by omega), List.getElem?_take_of_lt c1]
  · by_cases c2 : i < (ask ls hs t p).1.2
    · rw [if_pos ⟨by omega, c2⟩, List.getElem?_append_left (by simp; omega), List.getElem?_append_right (by omega), List.getElem?_replicate, if_pos (by omega)]
    · rw [if_neg (by omega), List.getElem?_append_right (by simp; omega), List.getElem?_drop]
      congr 1
      simp
      omega
theorem ask_held {ls : List Int} {hs : List Ent} {t T : Int} {p : Nat} (hl : ls.length = hs.length) (hp : p ≤ ls.length) (H : Held T hs) (hT : T ≤ t) (h0 : 0 ≤ t) :
    0 ≤ (ask ls hs t p).1.1 ∧ (ask ls hs t p).1.1 ≤ t ∧ (p = ls.length → (ask ls hs t p).1.1 = t) ∧ (p < ls.length → ∃ s, (ask ls hs t p).2[p]? = some (some ((ask ls hs t p).1.1, s))) ∧
    (∀ (i : Nat) (a s : Int), hs[i]? = some (some (a, s)) → ∃ a' s', (ask ls hs t p).2[i]? = some (some (a', s')) ∧ a ≤ a') ∧ Held t (ask ls hs t p).2 := by
  obtain ⟨h1, h2, h3, h4, h5, h6⟩ := ask_src (t := t) hl hp
  have hg := ask_get (t := t) hl hp
  have hlen := ask_len ls hs t p
  revert h1 h2 h3 h4 h5 hg hlen
  clear h6
  generalize ask ls hs t p = q
  obtain ⟨⟨ans, src⟩, hs'⟩ := q
  intro h1 h2 h3 h4 h5 hg hlen
  simp only at h1 h2 h3 h4 h5 hg hlen ⊢
  -- where the answer comes from
  have hsrc : (src = ls.length ∧ ans = t) ∨ (src < ls.length ∧ ∃ s, hs[src]? = some (some (ans, s))) := by
    by_cases c : src = ls.length
    · exact .inl ⟨c, h4 c⟩
    · obtain ⟨l, h, e1, e2, e3⟩ := h5 (by omega)
      obtain ⟨s, rfl, _⟩ := fresh_some e3
      exact .inr ⟨by omega, s, e2⟩
  have hans : 0 ≤ ans ∧ ans ≤ t := by
    rcases hsrc with ⟨_, rfl⟩ | ⟨_, s, e⟩
    · exact ⟨h0, Int.le_refl _⟩
    · obtain ⟨a, b, c, _⟩ := H _ _ _ e
      exact ⟨a, by omega⟩
  have up : ∀ (i : Nat) (a s : Int), hs[i]? = some (some (a, s)) → ∃ a' s', hs'[i]? = some (some (a', s')) ∧ a ≤ a' := fun i a s e => by
    rw [hg]
    by_cases c : p ≤ i ∧ i < src
    · rw [if_pos c]
      refine ⟨ans, t, rfl, ?_⟩
      obtain ⟨a0, a1, a2, a3⟩ := H _ _ _ e
      rcases hsrc with ⟨_, rfl⟩ | ⟨c2, s2, e2⟩
      · omega
      · obtain ⟨a', s', e3, e4⟩ := a3 src (by omega) (by omega)
        rw [e2] at e3
        cases e3
        exact e4
    · rw [if_neg c]
      exact ⟨a, s, e, Int.le_refl _⟩
  refine ⟨hans.1, hans.2, fun e => ?_, fun e => ?_, up, fun i a s e => ?_⟩
  · exact h4 (by omega)
  · rw [hg]
    by_cases c : p ≤ p ∧ p < src
    · rw [if_pos c]
      exact ⟨t, rfl⟩
    · rw [if_neg c]
      have : src = p := by omega
      subst this
      rcases hsrc with ⟨c2, _⟩ | ⟨_, s, e2⟩
      · omega
      · exact ⟨s, e2⟩
  · rw [hg] at e
    by_cases c : p ≤ i ∧ i < src
    · rw [if_pos c] at e
      cases e
      refine ⟨hans.1, hans.2, Int.le_refl _, fun j hj hj2 => ?_⟩
      by_cases c2 : j < src
      · rw [hg, if_pos ⟨by omega, c2⟩]
        exact ⟨_, _, rfl, Int.le_refl _⟩
      · rw [hg, if_neg (by omega)]
        rcases hsrc with ⟨c3, _⟩ | ⟨_, s2, e2⟩
        · omega
        · obtain ⟨_, _, _, a3⟩ := H _ _ _ e2
          exact a3 j (by omega) (by omega)
    · rw [if_neg c] at e
      obtain ⟨a0, a1, a2, a3⟩ := H _ _ _ e
      refine ⟨a0, a1, by omega, fun j hj hj2 => ?_⟩
      obtain ⟨a', s', e3, e4⟩ := a3 j hj (by omega)
      obtain ⟨a'', s'', e5, e6⟩ := up j a' s' e3
      exact ⟨a'', s'', e5, by omega⟩
theorem walk_get (r : Row) : ∀ (s : Sch) (hs : List Ent) (k : Nat) (x : Int × Nat), s[k]? = some x → (walk r hs s).1[k]? = some (ask r.ls (walk r hs (s.take k)).2 x.1 (r.ps.getD x.2 0)).1
  | [], _, _, _, h => by simp at h
  | y :: s, hs, 0, x, h => by
    have : y = x := by simpa using h
    subst this
    rfl
  | y :: s, hs, k + 1, x, h => by
    have ih := walk_get r s (ask r.ls hs y.1 (r.ps.getD y.2 0)).2 k x (by simpa using h)
    unfold walk
    rw [List.take_succ_cons]
    simpa using ih
/-! ### shifted times -/
def shE (m : Int) : Ent → Ent
  | some (a, t) => some (a + m, t + m)
  | none => none
def shift (m : Int) (s : Sch) : Sch := s.map fun x => (x.1 + m, x.2)
theorem fresh_sh (m l : Int) (h : Ent) (t : Int) : fresh l (shE m h) (t + m) = (fresh l h t).map (· + m) := by
  cases h with
  | none => rfl
  | some q =>
    obtain ⟨a, s⟩ := q
    unfold fresh shE
    simp only
    by_cases c : s + l ≤ t
    · rw [if_pos c, if_pos (by omega)]; rfl
    · rw [if_neg c, if_neg (by omega)]; rfl
theorem askL_sh (m : Int) : ∀ (ls : List Int) (hs : List Ent) (t : Int) (i : Nat), askL ls (hs.map (shE m)) (t + m) i = (((askL ls hs t i).1.1 + m, (askL ls hs t i).1.2), (askL ls hs t i).2.map (shE m))
  | [], hs, t, i => by cases hs <;> rfl
  | l :: ls, [], t, i => rfl
  | l :: ls, h :: hs, t, i => by
    rw [List.map_cons]
    unfold askL
    rw [fresh_sh]
    cases e : fresh l h t with
    | some a => simp
    | none =>
      simp only [Option.map_none]
      rw [askL_sh m ls hs t (i + 1)]
      simp [shE]
theorem ask_sh (m : Int) (ls : List Int) (hs : List Ent) (t : Int) (p : Nat) : ask ls (hs.map (shE m)) (t + m) p = (((ask ls hs t p).1.1 + m, (ask ls hs t p).1.2), (ask ls hs t p).2.map (shE m)) := by
  unfold ask
  rw [← List.map_drop, askL_sh, List.map_append, List.map_take]
theorem walk_sh (m : Int) (r : Row) : ∀ (s : Sch) (hs : List Ent), walk r (hs.map (shE m)) (shift m s) = ((walk r hs s).1.map fun x => (x.1 + m, x.2), (walk r hs s).2.map (shE m))
  | [], hs => rfl
  | x :: s, hs => by
    have e : shift m (x :: s) = (x.1 + m, x.2) :: shift m s := rfl
    rw [e]
    unfold walk
    simp only
    rw [ask_sh]
    simp only
    rw [walk_sh m r s]
    rfl
theorem empt_sh (m : Int) (r : Row) : (empt r).map (shE m) = empt r := by
  unfold empt
  rw [List.map_replicate]
  rfl
theorem answers_sh (m : Int) (r : Row) (s : Sch) : answers r (shift m s) = (answers r s).map (· + m) := by
  unfold answers
  rw [← empt_sh m r, walk_sh, empt_sh, List.map_map, List.map_map]
  rfl
theorem sources_sh (m : Int) (r : Row) (s : Sch) : sources r (shift m s) = sources r s := by
  unfold sources
  rw [← empt_sh m r, walk_sh, empt_sh, List.map_map]
  rfl
end St
set_option Elab.async false
set_option linter.all false
/-! Calls of a station, one by one, and the states they leave. -/
namespace St
open PySem
abbrev Cal := Int × Int × Nat
abbrev St3 := List Ent × List (Int × Int × Int) × Int
def stepC (r : Row) (s : St3) (c : Cal) : St3 :=
  if c.1 < 2 then ((ask r.ls s.1 c.2.1 (r.ps.getD c.2.2 0)).2, s.2.1 ++ [(c.2.1, (c.2.2 : Int), (ask r.ls s.1 c.2.1 (r.ps.getD c.2.2 0)).1.1)], c.2.1)
  else (s.1.set c.2.2 none, s.2.1, c.2.1)
def stOf (r : Row) (cs : List Cal) : St3 := cs.foldl (stepC r) (empt r, [], 0)
theorem stOf_nil (r : Row) : stOf r [] = (empt r, [], 0) := rfl
theorem stOf_snoc (r : Row) (cs : List Cal) (c : Cal) : stOf r (cs ++ [c]) = stepC r (stOf r cs) c := by
  unfold stOf
  rw [List.foldl_append]
  rfl
def pastOf (r : Row) (cs : List Cal) : List St3 := (List.range cs.length).map fun i => stOf r (cs.take i)
theorem pastOf_len (r : Row) (cs : List Cal) : (pastOf r cs).length = cs.length := by simp [pastOf]
theorem pastOf_snoc (r : Row) (cs : List Cal) (c : Cal) : pastOf r (cs ++ [c]) = pastOf r cs ++ [stOf r cs] := by
  unfold pastOf
  rw [List.length_append, List.length_singleton, List.range_succ, List.map_append, List.map_singleton]
  congr 1
  · refine List.map_congr_left fun i hi => ?_
    rw [List.mem_range] at hi
    rw [List.take_append_of_le_length (Nat.le_of_lt hi)]
  · rw [List.take_left]
theorem snoc_of {cs : List Cal} (h : cs ≠ []) : ∃ ds c, cs = ds ++ [c] := ⟨_, _, (List.dropLast_concat_getLast h).symm⟩
theorem snoc_ind {P : List Cal → Prop} (h0 : P []) (h1 : ∀ cs c, P cs → P (cs ++ [c])) : ∀ cs, P cs := fun cs => by
  have key : ∀ (n : Nat) (cs : List Cal), cs.length = n → P cs := by
    intro n
    induction n with
    | zero => intro cs h; rw [List.eq_nil_of_length_eq_zero h]; exact h0
    | succ n ih =>
      intro cs h
      obtain ⟨ds, c, rfl⟩ := snoc_of (cs := cs) (by intro z; rw [z] at h; cases h)
      rw [List.length_append, List.length_singleton] at h
      exact h1 ds c (ih ds (by omega))
  exact key _ cs rfl
theorem stepC_len (r : Row) (s : St3) (c : Cal) : (stepC r s c).1.length = s.1.length := by
  unfold stepC
  split
  · exact ask_len _ _ _ _
  · exact List.length_set ..
theorem stOf_len (r : Row) : ∀ cs : List Cal, (stOf r cs).1.length = r.ls.length := fun cs => by
  induction cs using snoc_ind with
  | h0 => simp [stOf_nil, empt]
  | h1 cs c ih => rw [stOf_snoc, stepC_len, ih]
theorem stOf_log (r : Row) : ∀ cs : List Cal, (stOf r cs).2.1.length ≤ cs.length := fun cs => by
  induction cs using snoc_ind with
  | h0 => simp [stOf_nil]
  | h1 cs c ih =>
    rw [stOf_snoc, List.length_append, List.length_singleton]
    unfold stepC
    split
    · simp only [List.length_append, List.length_singleton]; omega
    · simp only; omega
def lastT (cs : List Cal) : Int := match cs.getLast? with
  | some c => c.2.1
  | none => 0
theorem stOf_now (r : Row) (cs : List Cal) : (stOf r cs).2.2 = lastT cs := by
  induction cs using snoc_ind with
  | h0 => rfl
  | h1 cs c ih =>
    rw [stOf_snoc]
    unfold stepC lastT
    rw [List.getLast?_append, List.getLast?_singleton]
    split <;> rfl
/-- calls that a station of the row takes -/
def CalOk (r : Row) (cs : List Cal) : Prop := ∀ c ∈ cs, (c.1 < 2 → c.2.2 < r.ps.length) ∧ (¬ c.1 < 2 → c.2.2 < r.ls.length) ∧ 0 ≤ c.2.1
theorem CalOk.snoc {r : Row} {cs : List Cal} {c : Cal} (h : CalOk r cs) (h1 : c.1 < 2 → c.2.2 < r.ps.length) (h2 : ¬ c.1 < 2 → c.2.2 < r.ls.length) (h3 : 0 ≤ c.2.1) : CalOk r (cs ++ [c]) := fun x hx => by
  rcases List.mem_append.mp hx with hx | hx
  · exact h x hx
  · rw [List.mem_singleton] at hx
    rw [hx]
    exact ⟨h1, h2, h3⟩
theorem CalOk.init {r : Row} {cs : List Cal} (h : CalOk r cs) : CalOk r cs.dropLast := fun x hx => h x (by rw [List.dropLast_eq_take] at hx; exact List.mem_of_mem_take hx)
theorem lastT_nn {r : Row} {cs : List Cal} (h : CalOk r cs) : 0 ≤ lastT cs := by
  unfold lastT
  cases e : cs.getLast? with
  | none => exact Int.le_refl _
  | some c => exact (h c (List.mem_of_getLast? e)).2.2
theorem lastT_snoc (cs : List Cal) (c : Cal) : lastT (cs ++ [c]) = c.2.1 := by
  unfold lastT
  rw [List.getLast?_append, List.getLast?_singleton]
  rfl
end St
set_option Elab.async false
set_option linter.all false
set_option maxRecDepth 100000
set_option maxHeartbeats 4000000
namespace St
open PySem L2 Dl
/-! ### contracts -/
/-- what the program's reads ask for -/
structure Fit (r : Row) (s : Sch) : Prop where
  few : r.ls.length ≤ 100
  inn : ∀ p ∈ r.ps, p ≤ r.ls.length
  fewS : s.length ≤ 1000
  cl : ∀ x ∈ s, x.2 < r.ps.length
def natD (n : Nat) : PyData := .int (n : Int)
def ansD (x : Int × Nat) : PyData := .tuple [.int x.1, .int (x.2 : Int)]
def ct_read : CT := CT.mk 4 none fun ds Z => ∃ (r : Row) (es : List Ent) (t : Int) (c p : Nat), ds = [rowD r, .tuple (es.map entD), .int t, .int (c : Int)] ∧ r.ps[c]? = some p ∧ p ≤ r.ls.length ∧ es.length = r.ls.length ∧ r.ls.length ≤ 100 ∧
  Z (.fz (.tuple [.int (ask r.ls es t p).1.1, .int ((ask r.ls es t p).1.2 : Int), .tuple ((ask r.ls es t p).2.map entD)])) .none
def ct_empty : CT := CT.mk 1 none fun ds Z => ∃ r : Row, ds = [rowD r] ∧ r.ls.length ≤ 100 ∧ Z (.fz (.tuple ((empt r).map entD))) .none
def ct_run : CT := CT.mk 2 none fun ds Z => ∃ (r : Row) (s : Sch), ds = [rowD r, schD s] ∧ Fit r s ∧ Z (.np ((answers r s).map PyData.int) [.list ((sources r s).map natD), .tuple ((entries r s).map entD)]) .none
def ct_answers : CT := CT.mk 2 none fun ds Z => ∃ (r : Row) (s : Sch), ds = [rowD r, schD s] ∧ Fit r s ∧ Z (.nw (.list ((answers r s).map PyData.int))) .none
def ct_sources : CT := CT.mk 2 none fun ds Z => ∃ (r : Row) (s : Sch), ds = [rowD r, schD s] ∧ Fit r s ∧ Z (.fz (.list ((sources r s).map natD))) .none
def ct_entries : CT := CT.mk 2 none fun ds Z => ∃ (r : Row) (s : Sch), ds = [rowD r, schD s] ∧ Fit r s ∧ Z (.nw (.list ((entries r s).map entD))) .none
/-- the tape of a law -/
def TapeOk (d : PyData) : Prop := ∃ (ns : List Int) (i n : Int), d = tapeD ns i n ∧ 0 ≤ i ∧ 0 ≤ n ∧ ns.length ≤ 63
def ct_draw : CT := CT.mk 2 (some 0) fun ds Z => ∃ (tp : PyData) (many : Int), ds = [tp, .int many] ∧ TapeOk tp ∧ 0 < many ∧ many < 2 ^ 60 ∧ ∀ (r : Int) tp', 0 ≤ r → r < many → TapeOk tp' → Z (.fz (.int r)) tp'
/-- data that _law_like takes, n levels deep -/
def Likes : Nat → PyData → Prop
  | 0, _ => False
  | n + 1, .list ds => ds.length ≤ 1000 ∧ ∀ x ∈ ds, Likes n x
  | n + 1, .tuple ds => ds.length ≤ 1000 ∧ ∀ x ∈ ds, Likes n x
  | _ + 1, .none => True
  | _ + 1, .bool _ => True
  | _ + 1, .int _ => True
  | _ + 1, _ => False
def ct_like (n : Nat) : CT := CT.mk 2 none fun ds Z => ∃ a : PyData, ds = [a, a] ∧ Likes n a ∧ Z (.fz (.bool true)) .none
structure RowIn (c l k : Int) (r : Row) : Prop where
  ls : (r.ls.length : Int) ≤ c
  lo : ∀ x ∈ r.ls, 1 ≤ x
  hi : ∀ x ∈ r.ls, x ≤ l
  p0 : r.ps ≠ []
  p1 : (r.ps.length : Int) ≤ k
  inn : ∀ p ∈ r.ps, p ≤ r.ls.length
  up : r.ps.Pairwise (· ≤ ·)
def ct_row : CT := CT.mk 4 (some 0) fun ds Z => ∃ (tp : PyData) (c l k : Int), ds = [tp, .int c, .int l, .int k] ∧ TapeOk tp ∧ 0 ≤ c ∧ c ≤ 8 ∧ 1 ≤ l ∧ l ≤ 1000 ∧ 1 ≤ k ∧ k ≤ 5 ∧ ∀ r tp', RowIn c l k r → TapeOk tp' → Z (.fz (rowD r)) tp'
structure SchIn (n : Int) (r : Row) (s : Sch) : Prop where
  few : (s.length : Int) ≤ n
  cl : ∀ x ∈ s, x.2 < r.ps.length
  nn : ∀ x ∈ s, 0 ≤ x.1
  up : s.Pairwise (fun x y => x.1 ≤ y.1)
def ct_schedule : CT := CT.mk 4 (some 0) fun ds Z => ∃ (tp : PyData) (r : Row) (n w : Int), ds = [tp, rowD r, .int n, .int w] ∧ TapeOk tp ∧ r.ps ≠ [] ∧ r.ps.length ≤ 100 ∧ 0 ≤ n ∧ n ≤ 100 ∧ 1 ≤ w ∧ w ≤ 100 ∧ ∀ s tp', SchIn n r s → TapeOk tp' → Z (.fz (schD s)) tp'
def ct_near_schedule : CT := CT.mk 3 (some 0) fun ds Z => ∃ (tp : PyData) (r : Row) (n : Int), ds = [tp, rowD r, .int n] ∧ TapeOk tp ∧ r.ps ≠ [] ∧ r.ps.length ≤ 100 ∧ r.ls.length ≤ 100 ∧ (∀ l ∈ r.ls, 1 ≤ l) ∧ 0 ≤ n ∧ n ≤ 100 ∧ ∀ s tp', SchIn n r s → TapeOk tp' → Z (.fz (schD s)) tp'
def ct_ask (n : Nat) : CT := CT.mk 4 (some 1) fun ds Z => ∃ (r : Row) (hs : List Ent) (t : Int) (i : Nat), ds = [rowD r, .list (hs.map entD), .int t, .int (i : Int)] ∧ i ≤ r.ls.length ∧ r.ls.length < i + n ∧ hs.length = r.ls.length ∧ r.ls.length ≤ 100 ∧
  Z (.fz (ansD (ask r.ls hs t i).1)) (.list ((ask r.ls hs t i).2.map entD))
def ct_walk : CT := CT.mk 2 none fun ds Z => ∃ (r : Row) (s : Sch), ds = [rowD r, schD s] ∧ Fit r s ∧ r.ls.length ≤ 8 ∧ Z (.fz (.tuple [.list ((walk r (empt r) s).1.map ansD), .list ((walk r (empt r) s).2.map entD)])) .none
theorem ask_zero (ds : List PyData) (Z : Rs → PyData → Prop) (h : (ct_ask 0).pre ds Z) : False := by
  obtain ⟨r, hs, t, i, _, h1, h2, _⟩ := h
  omega
theorem like_zero (ds : List PyData) (Z : Rs → PyData → Prop) (h : (ct_like 0).pre ds Z) : False := by
  obtain ⟨a, _, h, _⟩ := h
  exact h
/-! the data reading unfolded as far as it goes -/
local macro_rules | `(tactic| walk_at "d") => `(tactic| simp (config := { decide := false }) only [dSeq, dAsg, dAsgO, dAppS, dApp, dSetS, dSet, dAug, dRet, dRetN, dDrop, dDPut, dDGet2, dDNewK, dDNewT, dIfS, dFor, dNext, dBreak, dCont, dOp1, dOp2, dTup, dLst, dCons, dNil, dC, dCB, dVar, dVarR, dIfE, dTest, dAnd, dOr, dNot, dAndV, dOrV, dNotV, dChain, dCall, dCallL, dCallIO, dIsi, dSl, dPart, dNoPart, dSeqI, dRng1, dRng2, dDGet2, dDNewK, dDNewT, dRng3, dEnum, dZip, stoAll, itemsD, Option.some.injEq, exists_eq_left', dYes, dIx0, dRetT, dgName, dgTup, dgCons, dgNil, oFdiv, oMod, oPow, oLt, oLe, oGt, oGe, cmpD,
  wipeD, restD, Option.getD_some, Option.getD_none, Int.zero_add, Int.toNat_natCast, isi_lt_lst, isi_lt_tup, isi_lt_non, isi_lt_bl, isi_lt_int, isi_lt_str, isi_int_non, isi_int_bl, isi_int_int, isi_int_str, isi_int_lst, isi_int_tup, isi_bl_non, isi_bl_bl, isi_bl_int, isi_bl_str, isi_bl_lst, isi_bl_tup, isi_tup_non, isi_tup_bl, isi_tup_int, isi_tup_str, isi_tup_lst, isi_tup_tup, oEq_int, oNe_int, oEq_bl, oNe_bl, eq_self, decide_true, ixN_31, ixN_32, atI_0, atI_1, atI_2, atI_3, oIx_tup, oIx_lst, oLen_tup, oLen_lst, oListOf_tup, oListOf_lst, oTupOf_tup, oTupOf_lst, oAdd_int, oAdd_tup, oAdd_lst, oMul_int, oMul_tup, oMul_lst, dI0_int, dI_int, oIs_non, oIs_bl, isN_non, isN_int, isN_tup, isN_lst, isN_bl, oNeg_int, oMin2_int, oMax2_int, oInt_int, oInt_bl, oSl_tup, oSl_lst, ends_fz, ends_nw, ends_np, ends_nx, ends_br, ends_fzi, ends_nwi, ends_bri, retD_br,
  List.getElem?_cons_zero, List.getElem?_cons_succ, List.set_cons_zero, List.set_cons_succ, List.length_cons, List.length_nil, List.length_map, List.map_cons, List.map_nil, List.length_append, dat_fz, dat_nw, dat_br, dat_np, sto_fz, sto_nw, sto_np, sto_br, stoAll, datAt, Sl.dat, Sl.own, Sl.with, ioSlot, stoBut, if_true, true_and, and_true, reduceCtorEq, Option.some.injEq, PyData.int.injEq, PyData.tuple.injEq, PyData.list.injEq, PyData.bool.injEq,  exists_eq_left', exists_eq_left, Bool.true_eq_false, Bool.false_eq_true, if_false, Bool.true_xor, Bool.false_xor, Bool.not_true, Bool.not_false,
  Nat.reduceAdd, Nat.reduceLeDiff, Nat.reduceEqDiff, Nat.reduceLT, Int.reduceNeg, Int.reduceLE, Int.reduceLT, Nat.zero_le, ne_eq, not_false_eq_true, List.cons_ne_nil, not_true_eq_false])
local macro_rules | `(tactic| walk_at "e") => `(tactic| simp (config := { decide := false }) only [dOp1, dOp2, dTup, dLst, dCons, dNil, dC, dCB, dVar, dVarR, dIfE, dTest, dAnd, dOr, dNot, dAndV, dOrV, dNotV, dChain, dCall, dCallL, dCallIO, dIsi, dSl, dPart, dNoPart, dSeqI, dRng1, dRng2, dDGet2, dDNewK, dDNewT, dRng3, dEnum, dZip, stoAll, itemsD, Option.some.injEq, exists_eq_left', dYes, dIx0, oFdiv, oMod, oPow, oLt, oLe, oGt, oGe, cmpD,
  wipeD, restD, Option.getD_some, Option.getD_none, Int.zero_add, Int.toNat_natCast, isi_lt_lst, isi_lt_tup, isi_lt_non, isi_lt_bl, isi_lt_int, isi_lt_str, isi_int_non, isi_int_bl, isi_int_int, isi_int_str, isi_int_lst, isi_int_tup, isi_bl_non, isi_bl_bl, isi_bl_int, isi_bl_str, isi_bl_lst, isi_bl_tup, isi_tup_non, isi_tup_bl, isi_tup_int, isi_tup_str, isi_tup_lst, isi_tup_tup, oEq_int, oNe_int, oEq_bl, oNe_bl, eq_self, decide_true, ixN_31, ixN_32, atI_0, atI_1, atI_2, atI_3, oIx_tup, oIx_lst, oLen_tup, oLen_lst, oListOf_tup, oListOf_lst, oTupOf_tup, oTupOf_lst, oAdd_int, oAdd_tup, oAdd_lst, oMul_int, oMul_tup, oMul_lst, dI0_int, dI_int, oIs_non, oIs_bl, isN_non, isN_int, isN_tup, isN_lst, isN_bl, oNeg_int, oMin2_int, oMax2_int, oInt_int, oInt_bl, oSl_tup, oSl_lst, ends_fz, ends_nw, ends_np, ends_nx, ends_br, ends_fzi, ends_nwi, ends_bri, retD_br,
  List.getElem?_cons_zero, List.getElem?_cons_succ, List.set_cons_zero, List.set_cons_succ, List.length_cons, List.length_nil, List.length_map, List.map_cons, List.map_nil, List.length_append, dat_fz, dat_nw, dat_br, dat_np, sto_fz, sto_nw, sto_np, sto_br, stoAll, datAt, Sl.dat, Sl.own, Sl.with, ioSlot, stoBut, if_true, true_and, and_true, reduceCtorEq, Option.some.injEq, PyData.int.injEq, PyData.tuple.injEq, PyData.list.injEq, PyData.bool.injEq,  exists_eq_left', exists_eq_left, Bool.true_eq_false, Bool.false_eq_true, if_false, Bool.true_xor, Bool.false_xor, Bool.not_true, Bool.not_false,
  Nat.reduceAdd, Nat.reduceLeDiff, Nat.reduceEqDiff, Nat.reduceLT, Int.reduceNeg, Int.reduceLE, Int.reduceLT, Nat.zero_le, ne_eq, not_false_eq_true, List.cons_ne_nil, not_true_eq_false])
def t_read (K : PySem.W.Frag) : TS := (tSeq (tAsg (tVar 0) (gTup K 2 (gCons (gName 4) (gCons (gName 5) gNil))))
  (tSeq (tAsg (tOp (rIx K) (tVar 5) (tVar 3)) (gName 6))
  (tSeq (tWhile (tAnd (tTest (tOp (rI0 fun i j => .bl (decide (i < j))) (tVar 6) (tCB (rLenU K) (tCons (tVar 4) tNil)))) (tOr (tTest (tOp rIsU (tOp (rIx K) (tVar 1) (tVar 6)) (tC .non))) (tTest (tOp (rI0 fun i j => .bl (decide (j ≤ i))) (tOp (rI0 fun i j => .int (i - j)) (tVar 2) (tOp (rIx K) (tOp (rIx K) (tVar 1) (tVar 6)) (tC (.int 1)))) (tOp (rIx K) (tVar 4) (tVar 6)))))) (tAug 6 (tC (.int 1)) (L2.ipI fun i j => i + j)))
  (tSeq (tAsg (tIf (tTest (tOp (rI0 fun i j => .bl (decide (i < j))) (tVar 6) (tCB (rLenU K) (tCons (tVar 4) tNil)))) (tOp (rIx K) (tOp (rIx K) (tVar 1) (tVar 6)) (tC (.int 0))) (tVar 2)) (gName 7))
  (tSeq (tAsg (tOp (rMulU K) (tTup (tCons (tTup (tCons (tVar 7) (tCons (tVar 2) tNil))) tNil)) (tOp (rI0 fun i j => .int (i - j)) (tVar 6) (tOp (rIx K) (tVar 5) (tVar 3)))) (gName 8))
  (tRet (tTup (tCons (tVar 7) (tCons (tVar 6) (tCons (tOp (rAddU K) (tOp (rAddU K) (tSl (rSlU K) (tVar 1) tNoPart (tPart (tOp (rIx K) (tVar 5) (tVar 3)))) (tVar 8)) (tSl (rSlU K) (tVar 1) (tPart (tVar 6)) tNoPart)) tNil))))))))))

def d_read : DS := (dSeq (dAsg (dVar 0) (dgTup 2 (dgCons (dgName 4) (dgCons (dgName 5) dgNil))))
  (dSeq (dAsg (dOp2 oIx (dVar 5) (dVar 3)) (dgName 6))
  (dSeq (dWhile (dAnd (dTest (dOp2 oLt (dVar 6) (dCB oLen (dCons (dVar 4) dNil)))) (dOr (dTest (dOp2 (oIs false) (dOp2 oIx (dVar 1) (dVar 6)) (dC .none))) (dTest (dOp2 oGe (dOp2 (dI0 fun i j => .int (i - j)) (dVar 2) (dOp2 oIx (dOp2 oIx (dVar 1) (dVar 6)) (dC (.int 1)))) (dOp2 oIx (dVar 4) (dVar 6)))))) (dAug 6 (fun i j => i + j) (dC (.int 1))))
  (dSeq (dAsg (dIfE (dTest (dOp2 oLt (dVar 6) (dCB oLen (dCons (dVar 4) dNil)))) (dOp2 oIx (dOp2 oIx (dVar 1) (dVar 6)) (dC (.int 0))) (dVar 2)) (dgName 7))
  (dSeq (dAsg (dOp2 oMul (dTup (dCons (dTup (dCons (dVar 7) (dCons (dVar 2) dNil))) dNil)) (dOp2 (dI0 fun i j => .int (i - j)) (dVar 6) (dOp2 oIx (dVar 5) (dVar 3)))) (dgName 8))
  (dRet (dTup (dCons (dVar 7) (dCons (dVar 6) (dCons (dOp2 oAdd (dOp2 oAdd (dSl (dVar 1) dNoPart (dPart (dOp2 oIx (dVar 5) (dVar 3)))) (dVar 8)) (dSl (dVar 1) (dPart (dVar 6)) dNoPart)) dNil))))))))))

theorem sim_read {K : PySem.W.Frag} : SimS (t_read K) d_read := (simS_seq (simS_asg simE_var (simG_tup (simGs_cons simG_name (simGs_cons simG_name simGs_nil))))
  (simS_seq (simS_asg (simE_op2 simR2_ix simE_var simE_var) simG_name)
  (simS_seq (simS_while (simT_and (simT_test (simE_op2 simR2_lt simE_var (simE_cb simRN_len (simA_cons simE_var simA_nil)))) (simT_or (simT_test (simE_op2 simR2_is (simE_op2 simR2_ix simE_var simE_var) (simE_c fun _ _ => .non))) (simT_test (simE_op2 simR2_ge (simE_op2 simR2_sub simE_var (simE_op2 simR2_ix (simE_op2 simR2_ix simE_var simE_var) (simE_c fun _ _ => .int _))) (simE_op2 simR2_ix simE_var simE_var))))) (simS_aug (simE_c fun _ _ => .int _)))
  (simS_seq (simS_asg (simE_if (simT_test (simE_op2 simR2_lt simE_var (simE_cb simRN_len (simA_cons simE_var simA_nil)))) (simE_op2 simR2_ix (simE_op2 simR2_ix simE_var simE_var) (simE_c fun _ _ => .int _)) simE_var) simG_name)
  (simS_seq (simS_asg (simE_op2 simR2_mul (simE_tup (simA_cons (simE_tup (simA_cons simE_var (simA_cons simE_var simA_nil))) simA_nil)) (simE_op2 simR2_sub simE_var (simE_op2 simR2_ix simE_var simE_var))) simG_name)
  (simS_ret (simE_tup (simA_cons simE_var (simA_cons simE_var (simA_cons (simE_op2 simR2_add (simE_op2 simR2_add (simE_sl simE_var simO_none (simO_some (simE_op2 simR2_ix simE_var simE_var))) simE_var) (simE_sl simE_var (simO_some simE_var) simO_none)) simA_nil))))))))))

def t_empty (K : PySem.W.Frag) : TS := (tRet (tOp (rMulU K) (tTup (tCons (tC .non) tNil)) (tCB (rLenU K) (tCons (tOp (rIx K) (tVar 0) (tC (.int 0))) tNil))))

def d_empty : DS := (dRet (dOp2 oMul (dTup (dCons (dC .none) dNil)) (dCB oLen (dCons (dOp2 oIx (dVar 0) (dC (.int 0))) dNil))))

theorem sim_empty {K : PySem.W.Frag} : SimS (t_empty K) d_empty := (simS_ret (simE_op2 simR2_mul (simE_tup (simA_cons (simE_c fun _ _ => .non) simA_nil)) (simE_cb simRN_len (simA_cons (simE_op2 simR2_ix simE_var (simE_c fun _ _ => .int _)) simA_nil))))

def t_run (K : PySem.W.Frag) : TS := (tSeq (tPar3 2 3 4 (tCons (tCall (spD ct_empty) [] E0 (tCons (tVar 0) tNil)) (tCons (tLst tNil) (tCons (tLst tNil) tNil))))
  (tSeq (tFor (iSeq K (tVar 1)) (gTup K 2 (gCons (gName 5) (gCons (gName 6) gNil))) (tSeq (tAsg (tCall (spD ct_read) [] E0 (tCons (tVar 0) (tCons (tVar 2) (tCons (tVar 5) (tCons (tVar 6) tNil))))) (gTup K 3 (gCons (gName 7) (gCons (gName 8) (gCons (gName 2) gNil)))))
  (tSeq (tDrop (tBM K "list" rAppend (tVar 3) (tCons (tVar 7) tNil)))
  (tDrop (tBM K "list" rAppend (tVar 4) (tCons (tVar 8) tNil))))))
  (tRet (tTup (tCons (tVar 3) (tCons (tVar 4) (tCons (tVar 2) tNil)))))))

def d_run : DS := (dSeq (dSeq (dAsg (dCall ct_empty (dCons (dVar 0) dNil)) (dgName 2)) (dSeq (dAsgO (dLst dNil) 3) (dAsgO (dLst dNil) 4)))
  (dSeq (dFor (dSeqI (dVar 1)) (dgTup 2 (dgCons (dgName 5) (dgCons (dgName 6) dgNil))) (dSeq (dAsg (dCall ct_read (dCons (dVar 0) (dCons (dVar 2) (dCons (dVar 5) (dCons (dVar 6) dNil))))) (dgTup 3 (dgCons (dgName 7) (dgCons (dgName 8) (dgCons (dgName 2) dgNil)))))
  (dSeq (dAppS 3 (dVar 7))
  (dAppS 4 (dVar 8)))))
  (dRetT 3 (dCons (dVarR 4) (dCons (dVar 2) dNil)))))

theorem sim_run {K : PySem.W.Frag} : SimS (t_run K) d_run := (simS_seq (simS_par3 (simS_seq (simS_asg (simE_call rfl (simA_cons simE_var simA_nil)) simG_name) (simS_seq (simS_asgO (i := 3) (simE_lst simA_nil)) (simS_asgO (i := 4) (simE_lst simA_nil)))) (ind_lst ind_nil) (ind_lst ind_nil) (ind_lst ind_nil))
  (simS_seq (simS_for (simI_seq simE_var) (simG_tup (simGs_cons simG_name (simGs_cons simG_name simGs_nil))) (simS_seq (simS_asg (simE_call rfl (simA_cons simE_var (simA_cons simE_var (simA_cons simE_var (simA_cons simE_var simA_nil))))) (simG_tup (simGs_cons simG_name (simGs_cons simG_name (simGs_cons simG_name simGs_nil)))))
  (simS_seq (simS_app simE_var)
  (simS_app simE_var))))
  (simS_retT (i := 3) (simA_cons simE_varR (simA_cons simE_var simA_nil)))))

def t_answers (K : PySem.W.Frag) : TS := (tRet (tOp (rIx K) (tCall (spD ct_run) [] E0 (tCons (tVar 0) (tCons (tVar 1) tNil))) (tC (.int 0))))

def d_answers : DS := (dRet (dIx0 (dCall ct_run (dCons (dVar 0) (dCons (dVar 1) dNil)))))

theorem sim_answers {K : PySem.W.Frag} : SimS (t_answers K) d_answers := (simS_ret (simE_ix0 (simE_call rfl (simA_cons simE_var (simA_cons simE_var simA_nil)))))

def t_sources (K : PySem.W.Frag) : TS := (tRet (tOp (rIx K) (tCall (spD ct_run) [] E0 (tCons (tVar 0) (tCons (tVar 1) tNil))) (tC (.int 1))))

def d_sources : DS := (dRet (dOp2 oIx (dCall ct_run (dCons (dVar 0) (dCons (dVar 1) dNil))) (dC (.int 1))))

theorem sim_sources {K : PySem.W.Frag} : SimS (t_sources K) d_sources := (simS_ret (simE_op2 simR2_ix (simE_call rfl (simA_cons simE_var (simA_cons simE_var simA_nil))) (simE_c fun _ _ => .int _)))

def t_entries (K : PySem.W.Frag) : TS := (tRet (tCB (rListOf K) (tCons (tOp (rIx K) (tCall (spD ct_run) [] E0 (tCons (tVar 0) (tCons (tVar 1) tNil))) (tC (.int 2))) tNil)))

def d_entries : DS := (dRet (dCB oListOf (dCons (dOp2 oIx (dCall ct_run (dCons (dVar 0) (dCons (dVar 1) dNil))) (dC (.int 2))) dNil)))

theorem sim_entries {K : PySem.W.Frag} : SimS (t_entries K) d_entries := (simS_ret (simE_cb simRN_listOf (simA_cons (simE_op2 simR2_ix (simE_call rfl (simA_cons simE_var (simA_cons simE_var simA_nil))) (simE_c fun _ _ => .int _)) simA_nil)))

def t_draw (K : PySem.W.Frag) : TS := (tSeq (tAsg (tC (.int 2305843009213693951)) (gName 2))
  (tSeq (tIfS (tTest (tOp (rI0 fun i j => .bl (decide (i < j))) (tOp (rIx K) (tVar 0) (tC (.int 2))) (tVar 1))) (tSeq (tAsg (tC (.int 0)) (gName 3))
  (tSeq (tIfS (tTest (tOp (rI0 fun i j => .bl (decide (j < i))) (tCB (rLenU K) (tCons (tOp (rIx K) (tVar 0) (tC (.int 0))) tNil)) (tC (.int 0)))) (tAsg (tOp (rIx K) (tOp (rIx K) (tVar 0) (tC (.int 0))) (tOp (rI (fun _ j => 0 < j) fun i j => .int (i % j)) (tOp (rIx K) (tVar 0) (tC (.int 1))) (tCB (rLenU K) (tCons (tOp (rIx K) (tVar 0) (tC (.int 0))) tNil)))) (gName 3)) tNext)
  (tSeq (tIfS (tOr (tTest (tOp (rI0 fun i j => .bl (decide (j ≤ i))) (tOp (rIx K) (tVar 0) (tC (.int 1))) (tCB (rLenU K) (tCons (tOp (rIx K) (tVar 0) (tC (.int 0))) tNil)))) (tTest (tOp (rI0 fun i j => .bl (decide (i < j))) (tVar 3) (tOp (rI CPow fun i j => .int (i ^ j.toNat)) (tC (.int 10)) (tC (.int 18)))))) (tSeq (tAsg (tOp (rI (fun _ j => 0 < j) fun i j => .int (i % j)) (tOp (rAddU K) (tVar 3) (tOp (rMulU K) (tC (.int 1000003)) (tOp (rIx K) (tVar 0) (tC (.int 1))))) (tVar 2)) (gName 3))
  (tSeq (tAsg (tOp (rI (fun _ j => 0 < j) fun i j => .int (i % j)) (tOp (rAddU K) (tOp (rAddU K) (tOp (rMulU K) (tVar 3) (tVar 3)) (tOp (rMulU K) (tC (.int 1181783497276652981)) (tVar 3))) (tC (.int 2049848353892358983))) (tVar 2)) (gName 3))
  (tAsg (tOp (rI (fun _ j => 0 < j) fun i j => .int (i % j)) (tOp (rAddU K) (tOp (rMulU K) (tVar 3) (tVar 3)) (tC (.int 1442695040888963407))) (tVar 2)) (gName 3)))) tNext)
  (tSeq (tAsg (tOp (rAddU K) (tOp (rIx K) (tVar 0) (tC (.int 1))) (tC (.int 1))) (gSub (tVar 0) (tC (.int 1)) rSetL))
  (tAsg (tVar 3) (gSub (tVar 0) (tC (.int 2)) rSetL)))))) tNext)
  (tSeq (tAsg (tOp (rI (fun _ j => 0 < j) fun i j => .int (i % j)) (tOp (rIx K) (tVar 0) (tC (.int 2))) (tVar 1)) (gName 4))
  (tSeq (tAsg (tOp (rI CDivW fun i j => .int (i / j)) (tOp (rIx K) (tVar 0) (tC (.int 2))) (tVar 1)) (gSub (tVar 0) (tC (.int 2)) rSetL))
  (tRet (tVar 4))))))

def d_draw : DS := (dSeq (dAsg (dC (.int 2305843009213693951)) (dgName 2))
  (dSeq (dIfS (dTest (dOp2 oLt (dOp2 oIx (dVar 0) (dC (.int 2))) (dVar 1))) (dSeq (dAsg (dC (.int 0)) (dgName 3))
  (dSeq (dIfS (dTest (dOp2 oGt (dCB oLen (dCons (dOp2 oIx (dVar 0) (dC (.int 0))) dNil)) (dC (.int 0)))) (dAsg (dOp2 oIx (dOp2 oIx (dVar 0) (dC (.int 0))) (dOp2 oMod (dOp2 oIx (dVar 0) (dC (.int 1))) (dCB oLen (dCons (dOp2 oIx (dVar 0) (dC (.int 0))) dNil)))) (dgName 3)) dNext)
  (dSeq (dIfS (dOr (dTest (dOp2 oGe (dOp2 oIx (dVar 0) (dC (.int 1))) (dCB oLen (dCons (dOp2 oIx (dVar 0) (dC (.int 0))) dNil)))) (dTest (dOp2 oLt (dVar 3) (dOp2 oPow (dC (.int 10)) (dC (.int 18)))))) (dSeq (dAsg (dOp2 oMod (dOp2 oAdd (dVar 3) (dOp2 oMul (dC (.int 1000003)) (dOp2 oIx (dVar 0) (dC (.int 1))))) (dVar 2)) (dgName 3))
  (dSeq (dAsg (dOp2 oMod (dOp2 oAdd (dOp2 oAdd (dOp2 oMul (dVar 3) (dVar 3)) (dOp2 oMul (dC (.int 1181783497276652981)) (dVar 3))) (dC (.int 2049848353892358983))) (dVar 2)) (dgName 3))
  (dAsg (dOp2 oMod (dOp2 oAdd (dOp2 oMul (dVar 3) (dVar 3)) (dC (.int 1442695040888963407))) (dVar 2)) (dgName 3)))) dNext)
  (dSeq (dSetS 0 (dOp2 oAdd (dOp2 oIx (dVar 0) (dC (.int 1))) (dC (.int 1))) (dC (.int 1)))
  (dSetS 0 (dVar 3) (dC (.int 2))))))) dNext)
  (dSeq (dAsg (dOp2 oMod (dOp2 oIx (dVar 0) (dC (.int 2))) (dVar 1)) (dgName 4))
  (dSeq (dSetS 0 (dOp2 oFdiv (dOp2 oIx (dVar 0) (dC (.int 2))) (dVar 1)) (dC (.int 2)))
  (dRet (dVar 4))))))

theorem sim_draw {K : PySem.W.Frag} : SimS (t_draw K) d_draw := (simS_seq (simS_asg (simE_c fun _ _ => .int _) simG_name)
  (simS_seq (simS_if (simT_test (simE_op2 simR2_lt (simE_op2 simR2_ix simE_var (simE_c fun _ _ => .int _)) simE_var)) (simS_seq (simS_asg (simE_c fun _ _ => .int _) simG_name)
  (simS_seq (simS_if (simT_test (simE_op2 simR2_gt (simE_cb simRN_len (simA_cons (simE_op2 simR2_ix simE_var (simE_c fun _ _ => .int _)) simA_nil)) (simE_c fun _ _ => .int _))) (simS_asg (simE_op2 simR2_ix (simE_op2 simR2_ix simE_var (simE_c fun _ _ => .int _)) (simE_op2 simR2_mod (simE_op2 simR2_ix simE_var (simE_c fun _ _ => .int _)) (simE_cb simRN_len (simA_cons (simE_op2 simR2_ix simE_var (simE_c fun _ _ => .int _)) simA_nil)))) simG_name) simS_next)
  (simS_seq (simS_if (simT_or (simT_test (simE_op2 simR2_ge (simE_op2 simR2_ix simE_var (simE_c fun _ _ => .int _)) (simE_cb simRN_len (simA_cons (simE_op2 simR2_ix simE_var (simE_c fun _ _ => .int _)) simA_nil)))) (simT_test (simE_op2 simR2_lt simE_var (simE_op2 simR2_pow (simE_c fun _ _ => .int _) (simE_c fun _ _ => .int _))))) (simS_seq (simS_asg (simE_op2 simR2_mod (simE_op2 simR2_add simE_var (simE_op2 simR2_mul (simE_c fun _ _ => .int _) (simE_op2 simR2_ix simE_var (simE_c fun _ _ => .int _)))) simE_var) simG_name)
  (simS_seq (simS_asg (simE_op2 simR2_mod (simE_op2 simR2_add (simE_op2 simR2_add (simE_op2 simR2_mul simE_var simE_var) (simE_op2 simR2_mul (simE_c fun _ _ => .int _) simE_var)) (simE_c fun _ _ => .int _)) simE_var) simG_name)
  (simS_asg (simE_op2 simR2_mod (simE_op2 simR2_add (simE_op2 simR2_mul simE_var simE_var) (simE_c fun _ _ => .int _)) simE_var) simG_name))) simS_next)
  (simS_seq (simS_set (i := 0) (simE_op2 simR2_add (simE_op2 simR2_ix simE_var (simE_c fun _ _ => .int _)) (simE_c fun _ _ => .int _)) (simE_c fun _ _ => .int _))
  (simS_set (i := 0) simE_var (simE_c fun _ _ => .int _)))))) simS_next)
  (simS_seq (simS_asg (simE_op2 simR2_mod (simE_op2 simR2_ix simE_var (simE_c fun _ _ => .int _)) simE_var) simG_name)
  (simS_seq (simS_set (i := 0) (simE_op2 simR2_fdiv (simE_op2 simR2_ix simE_var (simE_c fun _ _ => .int _)) simE_var) (simE_c fun _ _ => .int _))
  (simS_ret simE_var)))))

def t_like (K : PySem.W.Frag) (n : Nat) : TS := (tSeq (tIfS (tB (tCB (rIsiT K) (tCons (tVar 0) (tCons (tTup (tysA ["list", "tuple"])) tNil)))) (tSeq (tIfS (tOr (tTest (tOp (rNeD K) (tCB (rIsi K) (tCons (tVar 0) (tCons (tC (.ty "list")) tNil))) (tCB (rIsi K) (tCons (tVar 1) (tCons (tC (.ty "list")) tNil))))) (tTest (tOp (rNeD K) (tCB (rIsi K) (tCons (tVar 0) (tCons (tC (.ty "tuple")) tNil))) (tCB (rIsi K) (tCons (tVar 1) (tCons (tC (.ty "tuple")) tNil)))))) (tRet (tC (.bl false))) tNext)
  (tSeq (tIfS (tTest (tOp (rNeD K) (tCB (rLenU K) (tCons (tVar 0) tNil)) (tCB (rLenU K) (tCons (tVar 1) tNil)))) (tRet (tC (.bl false))) tNext)
  (tRet (tOp (rEqD K) (tLc (iRng1 (tCons (tCB (rLenU K) (tCons (tVar 0) tNil)) tNil)) (gName 2) (tNot (tB (tCall (spD (ct_like n)) [] E0 (tCons (tOp (rIx K) (tVar 0) (tVar 2)) (tCons (tOp (rIx K) (tVar 1) (tVar 2)) tNil))))) (tVar 2) [2]) (tLst tNil))))) tNext)
  (tSeq (tIfS (tB (tCB (rIsiT K) (tCons (tVar 1) (tCons (tTup (tysA ["list", "tuple"])) tNil)))) (tRet (tC (.bl false))) tNext)
  (tRet (tAndV (tOp (rEqD K) (tCB (rIsi K) (tCons (tVar 0) (tCons (tC (.ty "bool")) tNil))) (tCB (rIsi K) (tCons (tVar 1) (tCons (tC (.ty "bool")) tNil)))) (tOp (rEqD K) (tVar 0) (tVar 1))))))

def d_like (n : Nat) : DS := (dSeq (dIfS (dTest (dIsi ["list", "tuple"] (dVar 0))) (dSeq (dIfS (dOr (dTest (dOp2 oNe (dIsi ["list"] (dVar 0)) (dIsi ["list"] (dVar 1)))) (dTest (dOp2 oNe (dIsi ["tuple"] (dVar 0)) (dIsi ["tuple"] (dVar 1))))) (dRet (dC (.bool false))) dNext)
  (dSeq (dIfS (dTest (dOp2 oNe (dCB oLen (dCons (dVar 0) dNil)) (dCB oLen (dCons (dVar 1) dNil)))) (dRet (dC (.bool false))) dNext)
  (dRet (dOp2 oEq (dLc (dRng1 (dCons (dCB oLen (dCons (dVar 0) dNil)) dNil)) (dgName 2) (dNot (dTest (dCall (ct_like n) (dCons (dOp2 oIx (dVar 0) (dVar 2)) (dCons (dOp2 oIx (dVar 1) (dVar 2)) dNil))))) (dVar 2) [2]) (dLst dNil))))) dNext)
  (dSeq (dIfS (dTest (dIsi ["list", "tuple"] (dVar 1))) (dRet (dC (.bool false))) dNext)
  (dRet (dAndV (dOp2 oEq (dIsi ["bool"] (dVar 0)) (dIsi ["bool"] (dVar 1))) (dOp2 oEq (dVar 0) (dVar 1))))))

theorem sim_like {K : PySem.W.Frag} (n : Nat) : SimS (t_like K n) (d_like n) := (simS_seq (simS_if (simT_B (simE_isiT (by decide +kernel) (by decide) simE_var)) (simS_seq (simS_if (simT_or (simT_test (simE_op2 simR2_ne (simE_isi1 (by decide +kernel) simE_var) (simE_isi1 (by decide +kernel) simE_var))) (simT_test (simE_op2 simR2_ne (simE_isi1 (by decide +kernel) simE_var) (simE_isi1 (by decide +kernel) simE_var)))) (simS_ret (simE_c fun _ _ => .bl _)) simS_next)
  (simS_seq (simS_if (simT_test (simE_op2 simR2_ne (simE_cb simRN_len (simA_cons simE_var simA_nil)) (simE_cb simRN_len (simA_cons simE_var simA_nil)))) (simS_ret (simE_c fun _ _ => .bl _)) simS_next)
  (simS_ret (simE_op2 simR2_eq (simE_lc (simI_rng1 (simA_cons (simE_cb simRN_len (simA_cons simE_var simA_nil)) simA_nil)) simG_name (tg_name (by decide)) (simT_not (simT_B (simE_call rfl (simA_cons (simE_op2 simR2_ix simE_var simE_var) (simA_cons (simE_op2 simR2_ix simE_var simE_var) simA_nil))))) simE_var) (simE_lst simA_nil))))) simS_next)
  (simS_seq (simS_if (simT_B (simE_isiT (by decide +kernel) (by decide) simE_var)) (simS_ret (simE_c fun _ _ => .bl _)) simS_next)
  (simS_ret (simE_andV (simE_op2 simR2_eq (simE_isi1 (by decide +kernel) simE_var) (simE_isi1 (by decide +kernel) simE_var)) (simE_op2 simR2_eq simE_var simE_var)))))

def t_row (K : PySem.W.Frag) : TS := (tSeq (tAsg (tOp (rIx K) (tLst (tCons (tC (.int 3)) (tCons (tC (.int 9)) (tCons (tVar 2) tNil)))) (tCall (spD ct_draw) [] E0 (tCons (tVar 0) (tCons (tC (.int 3)) tNil)))) (gName 4))
  (tSeq (tAsg (tCB (rTupOf K) (tCons (tLc (iRng1 (tCons (tCall (spD ct_draw) [] E0 (tCons (tVar 0) (tCons (tOp (rAddU K) (tVar 1) (tC (.int 1))) tNil))) tNil)) (gName 7) tYes (tOp (rAddU K) (tC (.int 1)) (tCall (spD ct_draw) [] E0 (tCons (tVar 0) (tCons (tCB rMin2 (tCons (tVar 4) (tCons (tVar 2) tNil))) tNil)))) [7]) tNil)) (gName 5))
  (tSeq (tAsg (tLst tNil) (gName 6))
  (tSeq (tFor (iRng1 (tCons (tOp (rAddU K) (tC (.int 1)) (tCall (spD ct_draw) [] E0 (tCons (tVar 0) (tCons (tVar 3) tNil)))) tNil)) (gName 7) (tDrop (tBM K "list" rAppend (tVar 6) (tCons (tOp (rIx K) (tLst (tCons (tC (.int 0)) (tCons (tCall (spD ct_draw) [] E0 (tCons (tVar 0) (tCons (tOp (rAddU K) (tCB (rLenU K) (tCons (tVar 5) tNil)) (tC (.int 1))) tNil))) tNil))) (tCB rMin2 (tCons (tC (.int 1)) (tCons (tCall (spD ct_draw) [] E0 (tCons (tVar 0) (tCons (tC (.int 3)) tNil))) tNil)))) tNil))))
  (tRet (tTup (tCons (tVar 5) (tCons (tCB (rTupOf K) (tCons (tCB (rSortedI K) (tCons (tVar 6) tNil)) tNil)) tNil))))))))

def d_row : DS := (dSeq (dAsg (dOp2 oIx (dLst (dCons (dC (.int 3)) (dCons (dC (.int 9)) (dCons (dVar 2) dNil)))) (dCallIO ct_draw 0 (dCons (dVar 0) (dCons (dC (.int 3)) dNil)))) (dgName 4))
  (dSeq (dAsg (dCB oTupOf (dCons (dLc (dRng1 (dCons (dCallIO ct_draw 0 (dCons (dVar 0) (dCons (dOp2 oAdd (dVar 1) (dC (.int 1))) dNil))) dNil)) (dgName 7) dYes (dOp2 oAdd (dC (.int 1)) (dCallIO ct_draw 0 (dCons (dVar 0) (dCons (dCB oMin2 (dCons (dVar 4) (dCons (dVar 2) dNil))) dNil)))) [7]) dNil)) (dgName 5))
  (dSeq (dAsgO (dLst dNil) 6)
  (dSeq (dFor (dRng1 (dCons (dOp2 oAdd (dC (.int 1)) (dCallIO ct_draw 0 (dCons (dVar 0) (dCons (dVar 3) dNil)))) dNil)) (dgName 7) (dAppS 6 (dOp2 oIx (dLst (dCons (dC (.int 0)) (dCons (dCallIO ct_draw 0 (dCons (dVar 0) (dCons (dOp2 oAdd (dCB oLen (dCons (dVar 5) dNil)) (dC (.int 1))) dNil))) dNil))) (dCB oMin2 (dCons (dC (.int 1)) (dCons (dCallIO ct_draw 0 (dCons (dVar 0) (dCons (dC (.int 3)) dNil))) dNil))))))
  (dRet (dTup (dCons (dVar 5) (dCons (dCB oTupOf (dCons (dCB oSorted (dCons (dVar 6) dNil)) dNil)) dNil))))))))

theorem sim_row {K : PySem.W.Frag} : SimS (t_row K) d_row := (simS_seq (simS_asg (simE_op2 simR2_ix (simE_lst (simA_cons (simE_c fun _ _ => .int _) (simA_cons (simE_c fun _ _ => .int _) (simA_cons simE_var simA_nil)))) (simE_callIO (k := 0) rfl (simA_cons simE_var (simA_cons (simE_c fun _ _ => .int _) simA_nil)))) simG_name)
  (simS_seq (simS_asg (simE_cb simRN_tupOf (simA_cons (simE_lc (simI_rng1 (simA_cons (simE_callIO (k := 0) rfl (simA_cons simE_var (simA_cons (simE_op2 simR2_add simE_var (simE_c fun _ _ => .int _)) simA_nil))) simA_nil)) simG_name (tg_name (by decide)) simT_yes (simE_op2 simR2_add (simE_c fun _ _ => .int _) (simE_callIO (k := 0) rfl (simA_cons simE_var (simA_cons (simE_cb simRN_min2 (simA_cons simE_var (simA_cons simE_var simA_nil))) simA_nil))))) simA_nil)) simG_name)
  (simS_seq (simS_asgO (i := 6) (simE_lst simA_nil))
  (simS_seq (simS_for (simI_rng1 (simA_cons (simE_op2 simR2_add (simE_c fun _ _ => .int _) (simE_callIO (k := 0) rfl (simA_cons simE_var (simA_cons simE_var simA_nil)))) simA_nil)) simG_name (simS_app (simE_op2 simR2_ix (simE_lst (simA_cons (simE_c fun _ _ => .int _) (simA_cons (simE_callIO (k := 0) rfl (simA_cons simE_var (simA_cons (simE_op2 simR2_add (simE_cb simRN_len (simA_cons simE_var simA_nil)) (simE_c fun _ _ => .int _)) simA_nil))) simA_nil))) (simE_cb simRN_min2 (simA_cons (simE_c fun _ _ => .int _) (simA_cons (simE_callIO (k := 0) rfl (simA_cons simE_var (simA_cons (simE_c fun _ _ => .int _) simA_nil))) simA_nil))))))
  (simS_ret (simE_tup (simA_cons simE_var (simA_cons (simE_cb simRN_tupOf (simA_cons (simE_cb simRN_sorted (simA_cons simE_var simA_nil)) simA_nil)) simA_nil))))))))

def t_schedule (K : PySem.W.Frag) : TS := (tSeq (tPar 4 5 (tCons (tTup tNil) (tCons (tCall (spD ct_draw) [] E0 (tCons (tVar 0) (tCons (tC (.int 3)) tNil))) tNil)))
  (tSeq (tFor (iRng1 (tCons (tCall (spD ct_draw) [] E0 (tCons (tVar 0) (tCons (tOp (rAddU K) (tVar 2) (tC (.int 1))) tNil))) tNil)) (gName 6) (tSeq (tAsg (tOp (rAddU K) (tVar 4) (tTup (tCons (tTup (tCons (tVar 5) (tCons (tCall (spD ct_draw) [] E0 (tCons (tVar 0) (tCons (tCB (rLenU K) (tCons (tOp (rIx K) (tVar 1) (tC (.int 1))) tNil)) tNil))) tNil))) tNil))) (gName 4))
  (tAsg (tOp (rAddU K) (tVar 5) (tCall (spD ct_draw) [] E0 (tCons (tVar 0) (tCons (tVar 3) tNil)))) (gName 5))))
  (tRet (tVar 4))))

def d_schedule : DS := (dSeq (dSeq (dAsg (dTup dNil) (dgName 4)) (dAsg (dCallIO ct_draw 0 (dCons (dVar 0) (dCons (dC (.int 3)) dNil))) (dgName 5)))
  (dSeq (dFor (dRng1 (dCons (dCallIO ct_draw 0 (dCons (dVar 0) (dCons (dOp2 oAdd (dVar 2) (dC (.int 1))) dNil))) dNil)) (dgName 6) (dSeq (dAsg (dOp2 oAdd (dVar 4) (dTup (dCons (dTup (dCons (dVar 5) (dCons (dCallIO ct_draw 0 (dCons (dVar 0) (dCons (dCB oLen (dCons (dOp2 oIx (dVar 1) (dC (.int 1))) dNil)) dNil))) dNil))) dNil))) (dgName 4))
  (dAsg (dOp2 oAdd (dVar 5) (dCallIO ct_draw 0 (dCons (dVar 0) (dCons (dVar 3) dNil)))) (dgName 5))))
  (dRet (dVar 4))))

theorem sim_schedule {K : PySem.W.Frag} : SimS (t_schedule K) d_schedule := (simS_seq (simS_par (simS_seq (simS_asg (simE_tup simA_nil) simG_name) (simS_asg (simE_callIO (k := 0) rfl (simA_cons simE_var (simA_cons (simE_c fun _ _ => .int _) simA_nil))) simG_name)) (ind_call (ind_cons (ind_var (by decide)) (ind_cons ind_c ind_nil))))
  (simS_seq (simS_for (simI_rng1 (simA_cons (simE_callIO (k := 0) rfl (simA_cons simE_var (simA_cons (simE_op2 simR2_add simE_var (simE_c fun _ _ => .int _)) simA_nil))) simA_nil)) simG_name (simS_seq (simS_asg (simE_op2 simR2_add simE_var (simE_tup (simA_cons (simE_tup (simA_cons simE_var (simA_cons (simE_callIO (k := 0) rfl (simA_cons simE_var (simA_cons (simE_cb simRN_len (simA_cons (simE_op2 simR2_ix simE_var (simE_c fun _ _ => .int _)) simA_nil)) simA_nil))) simA_nil))) simA_nil))) simG_name)
  (simS_asg (simE_op2 simR2_add simE_var (simE_callIO (k := 0) rfl (simA_cons simE_var (simA_cons simE_var simA_nil)))) simG_name)))
  (simS_ret simE_var)))

def t_near_schedule (K : PySem.W.Frag) : TS := (tSeq (tAsg (tTup (tCons (tTup tNil) (tCons (tC (.int 0)) tNil))) (gTup K 2 (gCons (gName 3) (gCons (gName 4) gNil))))
  (tSeq (tFor (iRng1 (tCons (tCall (spD ct_draw) [] E0 (tCons (tVar 0) (tCons (tOp (rAddU K) (tVar 2) (tC (.int 1))) tNil))) tNil)) (gName 5) (tSeq (tAsg (tOp (rAddU K) (tVar 3) (tTup (tCons (tTup (tCons (tVar 4) (tCons (tCall (spD ct_draw) [] E0 (tCons (tVar 0) (tCons (tCB (rLenU K) (tCons (tOp (rIx K) (tVar 1) (tC (.int 1))) tNil)) tNil))) tNil))) tNil))) (gName 3))
  (tSeq (tAsg (tOp (rAddU K) (tOp (rAddU K) (tLst (tCons (tC (.int 0)) (tCons (tC (.int 1)) (tCons (tC (.int 1)) tNil)))) (tLc (iSeq K (tOp (rIx K) (tVar 1) (tC (.int 0)))) (gName 7) tYes (tOp (rI0 fun i j => .int (i - j)) (tVar 7) (tC (.int 1))) [7])) (tLc (iSeq K (tOp (rIx K) (tVar 1) (tC (.int 0)))) (gName 7) tYes (tVar 7) [7])) (gName 6))
  (tAsg (tOp (rAddU K) (tVar 4) (tOp (rIx K) (tVar 6) (tCall (spD ct_draw) [] E0 (tCons (tVar 0) (tCons (tCB (rLenU K) (tCons (tVar 6) tNil)) tNil))))) (gName 4)))))
  (tRet (tVar 3))))

def d_near_schedule : DS := (dSeq (dAsg (dTup (dCons (dTup dNil) (dCons (dC (.int 0)) dNil))) (dgTup 2 (dgCons (dgName 3) (dgCons (dgName 4) dgNil))))
  (dSeq (dFor (dRng1 (dCons (dCallIO ct_draw 0 (dCons (dVar 0) (dCons (dOp2 oAdd (dVar 2) (dC (.int 1))) dNil))) dNil)) (dgName 5) (dSeq (dAsg (dOp2 oAdd (dVar 3) (dTup (dCons (dTup (dCons (dVar 4) (dCons (dCallIO ct_draw 0 (dCons (dVar 0) (dCons (dCB oLen (dCons (dOp2 oIx (dVar 1) (dC (.int 1))) dNil)) dNil))) dNil))) dNil))) (dgName 3))
  (dSeq (dAsg (dOp2 oAdd (dOp2 oAdd (dLst (dCons (dC (.int 0)) (dCons (dC (.int 1)) (dCons (dC (.int 1)) dNil)))) (dLc (dSeqI (dOp2 oIx (dVar 1) (dC (.int 0)))) (dgName 7) dYes (dOp2 (dI0 fun i j => .int (i - j)) (dVar 7) (dC (.int 1))) [7])) (dLc (dSeqI (dOp2 oIx (dVar 1) (dC (.int 0)))) (dgName 7) dYes (dVar 7) [7])) (dgName 6))
  (dAsg (dOp2 oAdd (dVar 4) (dOp2 oIx (dVar 6) (dCallIO ct_draw 0 (dCons (dVar 0) (dCons (dCB oLen (dCons (dVar 6) dNil)) dNil))))) (dgName 4)))))
  (dRet (dVar 3))))

theorem sim_near_schedule {K : PySem.W.Frag} : SimS (t_near_schedule K) d_near_schedule := (simS_seq (simS_asg (simE_tup (simA_cons (simE_tup simA_nil) (simA_cons (simE_c fun _ _ => .int _) simA_nil))) (simG_tup (simGs_cons simG_name (simGs_cons simG_name simGs_nil))))
  (simS_seq (simS_for (simI_rng1 (simA_cons (simE_callIO (k := 0) rfl (simA_cons simE_var (simA_cons (simE_op2 simR2_add simE_var (simE_c fun _ _ => .int _)) simA_nil))) simA_nil)) simG_name (simS_seq (simS_asg (simE_op2 simR2_add simE_var (simE_tup (simA_cons (simE_tup (simA_cons simE_var (simA_cons (simE_callIO (k := 0) rfl (simA_cons simE_var (simA_cons (simE_cb simRN_len (simA_cons (simE_op2 simR2_ix simE_var (simE_c fun _ _ => .int _)) simA_nil)) simA_nil))) simA_nil))) simA_nil))) simG_name)
  (simS_seq (simS_asg (simE_op2 simR2_add (simE_op2 simR2_add (simE_lst (simA_cons (simE_c fun _ _ => .int _) (simA_cons (simE_c fun _ _ => .int _) (simA_cons (simE_c fun _ _ => .int _) simA_nil)))) (simE_lc (simI_seq (simE_op2 simR2_ix simE_var (simE_c fun _ _ => .int _))) simG_name (tg_name (by decide)) simT_yes (simE_op2 simR2_sub simE_var (simE_c fun _ _ => .int _)))) (simE_lc (simI_seq (simE_op2 simR2_ix simE_var (simE_c fun _ _ => .int _))) simG_name (tg_name (by decide)) simT_yes simE_var)) simG_name)
  (simS_asg (simE_op2 simR2_add simE_var (simE_op2 simR2_ix simE_var (simE_callIO (k := 0) rfl (simA_cons simE_var (simA_cons (simE_cb simRN_len (simA_cons simE_var simA_nil)) simA_nil))))) simG_name))))
  (simS_ret simE_var)))

def t_ask (K : PySem.W.Frag) (n : Nat) : TS := (tSeq (tIfS (tTest (tOp (rEqD K) (tVar 3) (tCB (rLenU K) (tCons (tOp (rIx K) (tVar 0) (tC (.int 0))) tNil)))) (tRet (tTup (tCons (tVar 2) (tCons (tVar 3) tNil)))) tNext)
  (tSeq (tIfS (tOr (tTest (tOp rIsU (tOp (rIx K) (tVar 1) (tVar 3)) (tC .non))) (tTest (tOp (rI0 fun i j => .bl (decide (i ≤ j))) (tOp (rAddU K) (tOp (rIx K) (tOp (rIx K) (tVar 1) (tVar 3)) (tC (.int 1))) (tOp (rIx K) (tOp (rIx K) (tVar 0) (tC (.int 0))) (tVar 3))) (tVar 2)))) (tSeq (tAsg (tCall (spD (ct_ask n)) [] E0 (tCons (tVar 0) (tCons (tVar 1) (tCons (tVar 2) (tCons (tOp (rAddU K) (tVar 3) (tC (.int 1))) tNil))))) (gName 4))
  (tSeq (tAsg (tTup (tCons (tOp (rIx K) (tVar 4) (tC (.int 0))) (tCons (tVar 2) tNil))) (gSub (tVar 1) (tVar 3) rSetL))
  (tRet (tVar 4)))) tNext)
  (tRet (tTup (tCons (tOp (rIx K) (tOp (rIx K) (tVar 1) (tVar 3)) (tC (.int 0))) (tCons (tVar 3) tNil))))))

def d_ask (n : Nat) : DS := (dSeq (dIfS (dTest (dOp2 oEq (dVar 3) (dCB oLen (dCons (dOp2 oIx (dVar 0) (dC (.int 0))) dNil)))) (dRet (dTup (dCons (dVar 2) (dCons (dVar 3) dNil)))) dNext)
  (dSeq (dIfS (dOr (dTest (dOp2 (oIs false) (dOp2 oIx (dVar 1) (dVar 3)) (dC .none))) (dTest (dOp2 oLe (dOp2 oAdd (dOp2 oIx (dOp2 oIx (dVar 1) (dVar 3)) (dC (.int 1))) (dOp2 oIx (dOp2 oIx (dVar 0) (dC (.int 0))) (dVar 3))) (dVar 2)))) (dSeq (dAsg (dCallIO (ct_ask n) 1 (dCons (dVar 0) (dCons (dVar 1) (dCons (dVar 2) (dCons (dOp2 oAdd (dVar 3) (dC (.int 1))) dNil))))) (dgName 4))
  (dSeq (dSetS 1 (dTup (dCons (dOp2 oIx (dVar 4) (dC (.int 0))) (dCons (dVar 2) dNil))) (dVar 3))
  (dRet (dVar 4)))) dNext)
  (dRet (dTup (dCons (dOp2 oIx (dOp2 oIx (dVar 1) (dVar 3)) (dC (.int 0))) (dCons (dVar 3) dNil))))))

theorem sim_ask {K : PySem.W.Frag} (n : Nat) : SimS (t_ask K n) (d_ask n) := (simS_seq (simS_if (simT_test (simE_op2 simR2_eq simE_var (simE_cb simRN_len (simA_cons (simE_op2 simR2_ix simE_var (simE_c fun _ _ => .int _)) simA_nil)))) (simS_ret (simE_tup (simA_cons simE_var (simA_cons simE_var simA_nil)))) simS_next)
  (simS_seq (simS_if (simT_or (simT_test (simE_op2 simR2_is (simE_op2 simR2_ix simE_var simE_var) (simE_c fun _ _ => .non))) (simT_test (simE_op2 simR2_le (simE_op2 simR2_add (simE_op2 simR2_ix (simE_op2 simR2_ix simE_var simE_var) (simE_c fun _ _ => .int _)) (simE_op2 simR2_ix (simE_op2 simR2_ix simE_var (simE_c fun _ _ => .int _)) simE_var)) simE_var))) (simS_seq (simS_asg (simE_callIO (k := 1) rfl (simA_cons simE_var (simA_cons simE_var (simA_cons simE_var (simA_cons (simE_op2 simR2_add simE_var (simE_c fun _ _ => .int _)) simA_nil))))) simG_name)
  (simS_seq (simS_set (i := 1) (simE_tup (simA_cons (simE_op2 simR2_ix simE_var (simE_c fun _ _ => .int _)) (simA_cons simE_var simA_nil))) simE_var)
  (simS_ret simE_var))) simS_next)
  (simS_ret (simE_tup (simA_cons (simE_op2 simR2_ix (simE_op2 simR2_ix simE_var simE_var) (simE_c fun _ _ => .int _)) (simA_cons simE_var simA_nil))))))

def t_walk (K : PySem.W.Frag) : TS := (tSeq (tPar 2 3 (tCons (tOp (rMulU K) (tLst (tCons (tC .non) tNil)) (tCB (rLenU K) (tCons (tOp (rIx K) (tVar 0) (tC (.int 0))) tNil))) (tCons (tLst tNil) tNil)))
  (tSeq (tFor (iSeq K (tVar 1)) (gTup K 2 (gCons (gName 4) (gCons (gName 5) gNil))) (tDrop (tBM K "list" rAppend (tVar 3) (tCons (tCall (spD (ct_ask 9)) [] E0 (tCons (tVar 0) (tCons (tVar 2) (tCons (tVar 4) (tCons (tOp (rIx K) (tOp (rIx K) (tVar 0) (tC (.int 1))) (tVar 5)) tNil))))) tNil))))
  (tRet (tTup (tCons (tVar 3) (tCons (tVar 2) tNil))))))

def d_walk : DS := (dSeq (dSeq (dAsgO (dOp2 oMul (dLst (dCons (dC .none) dNil)) (dCB oLen (dCons (dOp2 oIx (dVar 0) (dC (.int 0))) dNil))) 2) (dAsgO (dLst dNil) 3))
  (dSeq (dFor (dSeqI (dVar 1)) (dgTup 2 (dgCons (dgName 4) (dgCons (dgName 5) dgNil))) (dAppS 3 (dCallIO (ct_ask 9) 1 (dCons (dVar 0) (dCons (dVar 2) (dCons (dVar 4) (dCons (dOp2 oIx (dOp2 oIx (dVar 0) (dC (.int 1))) (dVar 5)) dNil)))))))
  (dRet (dTup (dCons (dVarR 3) (dCons (dVarR 2) dNil))))))

theorem sim_walk {K : PySem.W.Frag} : SimS (t_walk K) d_walk := (simS_seq (simS_par (simS_seq (simS_asgO (i := 2) (simE_op2 simR2_mul (simE_lst (simA_cons (simE_c fun _ _ => .non) simA_nil)) (simE_cb simRN_len (simA_cons (simE_op2 simR2_ix simE_var (simE_c fun _ _ => .int _)) simA_nil)))) (simS_asgO (i := 3) (simE_lst simA_nil))) (ind_lst ind_nil))
  (simS_seq (simS_for (simI_seq simE_var) (simG_tup (simGs_cons simG_name (simGs_cons simG_name simGs_nil))) (simS_app (simE_callIO (k := 1) rfl (simA_cons simE_var (simA_cons simE_var (simA_cons simE_var (simA_cons (simE_op2 simR2_ix (simE_op2 simR2_ix simE_var (simE_c fun _ _ => .int _)) simE_var) simA_nil)))))))
  (simS_ret (simE_tup (simA_cons simE_varR (simA_cons simE_varR simA_nil))))))

theorem law_empty (ds : List PyData) (Z : Rs → PyData → Prop) (hl : ds.length = ct_empty.n) (h : ct_empty.pre ds Z) : d_empty (endsD ct_empty.io Z) (startD 1 ct_empty.io ds) := by
  obtain ⟨r, rfl, hn, hZ⟩ := h
  show d_empty (endsD none Z) [some (.fz (rowD r))]
  unfold rowD intsT natsT d_empty
  walk_at "d"
  refine ⟨by omega, by omega, ?_⟩
  have e : (List.replicate r.ls.length [PyData.none]).flatten = (empt r).map entD := by
    unfold empt
    rw [List.map_replicate]
    rw [rep1]
    rfl
  rw [e]
  exact hZ
theorem law_read (ds : List PyData) (Z : Rs → PyData → Prop) (hl : ds.length = ct_read.n) (h : ct_read.pre ds Z) : d_read (endsD ct_read.io Z) (startD 9 ct_read.io ds) := by
  obtain ⟨r, es, t, c, p, rfl, h1, h2, h3, h4, hZ⟩ := h
  show d_read (endsD none Z) [some (.fz (rowD r)), some (.fz (.tuple (es.map entD))), some (.fz (.int t)), some (.fz (.int (c : Int))), none, none, none, none, none]
  unfold rowD intsT natsT d_read
  walk_at "d"
  refine ⟨_, atI_map h1, ?_⟩
  obtain ⟨a1, a2, a3, a4, a5, a6⟩ := ask_src (t := t) h3.symm h2
  revert a1 a2 a3 a4 a5 a6 hZ
  generalize (ask r.ls es t p).1.2 = s
  generalize (ask r.ls es t p).1.1 = a
  generalize (ask r.ls es t p).2 = es'
  intro hZ a1 a2 a3 a4 a5 a6
  refine dWhile_seq (fun k => [some (Sl.fz (PyData.tuple [PyData.tuple (List.map PyData.int r.ls), PyData.tuple (List.map (fun n : Nat => PyData.int (n : Int)) r.ps)])), some (Sl.fz (PyData.tuple (List.map entD es))), some (Sl.fz (PyData.int t)), some (Sl.fz (PyData.int (c : Int))), some (Sl.fz (PyData.tuple (List.map PyData.int r.ls))),
      some (Sl.fz (PyData.tuple (List.map (fun n : Nat => PyData.int (n : Int)) r.ps))), some (Sl.fz (PyData.int ((p + k : Nat) : Int))), none, none]) (s - p) rfl (fun k hk W hW => ?_) fun W => ?_
  · obtain ⟨l, h, e1, e2, e3⟩ := a3 (p + k) (by omega) (by omega)
    walk_at "d"
    rw [if_pos (decide_eq_true (by omega))]
    refine ⟨_, atI_map e2, ?_⟩
    rcases fresh_none e3 with e | ⟨x, y, e, hxy⟩
    · subst e
      simp only [entD]
      walk_at "d"
      exact hW
    · subst e
      simp only [entD]
      walk_at "d"
      refine ⟨_, atI_map e2, ?_⟩
      simp only [entD]
      walk_at "d"
      refine ⟨_, atI_map e1, ?_⟩
      walk_at "d"
      rw [if_pos (decide_eq_true (by omega))]
      exact hW
  · have eps : p + (s - p) = s := by omega
    walk_at "d"
    rw [eps]
    by_cases hs : s < r.ls.length
    rw [if_pos (decide_eq_true (by omega))]
    obtain ⟨l, h, e1, e2, e3⟩ := a5 hs
    obtain ⟨y, rfl, hy⟩ := fresh_some e3
    refine ⟨_, atI_map e2, ?_⟩
    simp only [entD]
    walk_at "d"
    refine ⟨_, atI_map e2, ?_⟩
    simp only [entD]
    walk_at "d"
    refine ⟨_, atI_map e1, ?_⟩
    walk_at "d"
    rw [if_neg (by rw [decide_eq_false (by omega)]; exact Bool.false_ne_true)]
    rw [if_pos (decide_eq_true (by omega))]
    refine ⟨_, atI_map e2, ?_⟩
    simp only [entD]
    walk_at "d"
    rotate_left
    rw [if_neg (by rw [decide_eq_false (by omega)]; exact Bool.false_ne_true)]
    rw [if_neg (by rw [decide_eq_false (by omega)]; exact Bool.false_ne_true)]
    have ea := a4 (by omega)
    subst ea
    all_goals
      refine ⟨_, atI_map h1, ?_⟩
      walk_at "d"
      refine ⟨by omega, by omega, ?_⟩
      refine ⟨_, atI_map h1, ?_⟩
      walk_at "d"
      rw [cut_to _ (by simp; omega), cut_from, rep1, show ((s : Int) - (p : Int)).toNat = s - p by omega]
      refine ⟨by simp; omega, by simp; omega, ?_⟩
      rw [a6] at hZ
      simpa [entD] using hZ
theorem law_run (ds : List PyData) (Z : Rs → PyData → Prop) (hl : ds.length = ct_run.n) (h : ct_run.pre ds Z) : d_run (endsD ct_run.io Z) (startD 9 ct_run.io ds) := by
  obtain ⟨r, s, rfl, F, hZ⟩ := h
  show d_run (endsD none Z) [some (.fz (rowD r)), some (.fz (schD s)), none, none, none, none, none, none, none]
  unfold d_run
  walk_at "d"
  refine ⟨rfl, r, rfl, F.few, ?_⟩
  walk_at "d"
  unfold schD
  walk_at "d"
  refine loopD_inv (fun k ρ => ∃ a b c d, ρ = [some (.fz (rowD r)), some (.fz (.tuple (s.map tcD))), some (.fz (.tuple ((walk r (empt r) (s.take k)).2.map entD))), some (.ow (.list ((walk r (empt r) (s.take k)).1.map fun x => PyData.int x.1))), some (.ow (.list ((walk r (empt r) (s.take k)).1.map fun x => PyData.int (x.2 : Int)))), a, b, c, d])
    ⟨none, none, none, none, rfl⟩ (fun k x ρ W hx I hW => ?_) fun ρ I => ?_
  · obtain ⟨a, b, c, d, rfl⟩ := I
    obtain ⟨⟨t, cl⟩, hs, rfl⟩ := map_get hx
    rw [tcD_mk]
    walk_at "d"
    have hc := F.cl _ (get_mem hs)
    obtain ⟨p, hp⟩ := get_at hc
    have hk := get_lt hs
    have hlen := F.fewS
    have hw := walk_len r (s.take k) (empt r)
    have hk2 : (s.take k).length = k := by simp; omega
    refine ⟨rfl, r, (walk r (empt r) (s.take k)).2, t, cl, p, rfl, hp, F.inn p (get_mem hp), by rw [hw.2]; simp [empt], F.few, ?_⟩
    walk_at "d"
    refine ⟨⟨_, _, rfl, rfl, rfl⟩, by rw [hw.1]; omega, ⟨_, _, rfl, rfl, rfl⟩, by rw [hw.1]; omega, ?_⟩
    rw [take_snoc hs, walk_snoc, getD_of hp] at hW
    simp only [List.map_append, List.map_cons, List.map_nil] at hW
    exact hW _ ⟨_, _, _, _, rfl⟩
  · obtain ⟨a, b, c, d, rfl⟩ := I
    rw [List.length_map, List.take_length]
    walk_at "d"
    refine ⟨fun _ => trivial, ?_⟩
    have e1 : (answers r s).map PyData.int = (walk r (empt r) s).1.map fun x => PyData.int x.1 := by unfold answers; rw [List.map_map]; rfl
    have e2 : (sources r s).map natD = (walk r (empt r) s).1.map fun x => PyData.int (x.2 : Int) := by unfold sources; rw [List.map_map]; rfl
    rw [e1, e2] at hZ
    exact hZ
theorem law_answers (ds : List PyData) (Z : Rs → PyData → Prop) (hl : ds.length = ct_answers.n) (h : ct_answers.pre ds Z) : d_answers (endsD ct_answers.io Z) (startD 2 ct_answers.io ds) := by
  obtain ⟨r, s, rfl, F, hZ⟩ := h
  show d_answers (endsD none Z) [some (.fz (rowD r)), some (.fz (schD s))]
  unfold d_answers
  walk_at "d"
  exact ⟨rfl, r, s, rfl, F, hZ⟩
theorem law_sources (ds : List PyData) (Z : Rs → PyData → Prop) (hl : ds.length = ct_sources.n) (h : ct_sources.pre ds Z) : d_sources (endsD ct_sources.io Z) (startD 2 ct_sources.io ds) := by
  obtain ⟨r, s, rfl, F, hZ⟩ := h
  show d_sources (endsD none Z) [some (.fz (rowD r)), some (.fz (schD s))]
  unfold d_sources
  walk_at "d"
  refine ⟨rfl, r, s, rfl, F, ?_⟩
  walk_at "d"
  exact hZ
theorem law_entries (ds : List PyData) (Z : Rs → PyData → Prop) (hl : ds.length = ct_entries.n) (h : ct_entries.pre ds Z) : d_entries (endsD ct_entries.io Z) (startD 2 ct_entries.io ds) := by
  obtain ⟨r, s, rfl, F, hZ⟩ := h
  show d_entries (endsD none Z) [some (.fz (rowD r)), some (.fz (schD s))]
  unfold d_entries
  walk_at "d"
  refine ⟨rfl, r, s, rfl, F, ?_⟩
  walk_at "d"
  exact hZ
theorem law_draw (ds : List PyData) (Z : Rs → PyData → Prop) (hl : ds.length = ct_draw.n) (h : ct_draw.pre ds Z) : d_draw (endsD ct_draw.io Z) (startD 5 ct_draw.io ds) := by
  obtain ⟨tp, many, rfl, ⟨ns, i, n, rfl, hi, hn, hlen⟩, h1, h2, hZ⟩ := h
  show d_draw (endsD (some 0) Z) [some (.io (tapeD ns i n)), some (.fz (.int many)), none, none, none]
  unfold d_draw
  refine dSeq_by (fun ρ => ρ = [some (.io (tapeD ns i n)), some (.fz (.int many)), some (.fz (.int 2305843009213693951)), none, none]) (fun W hW => ?_) fun ρ e => ?_
  · walk_at "d"
    exact hW _ rfl
  subst e
  refine dSeq_by (fun ρ => ∃ (i' n' : Int) (c : Option Sl), 0 ≤ i' ∧ 0 ≤ n' ∧ ρ = [some (.io (tapeD ns i' n')), some (.fz (.int many)), some (.fz (.int 2305843009213693951)), c, none]) (fun W hW => ?_) fun ρ e => ?_
  · unfold tapeD
    simp only [dIfS]
    walk_at "e"
    by_cases hc : n < many
    · rw [if_pos (decide_eq_true hc)]
      refine dSeq_by (fun ρ => ρ = [some (.io (tapeD ns i n)), some (.fz (.int many)), some (.fz (.int 2305843009213693951)), some (.fz (.int 0)), none]) (fun W hW => ?_) fun ρ e => ?_
      · walk_at "d"
        exact hW _ rfl
      subst e
      refine dSeq_by (fun ρ => ∃ x : Int, ρ = [some (.io (tapeD ns i n)), some (.fz (.int many)), some (.fz (.int 2305843009213693951)), some (.fz (.int x)), none]) (fun W hW => ?_) fun ρ e => ?_
      · unfold tapeD at hW ⊢
        walk_at "d"
        by_cases hz : 0 < ns.length
        · rw [if_pos (decide_eq_true (by omega))]
          have hlt : (i % (ns.length : Int)).toNat < ns.length := by
            have := Int.emod_lt_of_pos i (show (0 : Int) < ns.length by omega)
            have := Int.emod_nonneg i (show (ns.length : Int) ≠ 0 by omega)
            omega
          obtain ⟨x, hx⟩ := get_at hlt
          have ei : i % (ns.length : Int) = (((i % (ns.length : Int)).toNat : Nat) : Int) := by
            have := Int.emod_nonneg i (show (ns.length : Int) ≠ 0 by omega)
            omega
          refine ⟨by omega, .int x, ?_, hW _ ⟨x, rfl⟩⟩
          rw [ei]
          exact atI_map hx
        · rw [if_neg (by rw [decide_eq_false (by omega)]; exact Bool.false_ne_true)]
          exact hW _ ⟨0, rfl⟩
      obtain ⟨x, rfl⟩ := e
      refine dSeq_by (fun ρ => ∃ y : Int, 0 ≤ y ∧ ρ = [some (.io (tapeD ns i n)), some (.fz (.int many)), some (.fz (.int 2305843009213693951)), some (.fz (.int y)), none]) (fun W hW => ?_) fun ρ e => ?_
      · unfold tapeD at hW ⊢
        simp only [dIfS]
        have big : ∀ (V : DEnv → Prop), (∀ y : Int, 0 ≤ y → V [some (.io (.list [.list (ns.map PyData.int), .int i, .int n])), some (.fz (.int many)), some (.fz (.int 2305843009213693951)), some (.fz (.int y)), none]) →
            dSeq (dAsg (dOp2 oMod (dOp2 oAdd (dVar 3) (dOp2 oMul (dC (.int 1000003)) (dOp2 oIx (dVar 0) (dC (.int 1))))) (dVar 2)) (dgName 3)) (dSeq (dAsg (dOp2 oMod (dOp2 oAdd (dOp2 oAdd (dOp2 oMul (dVar 3) (dVar 3)) (dOp2 oMul (dC (.int 1181783497276652981)) (dVar 3))) (dC (.int 2049848353892358983))) (dVar 2)) (dgName 3))
              (dAsg (dOp2 oMod (dOp2 oAdd (dOp2 oMul (dVar 3) (dVar 3)) (dC (.int 1442695040888963407))) (dVar 2)) (dgName 3))) { nx := V, rt := (endsD (some 0) Z).rt, bk := (endsD (some 0) Z).bk, ct := (endsD (some 0) Z).ct } [some (.io (.list [.list (ns.map PyData.int), .int i, .int n])), some (.fz (.int many)), some (.fz (.int 2305843009213693951)), some (.fz (.int x)), none] := fun V hV => by
          walk_at "d"
          have p0 := Int.emod_nonneg (x + 1000003 * i) (show (2305843009213693951 : Int) ≠ 0 by decide)
          have p1 := Int.emod_lt_of_pos (x + 1000003 * i) (show (0 : Int) < 2305843009213693951 by decide)
          revert p0 p1
          generalize (x + 1000003 * i) % 2305843009213693951 = x1
          intro p0 p1
          have q0 := Int.emod_nonneg (x1 * x1 + 1181783497276652981 * x1 + 2049848353892358983) (show (2305843009213693951 : Int) ≠ 0 by decide)
          have q1 := Int.emod_lt_of_pos (x1 * x1 + 1181783497276652981 * x1 + 2049848353892358983) (show (0 : Int) < 2305843009213693951 by decide)
          revert q0 q1
          generalize (x1 * x1 + 1181783497276652981 * x1 + 2049848353892358983) % 2305843009213693951 = x2
          intro q0 q1
          exact ⟨.inl (by decide), .inl (by omega), .inl (by decide), .inl (by omega), hV _ (Int.emod_nonneg _ (by decide))⟩
        walk_at "e"
        by_cases h3 : (ns.length : Int) ≤ i
        · rw [if_pos (decide_eq_true h3)]
          exact big _ fun y hy => hW _ ⟨y, hy, rfl⟩
        · rw [if_neg (by rw [decide_eq_false h3]; exact Bool.false_ne_true)]
          refine ⟨by decide, ?_⟩
          by_cases h4 : x < 10 ^ Int.toNat 18
          · rw [if_pos (decide_eq_true h4)]
            exact big _ fun y hy => hW _ ⟨y, hy, rfl⟩
          · rw [if_neg (by rw [decide_eq_false h4]; exact Bool.false_ne_true)]
            refine hW _ ⟨x, ?_, rfl⟩
            have : (0 : Int) ≤ 10 ^ Int.toNat 18 := by decide
            omega
      obtain ⟨y, hy, rfl⟩ := e
      unfold tapeD at hW ⊢
      walk_at "d"
      exact hW _ ⟨i + 1, y, _, by omega, hy, rfl⟩
    · rw [if_neg (by rw [decide_eq_false hc]; exact Bool.false_ne_true)]
      exact hW _ ⟨i, n, none, hi, hn, rfl⟩
  obtain ⟨i', n', c, hi', hn', rfl⟩ := e
  unfold tapeD
  walk_at "d"
  refine ⟨h1, ⟨h1, h2⟩, ?_⟩
  exact hZ _ _ (Int.emod_nonneg _ (by omega)) (Int.emod_lt_of_pos _ h1) ⟨ns, i', n' / many, rfl, hi', Int.ediv_nonneg hn' (by omega), hlen⟩
theorem likes_flat : ∀ (n : Nat) (d : PyData), Likes n d → Flat n d
  | 0, _, h => by simp [Likes] at h
  | n + 1, .list ds, h => by
    simp only [Flat]
    exact fun x hx => likes_flat n x ((by simpa [Likes] using h : ds.length ≤ 1000 ∧ ∀ x ∈ ds, Likes n x).2 x hx)
  | n + 1, .tuple ds, h => by
    simp only [Flat]
    exact fun x hx => likes_flat n x ((by simpa [Likes] using h : ds.length ≤ 1000 ∧ ∀ x ∈ ds, Likes n x).2 x hx)
  | n + 1, .none, _ => by simp [Flat]
  | n + 1, .bool _, _ => by simp [Flat]
  | n + 1, .int _, _ => by simp [Flat]
  | n + 1, .str _, h => by simp [Likes] at h
  | n + 1, .dict _, h => by simp [Likes] at h
theorem law_like (n : Nat) (ds : List PyData) (Z : Rs → PyData → Prop) (hl : ds.length = (ct_like (n + 1)).n) (h : (ct_like (n + 1)).pre ds Z) : d_like n (endsD (ct_like (n + 1)).io Z) (startD 3 (ct_like (n + 1)).io ds) := by
  obtain ⟨a, rfl, hA, hZ⟩ := h
  show d_like n (endsD none Z) [some (.fz a), some (.fz a), none]
  unfold d_like
  have sc : ∀ (a : PyData), Likes (n + 1) a → Flat (n + 1) a := likes_flat (n + 1)
  have small : ∀ (z : PyData), Flat (n + 1) z → (∀ ds, z ≠ .list ds) → (∀ ds, z ≠ .tuple ds) → Flat 1 z := fun z hz n1 n2 => by
    cases z with
    | list ds => exact (n1 ds rfl).elim
    | tuple ds => exact (n2 ds rfl).elim
    | str _ => simp [Flat] at hz
    | dict _ => simp [Flat] at hz
    | _ => simp [Flat]
  cases a with
  | list es =>
    obtain ⟨h1, h2⟩ : es.length ≤ 1000 ∧ ∀ x ∈ es, Likes n x := by simpa [Likes] using hA
    walk_at "d"
    unfold dLc
    walk_at "e"
    refine ⟨by omega, by omega, rfl, by rw [rngD_len]; omega, ?_⟩
    refine lcLoop_pure (fun _ => none) (fun x hx W hW => ?_) ?_
    · obtain ⟨i, hi, rfl⟩ := mem_rngD hx
      obtain ⟨y, hy⟩ := get_at hi
      walk_at "d"
      refine ⟨y, atI_n hy, y, atI_n hy, ?_⟩
      exact ⟨rfl, y, rfl, h2 y (get_mem hy), hW⟩
    · rw [fm_none]
      exact oEq_same (n := 1) (by decide) (by simp [Flat]) hZ
  | tuple es =>
    obtain ⟨h1, h2⟩ : es.length ≤ 1000 ∧ ∀ x ∈ es, Likes n x := by simpa [Likes] using hA
    walk_at "d"
    unfold dLc
    walk_at "e"
    refine ⟨by omega, by omega, rfl, by rw [rngD_len]; omega, ?_⟩
    refine lcLoop_pure (fun _ => none) (fun x hx W hW => ?_) ?_
    · obtain ⟨i, hi, rfl⟩ := mem_rngD hx
      obtain ⟨y, hy⟩ := get_at hi
      walk_at "d"
      refine ⟨y, atI_n hy, y, atI_n hy, ?_⟩
      exact ⟨rfl, y, rfl, h2 y (get_mem hy), hW⟩
    · rw [fm_none]
      exact oEq_same (n := 1) (by decide) (by simp [Flat]) hZ
  | none =>
    walk_at "d"
    exact oEq_same (n := 1) (by decide) (by simp [Flat]) hZ
  | bool b =>
    walk_at "d"
    exact hZ
  | int i =>
    walk_at "d"
    exact hZ
  | str _ => simp [Likes] at hA
  | dict _ => simp [Likes] at hA
theorem law_row (ds : List PyData) (Z : Rs → PyData → Prop) (hl : ds.length = ct_row.n) (h : ct_row.pre ds Z) : d_row (endsD ct_row.io Z) (startD 8 ct_row.io ds) := by
  obtain ⟨tp, c, l, k, rfl, T, hc0, hc1, hl0, hl1, hk0, hk1, hZ⟩ := h
  show d_row (endsD (some 0) Z) [some (.io tp), some (.fz (.int c)), some (.fz (.int l)), some (.fz (.int k)), none, none, none, none]
  unfold d_row
  refine dSeq_by (fun ρ => ∃ (tp : PyData) (w : Int), TapeOk tp ∧ 1 ≤ w ∧ ρ = [some (.io tp), some (.fz (.int c)), some (.fz (.int l)), some (.fz (.int k)), some (.fz (.int w)), none, none, none]) (fun W hW => ?_) fun ρ e => ?_
  · walk_at "d"
    refine ⟨rfl, tp, 3, rfl, T, by decide, by decide, fun r tp' h0 h1 T' => ?_⟩
    walk_at "d"
    have : r = 0 ∨ r = 1 ∨ r = 2 := by omega
    rcases this with rfl | rfl | rfl
    · exact ⟨_, atI_0, hW _ ⟨tp', 3, T', by decide, rfl⟩⟩
    · exact ⟨_, atI_1, hW _ ⟨tp', 9, T', by decide, rfl⟩⟩
    · exact ⟨_, atI_2, hW _ ⟨tp', l, T', hl0, rfl⟩⟩
  obtain ⟨tp, w, T, hw, rfl⟩ := e
  refine dSeq_by (fun ρ => ∃ (tp : PyData) (ns : List Int), TapeOk tp ∧ (ns.length : Int) ≤ c ∧ (∀ x ∈ ns, 1 ≤ x) ∧ (∀ x ∈ ns, x ≤ l) ∧ ρ = [some (.io tp), some (.fz (.int c)), some (.fz (.int l)), some (.fz (.int k)), some (.fz (.int w)), some (.fz (intsT ns)), none, none]) (fun W hW => ?_) fun ρ e => ?_
  · walk_at "d"
    unfold dLc
    walk_at "e"
    refine ⟨rfl, tp, c + 1, rfl, T, by omega, by omega, fun r tp' h0 h1 T' => ?_⟩
    walk_at "e"
    refine ⟨by omega, by omega, rfl, by rw [rngD_len]; omega, ?_⟩
    refine lcLoop_inv (fun j acc ρ => ∃ (tp : PyData) (ns : List Int), TapeOk tp ∧ ns.length = j ∧ (∀ x ∈ ns, 1 ≤ x) ∧ (∀ x ∈ ns, x ≤ l) ∧ acc = ns.map PyData.int ∧ ρ = [some (.io tp), some (.fz (.int c)), some (.fz (.int l)), some (.fz (.int k)), some (.fz (.int w)), none, none, none]) ⟨tp', [], T', rfl, by simp, by simp, rfl, rfl⟩ (fun j x acc ρ V hx I hV _ => ?_) fun acc ρ I => ?_
    · obtain ⟨tp, ns, T, hj, n1, n2, rfl, rfl⟩ := I
      walk_at "d"
      refine ⟨rfl, tp, _, rfl, T, by split <;> omega, by split <;> omega, fun r tp' h0 h1 T' => ?_⟩
      walk_at "d"
      refine hV _ _ ⟨tp', ns ++ [1 + r], T', by simp [hj], fun y hy => ?_, fun y hy => ?_, by simp, rfl⟩
      · rcases List.mem_append.mp hy with hy | hy
        · exact n1 y hy
        · rw [List.mem_singleton] at hy; omega
      · rcases List.mem_append.mp hy with hy | hy
        · exact n2 y hy
        · rw [List.mem_singleton] at hy
          split at h1 <;> omega
    · obtain ⟨tp, ns, T, hj, n1, n2, rfl, rfl⟩ := I
      rw [rngD_len] at hj
      walk_at "d"
      exact hW _ ⟨tp, ns, T, by omega, n1, n2, rfl⟩
  obtain ⟨tp, ns, T, n0, n1, n2, rfl⟩ := e
  refine dSeq_by (fun ρ => ρ = [some (.io tp), some (.fz (.int c)), some (.fz (.int l)), some (.fz (.int k)), some (.fz (.int w)), some (.fz (intsT ns)), some (.ow (.list [])), none]) (fun W hW => ?_) fun ρ e => ?_
  · walk_at "d"
    exact hW _ rfl
  subst e
  refine dSeq_by (fun ρ => ∃ (tp : PyData) (ps : List Nat) (o : Option Sl), TapeOk tp ∧ ps ≠ [] ∧ (ps.length : Int) ≤ k ∧ (∀ p ∈ ps, p ≤ ns.length) ∧ ρ = [some (.io tp), some (.fz (.int c)), some (.fz (.int l)), some (.fz (.int k)), some (.fz (.int w)), some (.fz (intsT ns)), some (.ow (.list (ps.map fun (p : Nat) => PyData.int (p : Int)))), o]) (fun W hW => ?_) fun ρ e => ?_
  · walk_at "d"
    refine ⟨rfl, tp, k, rfl, T, by omega, by omega, fun r tp' h0 h1 T' => ?_⟩
    walk_at "d"
    refine ⟨by omega, by omega, ?_⟩
    refine loopD_inv (fun j ρ => ∃ (tp : PyData) (ps : List Nat) (o : Option Sl), TapeOk tp ∧ ps.length = j ∧ (∀ p ∈ ps, p ≤ ns.length) ∧ ρ = [some (.io tp), some (.fz (.int c)), some (.fz (.int l)), some (.fz (.int k)), some (.fz (.int w)), some (.fz (intsT ns)), some (.ow (.list (ps.map fun (p : Nat) => PyData.int (p : Int)))), o]) ⟨tp', [], none, T', rfl, by simp, rfl⟩ (fun j x ρ V hx I hV => ?_) fun ρ I => ?_
    · obtain ⟨tp, ps, o, T, hj, hp, rfl⟩ := I
      have hjk := (rngD_at hx).1
      unfold intsT
      walk_at "d"
      refine ⟨⟨_, _, rfl, rfl, rfl⟩, rfl, tp, (ns.length : Int) + 1, rfl, T, by omega, by omega, fun r tp1 h0 h1 T1 => ?_⟩
      walk_at "d"
      refine ⟨rfl, tp1, 3, rfl, T1, by decide, by decide, fun r2 tp2 g0 g1 T2 => ?_⟩
      walk_at "d"
      have key : ∀ m : Nat, m ≤ ns.length → V [some (.io tp2), some (.fz (.int c)), some (.fz (.int l)), some (.fz (.int k)), some (.fz (.int w)), some (.fz (.tuple (ns.map PyData.int))), some (.ow (.list (ps.map (fun (p : Nat) => PyData.int (p : Int)) ++ [.int (m : Int)]))), some (.fz x)] := fun m hm => hV _ ⟨tp2, ps ++ [m], some (.fz x), T2, by simp [hj], fun y hy => by
        rcases List.mem_append.mp hy with hy | hy
        · exact hp y hy
        · rw [List.mem_singleton] at hy; omega, by simp [intsT]⟩
      by_cases hr : r2 < 1
      · rw [if_pos hr]
        have : r2 = 0 := by omega
        subst this
        refine ⟨_, atI_0, ?_⟩
        exact ⟨by omega, key 0 (Nat.zero_le _)⟩
      · rw [if_neg hr]
        refine ⟨_, atI_1, ?_⟩
        obtain ⟨m, rfl⟩ := Int.eq_ofNat_of_zero_le h0
        exact ⟨by omega, key m (by omega)⟩
    · obtain ⟨tp, ps, o, T, hj, hp, rfl⟩ := I
      rw [rngD_len] at hj
      exact hW _ ⟨tp, ps, o, T, by intro z; subst z; simp at hj; omega, by omega, hp, rfl⟩
  obtain ⟨tp, ps, o, T, p0, p1, p2, rfl⟩ := e
  walk_at "d"
  refine oSorted_nats fun qs hp hw => ?_
  unfold intsT
  walk_at "d"
  refine hZ ⟨ns, qs⟩ tp ⟨n0, n1, n2, ?_, ?_, fun p hq => p2 p (hp.mem_iff.mp hq), hw⟩ T
  · intro z
    have := hp.length_eq
    simp only at z
    rw [z] at this
    exact p0 (List.eq_nil_of_length_eq_zero this.symm)
  · simp only
    rw [hp.length_eq]
    exact p1
theorem law_schedule (ds : List PyData) (Z : Rs → PyData → Prop) (hl : ds.length = ct_schedule.n) (h : ct_schedule.pre ds Z) : d_schedule (endsD ct_schedule.io Z) (startD 7 ct_schedule.io ds) := by
  obtain ⟨tp, r, n, w, rfl, T, p0, p1, n0, n1, w0, w1, hZ⟩ := h
  have hp : 0 < r.ps.length := List.length_pos_iff.mpr p0
  show d_schedule (endsD (some 0) Z) [some (.io tp), some (.fz (rowD r)), some (.fz (.int n)), some (.fz (.int w)), none, none, none]
  unfold d_schedule
  walk_at "d"
  refine ⟨rfl, tp, 3, rfl, T, by decide, by decide, fun t tp1 t0 t1 T1 => ?_⟩
  walk_at "d"
  refine ⟨rfl, tp1, n + 1, rfl, T1, by omega, by omega, fun m tp2 m0 m1 T2 => ?_⟩
  walk_at "d"
  refine ⟨by omega, by omega, ?_⟩
  refine loopD_inv (fun j ρ => ∃ (tp : PyData) (s : Sch) (t : Int) (o : Option Sl), TapeOk tp ∧ s.length = j ∧ 0 ≤ t ∧ (∀ x ∈ s, x.2 < r.ps.length) ∧ (∀ x ∈ s, 0 ≤ x.1 ∧ x.1 ≤ t) ∧ s.Pairwise (fun x y => x.1 ≤ y.1) ∧ ρ = [some (.io tp), some (.fz (rowD r)), some (.fz (.int n)), some (.fz (.int w)), some (.fz (schD s)), some (.fz (.int t)), o])
    ⟨tp2, [], t, none, T2, rfl, t0, by simp, by simp, by simp, rfl⟩ (fun j x ρ V hx I hV => ?_) fun ρ I => ?_
  · obtain ⟨tp, s, t, o, T, hj, t0, c1, c2, c3, rfl⟩ := I
    have hjk := (rngD_at hx).1
    unfold rowD natsT schD
    walk_at "d"
    refine ⟨rfl, tp, r.ps.length, rfl, T, by omega, by omega, fun c tp1 d0 d1 T1 => ?_⟩
    walk_at "d"
    refine ⟨by omega, rfl, tp1, w, rfl, T1, by omega, by omega, fun q tp3 q0 q1 T3 => ?_⟩
    walk_at "d"
    obtain ⟨m, rfl⟩ := Int.eq_ofNat_of_zero_le d0
    refine hV _ ⟨tp3, s ++ [(t, m)], t + q, some (.fz x), T3, by simp [hj], by omega, fun y hy => ?_, fun y hy => ?_, ?_, by simp [schD, tcD, rowD, natsT]⟩
    · rcases List.mem_append.mp hy with hy | hy
      · exact c1 y hy
      · rw [List.mem_singleton] at hy; subst hy; simp only; omega
    · rcases List.mem_append.mp hy with hy | hy
      · have := c2 y hy; omega
      · rw [List.mem_singleton] at hy; subst hy; simp only; omega
    · rw [List.pairwise_append]
      refine ⟨c3, by simp, fun a ha b hb => ?_⟩
      rw [List.mem_singleton] at hb
      subst hb
      exact (c2 a ha).2
  · obtain ⟨tp, s, t, o, T, hj, t0, c1, c2, c3, rfl⟩ := I
    rw [rngD_len] at hj
    walk_at "d"
    exact hZ s tp ⟨by omega, c1, fun x hx => (c2 x hx).1, c3⟩ T
theorem law_near_schedule (ds : List PyData) (Z : Rs → PyData → Prop) (hl : ds.length = ct_near_schedule.n) (h : ct_near_schedule.pre ds Z) : d_near_schedule (endsD ct_near_schedule.io Z) (startD 8 ct_near_schedule.io ds) := by
  obtain ⟨tp, r, n, rfl, T, p0, p1, l0, l1, n0, n1, hZ⟩ := h
  have hp : 0 < r.ps.length := List.length_pos_iff.mpr p0
  show d_near_schedule (endsD (some 0) Z) [some (.io tp), some (.fz (rowD r)), some (.fz (.int n)), none, none, none, none, none]
  unfold d_near_schedule
  walk_at "d"
  refine ⟨rfl, tp, n + 1, rfl, T, by omega, by omega, fun m tp2 m0 m1 T2 => ?_⟩
  walk_at "d"
  refine ⟨by omega, by omega, ?_⟩
  refine loopD_inv (fun j ρ => ∃ (tp : PyData) (s : Sch) (t : Int) (o o2 : Option Sl), TapeOk tp ∧ s.length = j ∧ 0 ≤ t ∧ (∀ x ∈ s, x.2 < r.ps.length) ∧ (∀ x ∈ s, 0 ≤ x.1 ∧ x.1 ≤ t) ∧ s.Pairwise (fun x y => x.1 ≤ y.1) ∧ ρ = [some (.io tp), some (.fz (rowD r)), some (.fz (.int n)), some (.fz (schD s)), some (.fz (.int t)), o, o2, none])
    ⟨tp2, [], 0, none, none, T2, rfl, by decide, by simp, by simp, by simp, rfl⟩ (fun j x ρ V hx I hV => ?_) fun ρ I => ?_
  · obtain ⟨tp, s, t, o, o2, T, hj, t0, c1, c2, c3, rfl⟩ := I
    have hjk := (rngD_at hx).1
    refine dSeq_by (fun ρ => ∃ (tp : PyData) (m : Nat) (o : Option Sl), TapeOk tp ∧ m < r.ps.length ∧ ρ = [some (.io tp), some (.fz (rowD r)), some (.fz (.int n)), some (.fz (schD (s ++ [(t, m)]))), some (.fz (.int t)), o, o2, none]) (fun W hW => ?_) fun ρ e => ?_
    · unfold rowD natsT schD at hW ⊢
      walk_at "d"
      refine ⟨rfl, tp, r.ps.length, rfl, T, by omega, by omega, fun c tp1 d0 d1 T1 => ?_⟩
      walk_at "d"
      refine ⟨by omega, ?_⟩
      obtain ⟨m, rfl⟩ := Int.eq_ofNat_of_zero_le d0
      exact hW _ ⟨tp1, m, some (.fz x), T1, by omega, by simp [tcD]⟩
    obtain ⟨tp, c, o, T, hc, rfl⟩ := e
    refine dSeq_by (fun ρ => ρ = [some (.io tp), some (.fz (rowD r)), some (.fz (.int n)), some (.fz (schD (s ++ [(t, c)]))), some (.fz (.int t)), o, some (.fz (.list (([0, 1, 1] ++ r.ls.map (· - 1) ++ r.ls).map PyData.int))), none]) (fun W hW => ?_) fun ρ e => ?_
    · unfold rowD intsT at hW ⊢
      walk_at "d"
      unfold dLc
      walk_at "e"
      refine ⟨by simp [freeAt], by omega, ?_⟩
      refine lcLoop_map (fun d => match d with
        | .int i => .int (i - 1)
        | d => d) (fun x hx V hV => ?_) ?_
      · obtain ⟨i, hi, rfl⟩ := List.mem_map.mp hx
        walk_at "d"
        exact hV
      walk_at "e"
      refine ⟨by omega, by simp [freeAt], by omega, ?_⟩
      refine lcLoop_map (fun d => d) (fun x hx V hV => ?_) ?_
      · walk_at "d"
        exact hV
      walk_at "e"
      refine ⟨by omega, ?_⟩
      simp only [List.map_map, List.map_append, List.map_cons, List.map_nil, Function.comp_def, List.map_id'] at hW ⊢
      exact hW _ rfl
    subst e
    walk_at "d"
    refine ⟨rfl, tp, _, rfl, T, ?_, ?_, fun q tp3 q0 q1 T3 => ?_⟩
    · simp; omega
    · simp; omega
    walk_at "d"
    obtain ⟨k, rfl⟩ := Int.eq_ofNat_of_zero_le q0
    have hk : k < ([0, 1, 1] ++ r.ls.map (· - 1) ++ r.ls).length := by simp at q1 ⊢; omega
    obtain ⟨z, hz⟩ := get_at hk
    refine ⟨_, atI_map hz, ?_⟩
    have z0 : 0 ≤ z := by
      rcases List.mem_append.mp (get_mem hz) with h | h
      · rcases List.mem_append.mp h with h | h
        · simp at h; omega
        · obtain ⟨y, hy, rfl⟩ := List.mem_map.mp h
          have := l1 y hy
          omega
      · have := l1 z h
        omega
    walk_at "d"
    refine hV _ ⟨tp3, s ++ [(t, c)], t + z, _, _, T3, by simp [hj], by omega, fun y hy => ?_, fun y hy => ?_, ?_, rfl⟩
    · rcases List.mem_append.mp hy with hy | hy
      · exact c1 y hy
      · rw [List.mem_singleton] at hy; subst hy; exact hc
    · rcases List.mem_append.mp hy with hy | hy
      · have := c2 y hy; omega
      · rw [List.mem_singleton] at hy; subst hy; simp only; omega
    · rw [List.pairwise_append]
      refine ⟨c3, by simp, fun a ha b hb => ?_⟩
      rw [List.mem_singleton] at hb
      subst hb
      exact (c2 a ha).2
  · obtain ⟨tp, s, t, o, o2, T, hj, t0, c1, c2, c3, rfl⟩ := I
    rw [rngD_len] at hj
    walk_at "d"
    exact hZ s tp ⟨by omega, c1, fun x hx => (c2 x hx).1, c3⟩ T
theorem ask_stale {ls : List Int} {hs : List Ent} {t : Int} {i : Nat} {l : Int} {h : Ent} (h1 : ls[i]? = some l) (h2 : hs[i]? = some h) (h3 : fresh l h t = none) :
    (ask ls hs t i).1 = (ask ls hs t (i + 1)).1 ∧ (ask ls hs t i).2 = (ask ls hs t (i + 1)).2.set i (some ((ask ls hs t (i + 1)).1.1, t)) := by
  obtain ⟨a1, e1⟩ := List.getElem?_eq_some_iff.mp h1
  obtain ⟨a2, e2⟩ := List.getElem?_eq_some_iff.mp h2
  have d1 : ls.drop i = l :: ls.drop (i + 1) := by rw [List.drop_eq_getElem_cons a1, e1]
  have d2 : hs.drop i = h :: hs.drop (i + 1) := by rw [List.drop_eq_getElem_cons a2, e2]
  unfold ask
  rw [d1, d2]
  have e : askL (l :: ls.drop (i + 1)) (h :: hs.drop (i + 1)) t i = ((askL (ls.drop (i + 1)) (hs.drop (i + 1)) t (i + 1)).1, some ((askL (ls.drop (i + 1)) (hs.drop (i + 1)) t (i + 1)).1.1, t) :: (askL (ls.drop (i + 1)) (hs.drop (i + 1)) t (i + 1)).2) := by
    conv => lhs; unfold askL
    rw [h3]
  rw [e]
  refine ⟨rfl, ?_⟩
  simp only
  rw [List.take_add_one, h2]
  have hl : (hs.take i).length = i := by simp; omega
  rw [List.append_assoc, List.set_append_right _ _ (by omega), hl, Nat.sub_self]
  rfl
theorem ask_fresh {ls : List Int} {hs : List Ent} {t : Int} {i : Nat} {l a : Int} {h : Ent} (h1 : ls[i]? = some l) (h2 : hs[i]? = some h) (h3 : fresh l h t = some a) : ask ls hs t i = ((a, i), hs) := by
  obtain ⟨a1, e1⟩ := List.getElem?_eq_some_iff.mp h1
  obtain ⟨a2, e2⟩ := List.getElem?_eq_some_iff.mp h2
  have d1 : ls.drop i = l :: ls.drop (i + 1) := by rw [List.drop_eq_getElem_cons a1, e1]
  have d2 : hs.drop i = h :: hs.drop (i + 1) := by rw [List.drop_eq_getElem_cons a2, e2]
  unfold ask
  rw [d1, d2]
  have e : askL (l :: ls.drop (i + 1)) (h :: hs.drop (i + 1)) t i = ((a, i), h :: hs.drop (i + 1)) := by
    conv => lhs; unfold askL
    rw [h3]
  rw [e]
  simp only
  rw [← d2, List.take_append_drop]
theorem ask_top {ls : List Int} {hs : List Ent} {t : Int} (hl : hs.length = ls.length) : ask ls hs t ls.length = ((t, ls.length), hs) := by
  unfold ask
  rw [List.drop_length, ← hl, List.drop_length, List.take_length]
  simp [askL]
theorem law_ask (n : Nat) (ds : List PyData) (Z : Rs → PyData → Prop) (hl : ds.length = (ct_ask (n + 1)).n) (h : (ct_ask (n + 1)).pre ds Z) : d_ask n (endsD (ct_ask (n + 1)).io Z) (startD 5 (ct_ask (n + 1)).io ds) := by
  obtain ⟨r, hs, t, i, rfl, h1, h2, h3, h4, hZ⟩ := h
  show d_ask n (endsD (some 1) Z) [some (.fz (rowD r)), some (.io (.list (hs.map entD))), some (.fz (.int t)), some (.fz (.int (i : Int))), none]
  unfold d_ask rowD intsT natsT
  walk_at "d"
  by_cases hi : i = r.ls.length
  · rw [if_pos (decide_eq_true (by omega))]
    subst hi
    rw [ask_top h3] at hZ
    exact hZ
  · rw [if_neg (by rw [decide_eq_false (by omega)]; exact Bool.false_ne_true)]
    have hlt : i < r.ls.length := by omega
    obtain ⟨l, el⟩ := get_at hlt
    obtain ⟨h, eh⟩ := get_at (show i < hs.length by omega)
    refine ⟨_, atI_map eh, ?_⟩
    cases hf : fresh l h t with
    | some a =>
      obtain ⟨y, rfl, hy⟩ := fresh_some hf
      rw [ask_fresh el eh hf] at hZ
      rw [entD_some]
      walk_at "d"
      refine ⟨_, atI_map eh, ?_⟩
      rw [entD_some]
      walk_at "d"
      refine ⟨_, atI_map el, ?_⟩
      walk_at "d"
      rw [if_neg (by rw [decide_eq_false (by omega)]; exact Bool.false_ne_true)]
      refine ⟨_, atI_map eh, ?_⟩
      rw [entD_some]
      walk_at "d"
      exact hZ
    | none =>
      obtain ⟨s1, s2⟩ := ask_stale el eh hf
      have hlen : (ask r.ls hs t (i + 1)).2.length = r.ls.length := by rw [ask_len, h3]
      rw [s1, s2] at hZ
      revert hZ hlen
      generalize hq : ask r.ls hs t (i + 1) = q
      intro hZ hlen
      rcases fresh_none hf with e | ⟨x, y, e, hxy⟩
      · subst e
        rw [entD_none]
        walk_at "d"
        refine ⟨rfl, r, hs, t, i + 1, rfl, by omega, by omega, h3, h4, ?_⟩
        rw [hq]
        unfold ansD
        walk_at "d"
        refine ⟨i, ixN_n (by rw [hlen]; exact hlt), ?_⟩
        rw [List.map_set] at hZ
        exact hZ
      · subst e
        rw [entD_some]
        walk_at "d"
        refine ⟨_, atI_map eh, ?_⟩
        rw [entD_some]
        walk_at "d"
        refine ⟨_, atI_map el, ?_⟩
        walk_at "d"
        rw [if_pos (decide_eq_true (by omega))]
        refine ⟨rfl, r, hs, t, i + 1, rfl, by omega, by omega, h3, h4, ?_⟩
        rw [hq]
        unfold ansD
        walk_at "d"
        refine ⟨i, ixN_n (by rw [hlen]; exact hlt), ?_⟩
        rw [List.map_set] at hZ
        exact hZ
theorem law_walk (ds : List PyData) (Z : Rs → PyData → Prop) (hl : ds.length = ct_walk.n) (h : ct_walk.pre ds Z) : d_walk (endsD ct_walk.io Z) (startD 6 ct_walk.io ds) := by
  obtain ⟨r, s, rfl, F, h8, hZ⟩ := h
  show d_walk (endsD none Z) [some (.fz (rowD r)), some (.fz (schD s)), none, none, none, none]
  unfold d_walk
  refine dSeq_by (fun ρ => ρ = [some (.fz (rowD r)), some (.fz (schD s)), some (.ow (.list ((empt r).map entD))), some (.ow (.list [])), none, none]) (fun W hW => ?_) fun ρ e => ?_
  · unfold rowD intsT natsT at hW ⊢
    walk_at "d"
    refine ⟨by omega, by omega, ?_⟩
    rw [rep1]
    have e : (empt r).map entD = List.replicate r.ls.length PyData.none := by
      unfold empt
      rw [List.map_replicate]
      rfl
    rw [e] at hW
    exact hW _ rfl
  subst e
  unfold schD
  walk_at "d"
  refine loopD_inv (fun k ρ => ∃ a b, ρ = [some (.fz (rowD r)), some (.fz (.tuple (s.map tcD))), some (.ow (.list ((walk r (empt r) (s.take k)).2.map entD))), some (.ow (.list ((walk r (empt r) (s.take k)).1.map ansD))), a, b])
    ⟨none, none, rfl⟩ (fun k x ρ W hx I hW => ?_) fun ρ I => ?_
  · obtain ⟨a, b, rfl⟩ := I
    obtain ⟨⟨t, cl⟩, hs, rfl⟩ := map_get hx
    have hc := F.cl _ (get_mem hs)
    obtain ⟨p, hp⟩ := get_at hc
    have hk := get_lt hs
    have hlen := F.fewS
    have hw := walk_len r (s.take k) (empt r)
    have hk2 : (s.take k).length = k := by simp; omega
    rw [take_snoc hs, walk_snoc, getD_of hp] at hW
    simp only [List.map_append, List.map_cons, List.map_nil] at hW
    rw [tcD_mk]
    unfold rowD intsT natsT at hW ⊢
    walk_at "d"
    refine ⟨⟨_, _, rfl, rfl, rfl⟩, _, atI_map hp, ?_⟩
    refine ⟨rfl, r, (walk r (empt r) (s.take k)).2, t, p, rfl, F.inn p (get_mem hp), by omega, by rw [hw.2]; simp [empt], F.few, ?_⟩
    exact ⟨_, rfl, by rw [hw.1]; omega, hW _ ⟨_, _, rfl⟩⟩
  · obtain ⟨a, b, rfl⟩ := I
    rw [List.length_map, List.take_length]
    walk_at "d"
    exact ⟨fun _ => trivial, fun _ => trivial, hZ⟩
end St
set_option Elab.async false
set_option linter.all false
set_option maxRecDepth 100000
set_option maxHeartbeats 4000000
namespace St
open PySem L2 Dl
/-! the data reading unfolded as far as it goes -/
local macro_rules | `(tactic| walk_at "d") => `(tactic| simp (config := { decide := false }) only [dSeq, dAsg, dAsgO, dAppS, dApp, dSetS, dSet, dAug, dRet, dRetN, dDrop, dDPut, dDGet2, dDNewK, dDNewT, dIfS, dFor, dNext, dBreak, dCont, dOp1, dOp2, dTup, dLst, dCons, dNil, dC, dCB, dVar, dVarR, dIfE, dTest, dAnd, dOr, dNot, dAndV, dOrV, dNotV, dChain, dCall, dCallL, dCallIO, dIsi, dSl, dPart, dNoPart, dSeqI, dRng1, dRng2, dDGet2, dDNewK, dDNewT, dRng3, dEnum, dZip, stoAll, itemsD, Option.some.injEq, exists_eq_left', dYes, dIx0, dRetT, dgName, dgTup, dgCons, dgNil, oFdiv, oMod, oPow, oLt, oLe, oGt, oGe, cmpD,
  wipeD, restD, Option.getD_some, Option.getD_none, Int.zero_add, Int.toNat_natCast, isi_lt_lst, isi_lt_tup, isi_lt_non, isi_lt_bl, isi_lt_int, isi_lt_str, isi_int_non, isi_int_bl, isi_int_int, isi_int_str, isi_int_lst, isi_int_tup, isi_bl_non, isi_bl_bl, isi_bl_int, isi_bl_str, isi_bl_lst, isi_bl_tup, isi_tup_non, isi_tup_bl, isi_tup_int, isi_tup_str, isi_tup_lst, isi_tup_tup, oEq_int, oNe_int, oEq_bl, oNe_bl, eq_self, decide_true, ixN_31, ixN_32, atI_0, atI_1, atI_2, atI_3, oIx_tup, oIx_lst, oLen_tup, oLen_lst, oListOf_tup, oListOf_lst, oTupOf_tup, oTupOf_lst, oAdd_int, oAdd_tup, oAdd_lst, oMul_int, oMul_tup, oMul_lst, dI0_int, dI_int, oIs_non, oIs_bl, isN_non, isN_int, isN_tup, isN_lst, isN_bl, oNeg_int, oMin2_int, oMax2_int, oInt_int, oInt_bl, oSl_tup, oSl_lst, ends_fz, ends_nw, ends_np, ends_nx, ends_br, ends_fzi, ends_nwi, ends_bri, retD_br,
  List.getElem?_cons_zero, List.getElem?_cons_succ, List.set_cons_zero, List.set_cons_succ, List.length_cons, List.length_nil, List.length_map, List.map_cons, List.map_nil, List.length_append, dat_fz, dat_nw, dat_br, dat_np, sto_fz, sto_nw, sto_np, sto_br, stoAll, datAt, Sl.dat, Sl.own, Sl.with, ioSlot, stoBut, if_true, true_and, and_true, reduceCtorEq, Option.some.injEq, PyData.int.injEq, PyData.tuple.injEq, PyData.list.injEq, PyData.bool.injEq,  exists_eq_left', exists_eq_left, Bool.true_eq_false, Bool.false_eq_true, if_false, Bool.true_xor, Bool.false_xor, Bool.not_true, Bool.not_false,
  Nat.reduceAdd, Nat.reduceLeDiff, Nat.reduceEqDiff, Nat.reduceLT, Int.reduceNeg, Int.reduceLE, Int.reduceLT, Nat.zero_le, ne_eq, not_false_eq_true, List.cons_ne_nil, not_true_eq_false])
local macro_rules | `(tactic| walk_at "e") => `(tactic| simp (config := { decide := false }) only [dOp1, dOp2, dTup, dLst, dCons, dNil, dC, dCB, dVar, dVarR, dIfE, dTest, dAnd, dOr, dNot, dAndV, dOrV, dNotV, dChain, dCall, dCallL, dCallIO, dIsi, dSl, dPart, dNoPart, dSeqI, dRng1, dRng2, dDGet2, dDNewK, dDNewT, dRng3, dEnum, dZip, stoAll, itemsD, Option.some.injEq, exists_eq_left', dYes, dIx0, oFdiv, oMod, oPow, oLt, oLe, oGt, oGe, cmpD,
  wipeD, restD, Option.getD_some, Option.getD_none, Int.zero_add, Int.toNat_natCast, isi_lt_lst, isi_lt_tup, isi_lt_non, isi_lt_bl, isi_lt_int, isi_lt_str, isi_int_non, isi_int_bl, isi_int_int, isi_int_str, isi_int_lst, isi_int_tup, isi_bl_non, isi_bl_bl, isi_bl_int, isi_bl_str, isi_bl_lst, isi_bl_tup, isi_tup_non, isi_tup_bl, isi_tup_int, isi_tup_str, isi_tup_lst, isi_tup_tup, oEq_int, oNe_int, oEq_bl, oNe_bl, eq_self, decide_true, ixN_31, ixN_32, atI_0, atI_1, atI_2, atI_3, oIx_tup, oIx_lst, oLen_tup, oLen_lst, oListOf_tup, oListOf_lst, oTupOf_tup, oTupOf_lst, oAdd_int, oAdd_tup, oAdd_lst, oMul_int, oMul_tup, oMul_lst, dI0_int, dI_int, oIs_non, oIs_bl, isN_non, isN_int, isN_tup, isN_lst, isN_bl, oNeg_int, oMin2_int, oMax2_int, oInt_int, oInt_bl, oSl_tup, oSl_lst, ends_fz, ends_nw, ends_np, ends_nx, ends_br, ends_fzi, ends_nwi, ends_bri, retD_br,
  List.getElem?_cons_zero, List.getElem?_cons_succ, List.set_cons_zero, List.set_cons_succ, List.length_cons, List.length_nil, List.length_map, List.map_cons, List.map_nil, List.length_append, dat_fz, dat_nw, dat_br, dat_np, sto_fz, sto_nw, sto_np, sto_br, stoAll, datAt, Sl.dat, Sl.own, Sl.with, ioSlot, stoBut, if_true, true_and, and_true, reduceCtorEq, Option.some.injEq, PyData.int.injEq, PyData.tuple.injEq, PyData.list.injEq, PyData.bool.injEq,  exists_eq_left', exists_eq_left, Bool.true_eq_false, Bool.false_eq_true, if_false, Bool.true_xor, Bool.false_xor, Bool.not_true, Bool.not_false,
  Nat.reduceAdd, Nat.reduceLeDiff, Nat.reduceEqDiff, Nat.reduceLT, Int.reduceNeg, Int.reduceLE, Int.reduceLT, Nat.zero_le, ne_eq, not_false_eq_true, List.cons_ne_nil, not_true_eq_false])
def ct_lanswers : CT := CT.mk 2 none fun ds Z => ∃ (r : Row) (s : Sch), ds = [rowD r, schD s] ∧ Fit r s ∧ r.ls.length ≤ 8 ∧ Z (.nw (.list ((answers r s).map PyData.int))) .none
theorem nob_ints (n : Nat) (xs : List Int) : Nob (n + 1) (.list (xs.map PyData.int)) := by
  simp only [Nob]
  intro x hx
  obtain ⟨i, _, rfl⟩ := List.mem_map.mp hx
  simp [Nob]
theorem ints_inj {xs ys : List Int} : (PyData.list (xs.map PyData.int) = .list (ys.map PyData.int)) ↔ xs = ys :=
  ⟨fun h => by
    injection h with h
    exact (List.map_inj_right (fun a b e => by injection e)).mp h, fun h => by rw [h]⟩
theorem nob_tc (n : Nat) (x : Int × Nat) : Nob (n + 1) (tcD x) := by
  simp only [tcD, Nob]
  intro y hy
  rcases List.mem_cons.mp hy with rfl | hy
  · simp [Nob]
  · rw [List.mem_singleton] at hy; subst hy; simp [Nob]
theorem tc_inj {x y : Int × Nat} : tcD x = tcD y ↔ x = y :=
  ⟨fun h => by
    obtain ⟨a, b⟩ := x
    obtain ⟨c, d⟩ := y
    simp [tcD] at h
    obtain ⟨rfl, h⟩ := h
    have : b = d := by omega
    rw [this], fun h => by rw [h]⟩
theorem likes_tc (n : Nat) (x : Int × Nat) : Likes (n + 2) (tcD x) := by
  obtain ⟨a, b⟩ := x
  simp only [tcD, Likes]
  exact ⟨by simp, fun x hx => by
    rcases List.mem_cons.mp hx with rfl | hx
    · trivial
    · rw [List.mem_singleton] at hx; subst hx; trivial⟩
theorem likes_tcs (n : Nat) (xs : List (Int × Nat)) (h : xs.length ≤ 1000) : Likes (n + 3) (.list (xs.map tcD)) := by
  simp only [Likes, List.length_map]
  refine ⟨h, fun x hx => ?_⟩
  obtain ⟨i, _, rfl⟩ := List.mem_map.mp hx
  exact likes_tc n i
theorem answers_len (r : Row) (s : Sch) : (answers r s).length = s.length := by
  unfold answers
  rw [List.length_map, (walk_len r s (empt r)).1]
theorem filt_snoc {α : Type} (p : α → Bool) (l : List α) (x : α) : (l ++ [x]).filter p = if p x then l.filter p ++ [x] else l.filter p := by
  rw [List.filter_append]
  by_cases h : p x
  · rw [if_pos h, List.filter_cons_of_pos h]; rfl
  · rw [if_neg h, List.filter_cons_of_neg h, List.filter_nil, List.append_nil]
theorem RowIn.fit {c l k n : Int} {r : Row} {s : Sch} (h : RowIn c l k r) (hc : c ≤ 8) (hs : SchIn n r s) (hn : n ≤ 100) : Fit r s :=
  ⟨by have := h.ls; omega, h.inn, by have := hs.few; omega, hs.cl⟩
theorem likes_ints (n : Nat) (ns : List Int) (h : ns.length ≤ 1000) : Likes (n + 2) (.list (ns.map PyData.int)) := by
  simp only [Likes, List.length_map]
  refine ⟨h, fun x hx => ?_⟩
  obtain ⟨i, _, rfl⟩ := List.mem_map.mp hx
  trivial
theorem likes_nats (n : Nat) (ns : List Nat) (h : ns.length ≤ 1000) : Likes (n + 2) (.list (ns.map natD)) := by
  simp only [Likes, List.length_map]
  refine ⟨h, fun x hx => ?_⟩
  obtain ⟨i, _, rfl⟩ := List.mem_map.mp hx
  trivial
theorem likes_ent (n : Nat) (e : Ent) : Likes (n + 2) (entD e) := by
  cases e with
  | none => trivial
  | some q =>
    obtain ⟨a, b⟩ := q
    simp only [entD, Likes]
    exact ⟨by simp, fun x hx => by
      rcases List.mem_cons.mp hx with rfl | hx
      · trivial
      · rw [List.mem_singleton] at hx; subst hx; trivial⟩
theorem likes_ents (n : Nat) (es : List Ent) (h : es.length ≤ 1000) : Likes (n + 3) (.list (es.map entD)) := by
  simp only [Likes, List.length_map]
  refine ⟨h, fun x hx => ?_⟩
  obtain ⟨i, _, rfl⟩ := List.mem_map.mp hx
  exact likes_ent n i
abbrev OFz (o : Option Sl) : Prop := o = none ∨ ∃ d, o = some (.fz d)
def t_lanswers (K : PySem.W.Frag) : TS := (tRet (tLc (iSeq K (tOp (rIx K) (tCall (spD ct_walk) [] E0 (tCons (tVar 0) (tCons (tVar 1) tNil))) (tC (.int 0)))) (gName 2) tYes (tOp (rIx K) (tVar 2) (tC (.int 0))) [2]))

def d_lanswers : DS := (dRet (dLc (dSeqI (dOp2 oIx (dCall ct_walk (dCons (dVar 0) (dCons (dVar 1) dNil))) (dC (.int 0)))) (dgName 2) dYes (dOp2 oIx (dVar 2) (dC (.int 0))) [2]))

theorem sim_lanswers {K : PySem.W.Frag} : SimS (t_lanswers K) d_lanswers := (simS_ret (simE_lc (simI_seq (simE_op2 simR2_ix (simE_call rfl (simA_cons simE_var (simA_cons simE_var simA_nil))) (simE_c fun _ _ => .int _))) simG_name (tg_name (by decide)) simT_yes (simE_op2 simR2_ix simE_var (simE_c fun _ _ => .int _))))

theorem law_lanswers (ds : List PyData) (Z : Rs → PyData → Prop) (hl : ds.length = ct_lanswers.n) (h : ct_lanswers.pre ds Z) : d_lanswers (endsD ct_lanswers.io Z) (startD 3 ct_lanswers.io ds) := by
  obtain ⟨r, s, rfl, F, h8, hZ⟩ := h
  show d_lanswers (endsD none Z) [some (.fz (rowD r)), some (.fz (schD s)), none]
  have hw := walk_len r s (empt r)
  have hlen := F.fewS
  unfold d_lanswers
  simp only [dRet]
  unfold dLc
  walk_at "e"
  refine ⟨rfl, r, s, rfl, F, h8, ?_⟩
  walk_at "e"
  refine ⟨by simp [freeAt], by rw [hw.1]; omega, ?_⟩
  refine lcLoop_map (fun d => match d with
    | .tuple (x :: _) => x
    | d => d) (fun x hx V hV => ?_) ?_
  · obtain ⟨⟨i, j⟩, hi, rfl⟩ := List.mem_map.mp hx
    unfold ansD at hV ⊢
    walk_at "d"
    exact hV
  · have e1 : (answers r s).map PyData.int = ((walk r (empt r) s).1.map ansD).map (fun d => match d with
      | .tuple (x :: _) => x
      | d => d) := by
      unfold answers ansD
      rw [List.map_map, List.map_map]
      rfl
    rw [e1] at hZ
    exact hZ
end St
set_option Elab.async false
set_option linter.all false
set_option maxRecDepth 100000
set_option maxHeartbeats 4000000
namespace St
open PySem L2 Dl
/-! the data reading unfolded as far as it goes -/
local macro_rules | `(tactic| walk_at "d") => `(tactic| simp (config := { decide := false }) only [dSeq, dAsg, dAsgO, dAppS, dApp, dSetS, dSet, dAug, dRet, dRetN, dDrop, dDPut, dDGet2, dDNewK, dDNewT, dIfS, dFor, dNext, dBreak, dCont, dOp1, dOp2, dTup, dLst, dCons, dNil, dC, dCB, dVar, dVarR, dIfE, dTest, dAnd, dOr, dNot, dAndV, dOrV, dNotV, dChain, dCall, dCallL, dCallIO, dIsi, dSl, dPart, dNoPart, dSeqI, dRng1, dRng2, dDGet2, dDNewK, dDNewT, dRng3, dEnum, dZip, stoAll, itemsD, Option.some.injEq, exists_eq_left', dYes, dIx0, dRetT, dgName, dgTup, dgCons, dgNil, oFdiv, oMod, oPow, oLt, oLe, oGt, oGe, cmpD,
  wipeD, restD, Option.getD_some, Option.getD_none, Int.zero_add, Int.toNat_natCast, isi_lt_lst, isi_lt_tup, isi_lt_non, isi_lt_bl, isi_lt_int, isi_lt_str, isi_int_non, isi_int_bl, isi_int_int, isi_int_str, isi_int_lst, isi_int_tup, isi_bl_non, isi_bl_bl, isi_bl_int, isi_bl_str, isi_bl_lst, isi_bl_tup, isi_tup_non, isi_tup_bl, isi_tup_int, isi_tup_str, isi_tup_lst, isi_tup_tup, oEq_int, oNe_int, oEq_bl, oNe_bl, eq_self, decide_true, ixN_31, ixN_32, atI_0, atI_1, atI_2, atI_3, oIx_tup, oIx_lst, oLen_tup, oLen_lst, oListOf_tup, oListOf_lst, oTupOf_tup, oTupOf_lst, oAdd_int, oAdd_tup, oAdd_lst, oMul_int, oMul_tup, oMul_lst, dI0_int, dI_int, oIs_non, oIs_bl, isN_non, isN_int, isN_tup, isN_lst, isN_bl, oNeg_int, oMin2_int, oMax2_int, oInt_int, oInt_bl, oSl_tup, oSl_lst, ends_fz, ends_nw, ends_np, ends_nx, ends_br, ends_fzi, ends_nwi, ends_bri, retD_br,
  List.getElem?_cons_zero, List.getElem?_cons_succ, List.set_cons_zero, List.set_cons_succ, List.length_cons, List.length_nil, List.length_map, List.map_cons, List.map_nil, List.length_append, dat_fz, dat_nw, dat_br, dat_np, sto_fz, sto_nw, sto_np, sto_br, stoAll, datAt, Sl.dat, Sl.own, Sl.with, ioSlot, stoBut, if_true, true_and, and_true, reduceCtorEq, Option.some.injEq, PyData.int.injEq, PyData.tuple.injEq, PyData.list.injEq, PyData.bool.injEq,  exists_eq_left', exists_eq_left, Bool.true_eq_false, Bool.false_eq_true, if_false, Bool.true_xor, Bool.false_xor, Bool.not_true, Bool.not_false,
  Nat.reduceAdd, Nat.reduceLeDiff, Nat.reduceEqDiff, Nat.reduceLT, Int.reduceNeg, Int.reduceLE, Int.reduceLT, Nat.zero_le, ne_eq, not_false_eq_true, List.cons_ne_nil, not_true_eq_false])
local macro_rules | `(tactic| walk_at "e") => `(tactic| simp (config := { decide := false }) only [dOp1, dOp2, dTup, dLst, dCons, dNil, dC, dCB, dVar, dVarR, dIfE, dTest, dAnd, dOr, dNot, dAndV, dOrV, dNotV, dChain, dCall, dCallL, dCallIO, dIsi, dSl, dPart, dNoPart, dSeqI, dRng1, dRng2, dDGet2, dDNewK, dDNewT, dRng3, dEnum, dZip, stoAll, itemsD, Option.some.injEq, exists_eq_left', dYes, dIx0, oFdiv, oMod, oPow, oLt, oLe, oGt, oGe, cmpD,
  wipeD, restD, Option.getD_some, Option.getD_none, Int.zero_add, Int.toNat_natCast, isi_lt_lst, isi_lt_tup, isi_lt_non, isi_lt_bl, isi_lt_int, isi_lt_str, isi_int_non, isi_int_bl, isi_int_int, isi_int_str, isi_int_lst, isi_int_tup, isi_bl_non, isi_bl_bl, isi_bl_int, isi_bl_str, isi_bl_lst, isi_bl_tup, isi_tup_non, isi_tup_bl, isi_tup_int, isi_tup_str, isi_tup_lst, isi_tup_tup, oEq_int, oNe_int, oEq_bl, oNe_bl, eq_self, decide_true, ixN_31, ixN_32, atI_0, atI_1, atI_2, atI_3, oIx_tup, oIx_lst, oLen_tup, oLen_lst, oListOf_tup, oListOf_lst, oTupOf_tup, oTupOf_lst, oAdd_int, oAdd_tup, oAdd_lst, oMul_int, oMul_tup, oMul_lst, dI0_int, dI_int, oIs_non, oIs_bl, isN_non, isN_int, isN_tup, isN_lst, isN_bl, oNeg_int, oMin2_int, oMax2_int, oInt_int, oInt_bl, oSl_tup, oSl_lst, ends_fz, ends_nw, ends_np, ends_nx, ends_br, ends_fzi, ends_nwi, ends_bri, retD_br,
  List.getElem?_cons_zero, List.getElem?_cons_succ, List.set_cons_zero, List.set_cons_succ, List.length_cons, List.length_nil, List.length_map, List.map_cons, List.map_nil, List.length_append, dat_fz, dat_nw, dat_br, dat_np, sto_fz, sto_nw, sto_np, sto_br, stoAll, datAt, Sl.dat, Sl.own, Sl.with, ioSlot, stoBut, if_true, true_and, and_true, reduceCtorEq, Option.some.injEq, PyData.int.injEq, PyData.tuple.injEq, PyData.list.injEq, PyData.bool.injEq,  exists_eq_left', exists_eq_left, Bool.true_eq_false, Bool.false_eq_true, if_false, Bool.true_xor, Bool.false_xor, Bool.not_true, Bool.not_false,
  Nat.reduceAdd, Nat.reduceLeDiff, Nat.reduceEqDiff, Nat.reduceLT, Int.reduceNeg, Int.reduceLE, Int.reduceLT, Nat.zero_le, ne_eq, not_false_eq_true, List.cons_ne_nil, not_true_eq_false])
/-- arbitrary data, n levels deep, m long -/
def Any : Nat → Nat → PyData → Prop
  | 0, _, _ => False
  | n + 1, m, .list ds => ds.length ≤ m ∧ ∀ x ∈ ds, Any n m x
  | n + 1, m, .tuple ds => ds.length ≤ m ∧ ∀ x ∈ ds, Any n m x
  | _ + 1, m, .str x => x.length ≤ m ∧ PyData.strOk x = true
  | _ + 1, _, .none => True
  | _ + 1, _, .bool _ => True
  | _ + 1, _, .int _ => True
  | _ + 1, _, .dict _ => False
theorem any_lst {n m : Nat} {ds : List PyData} : Any (n + 1) m (.list ds) ↔ (ds.length ≤ m ∧ ∀ x ∈ ds, Any n m x) := by simp [Any]
theorem any_tup {n m : Nat} {ds : List PyData} : Any (n + 1) m (.tuple ds) ↔ (ds.length ≤ m ∧ ∀ x ∈ ds, Any n m x) := by simp [Any]
theorem any_str {n m : Nat} {x : Str} : Any (n + 1) m (.str x) ↔ (x.length ≤ m ∧ PyData.strOk x = true) := by simp [Any]
theorem any_int {n m : Nat} {i : Int} : Any (n + 1) m (.int i) := by simp [Any]
theorem any_bl {n m : Nat} {b : Bool} : Any (n + 1) m (.bool b) := by simp [Any]
theorem any_non {n m : Nat} : Any (n + 1) m .none := by simp [Any]
theorem any_dict {n m : Nat} {k : List (PyData × PyData)} (h : Any n m (.dict k)) : False := by cases n <;> simp [Any] at h
theorem any0 {m : Nat} {d : PyData} (h : Any 0 m d) : False := by simp [Any] at h
theorem Any.mono : ∀ {n n' m m' : Nat} {d : PyData}, Any n m d → n ≤ n' → m ≤ m' → Any n' m' d
  | 0, _, _, _, _, h, _, _ => (any0 h).elim
  | n + 1, 0, _, _, _, _, h, _ => absurd h (by omega)
  | n + 1, n' + 1, m, m', .list ds, h, h1, h2 => by
    rw [any_lst] at h ⊢
    exact ⟨by omega, fun x hx => (h.2 x hx).mono (by omega) h2⟩
  | n + 1, n' + 1, m, m', .tuple ds, h, h1, h2 => by
    rw [any_tup] at h ⊢
    exact ⟨by omega, fun x hx => (h.2 x hx).mono (by omega) h2⟩
  | n + 1, n' + 1, m, m', .str x, h, h1, h2 => by
    rw [any_str] at h ⊢
    exact ⟨by omega, h.2⟩
  | n + 1, n' + 1, m, m', .none, h, h1, h2 => any_non
  | n + 1, n' + 1, m, m', .bool _, h, h1, h2 => any_bl
  | n + 1, n' + 1, m, m', .int _, h, h1, h2 => any_int
  | n + 1, n' + 1, m, m', .dict _, h, h1, h2 => (any_dict h).elim
mutual
theorem Any.lay : ∀ (n m : Nat) (d : PyData), Any n m d → d.canLay0 = true ∧ d.depth ≤ n
  | 0, _, _, h => (any0 h).elim
  | n + 1, _, .none, _ => by simp [PyData.canLay0, PyData.depth]
  | n + 1, _, .bool _, _ => by simp [PyData.canLay0, PyData.depth]
  | n + 1, _, .int _, _ => by simp [PyData.canLay0, PyData.depth]
  | n + 1, m, .list ds, h => by
    have := Any.layAll n m ds (any_lst.mp h).2
    simp only [PyData.canLay0, PyData.depth]
    exact ⟨this.1, by omega⟩
  | n + 1, m, .tuple ds, h => by
    have := Any.layAll n m ds (any_tup.mp h).2
    simp only [PyData.canLay0, PyData.depth]
    exact ⟨this.1, by omega⟩
  | n + 1, m, .str x, h => by
    simp only [PyData.canLay0, PyData.depth]
    exact ⟨(any_str.mp h).2, by omega⟩
  | n + 1, m, .dict _, h => (any_dict h).elim
theorem Any.layAll : ∀ (n m : Nat) (ds : List PyData), (∀ x ∈ ds, Any n m x) → PyData.canLayAll0 ds = true ∧ PyData.depthAll ds ≤ n
  | _, _, [], _ => by simp [PyData.canLayAll0, PyData.depthAll]
  | n, m, d :: ds, h => by
    have h1 := Any.lay n m d (h d List.mem_cons_self)
    have h2 := Any.layAll n m ds fun x hx => h x (List.mem_cons_of_mem _ hx)
    simp only [PyData.canLayAll0, PyData.depthAll, h1.1, h2.1, Bool.and_self, true_and]
    omega
end
theorem Any.shp {n m : Nat} {d : PyData} (h : Any n m d) (hn : n ≤ 64) : SeqAt.shaped d = true := by
  obtain ⟨h1, h2⟩ := Any.lay n m d h
  show (d.canLay0 && decide (d.depth ≤ 64)) = true
  rw [h1, decide_eq_true (show d.depth ≤ 64 by omega)]
  rfl
/-- some list == [] -/
theorem oNe_nil {n m : Nat} {ds : List PyData} {Z : Rs → Prop} (h : Any n m (.list ds)) (hn : n ≤ 64) (q : Z (.fz (.bool (!ds.isEmpty)))) : oNe (.list ds) (.list []) Z := by
  refine ⟨h.shp hn, by rfl, ?_⟩
  cases ds with
  | nil => simpa [PyData.eqv, PyData.eqvAll] using q
  | cons x xs => simpa [PyData.eqv, PyData.eqvAll] using q
def isIntB (lo hi : Int) : PyData → Bool
  | .int i => decide (lo ≤ i) && decide (i ≤ hi)
  | _ => false
theorem isIntB_int {lo hi i : Int} : isIntB lo hi (.int i) = (decide (lo ≤ i) && decide (i ≤ hi)) := rfl
def isWh : PyData → Bool
  | .int _ => true
  | _ => false
def ct_is_integer : CT := CT.mk 3 none fun ds Z => ∃ (d : PyData) (lo hi : Int) (n m : Nat), ds = [d, .int lo, .int hi] ∧ Any n m d ∧ Z (.fz (.bool (isIntB lo hi d))) .none
def ct_whole : CT := CT.mk 1 none fun ds Z => ∃ (d : PyData) (n m : Nat), ds = [d] ∧ Any n m d ∧ Z (.fz (.bool (isWh d))) .none
def ct_within : CT := CT.mk 3 none fun ds Z => ∃ (d : PyData) (lo hi : Int) (n m : Nat), ds = [d, .int lo, .int hi] ∧ Any n m d ∧ Z (.fz (.bool (isIntB lo hi d))) .none
def RowP (d : PyData) : Prop := ∃ ls ps : List Int, d = .tuple [.tuple (ls.map PyData.int), .tuple (ps.map PyData.int)] ∧ ls.length ≤ 8 ∧ (∀ l ∈ ls, 1 ≤ l ∧ l ≤ 1000) ∧ 1 ≤ ps.length ∧ ps.length ≤ 5 ∧ (∀ p ∈ ps, 0 ≤ p ∧ p ≤ (ls.length : Int)) ∧ ps.Pairwise (· ≤ ·)
def icD (x : Int × Int) : PyData := .tuple [.int x.1, .int x.2]
def ReadP (k : Int) (d : PyData) : Prop := ∃ x : Int × Int, d = icD x ∧ 0 ≤ x.1 ∧ x.1 ≤ 1000000000 ∧ 0 ≤ x.2 ∧ x.2 ≤ k
def SchP (k : Int) (d : PyData) : Prop := ∃ s : List (Int × Int), d = .tuple (s.map icD) ∧ s.length ≤ 40 ∧ (∀ x ∈ s, 0 ≤ x.1 ∧ x.1 ≤ 1000000000 ∧ 0 ≤ x.2 ∧ x.2 ≤ k) ∧ s.Pairwise (fun x y => x.1 ≤ y.1)
open Classical in
noncomputable def boolOf (p : Prop) : Bool := decide p
theorem boolOf_t {p : Prop} (h : p) : boolOf p = true := by unfold boolOf; simp [h]
theorem boolOf_f {p : Prop} (h : ¬ p) : boolOf p = false := by unfold boolOf; simp [h]
def ct_is_row : CT := CT.mk 1 none fun ds Z => ∃ (d : PyData) (n m : Nat), ds = [d] ∧ Any n m d ∧ n ≤ 20 ∧ m ≤ 1000 ∧ Z (.fz (.bool (boolOf (RowP d)))) .none
def calD (c : Cal) : PyData := .tuple [.int c.1, .int c.2.1, .int (c.2.2 : Int)]
def rdD (x : Int × Int × Int) : PyData := .tuple [.int x.1, .int x.2.1, .int x.2.2]
/-- data that this law's _law_like takes, n levels deep -/
def LikesS : Nat → PyData → Prop
  | 0, _ => False
  | n + 1, .list ds => ds.length ≤ 1000 ∧ ∀ x ∈ ds, LikesS n x
  | n + 1, .tuple ds => ds.length ≤ 1000 ∧ ∀ x ∈ ds, LikesS n x
  | _ + 1, .none => True
  | _ + 1, .bool _ => True
  | _ + 1, .int _ => True
  | _ + 1, .str x => PyData.strOk x = true
  | _ + 1, .dict _ => False
def ct_like2 (n : Nat) : CT := CT.mk 2 none fun ds Z => ∃ a : PyData, ds = [a, a] ∧ LikesS n a ∧ Z (.fz (.bool true)) .none
theorem like2_zero (ds : List PyData) (Z : Rs → PyData → Prop) (h : (ct_like2 0).pre ds Z) : False := by
  obtain ⟨a, _, h, _⟩ := h
  exact h
def ct_now : CT := CT.mk 2 none fun ds Z => ∃ (r : Row) (cs : List Cal), ds = [rowD r, .list (cs.map calD)] ∧ CalOk r cs ∧ cs.length ≤ 100 ∧ r.ls.length ≤ 8 ∧ (∀ p ∈ r.ps, p ≤ r.ls.length) ∧
  Z (.fz (.tuple [.list ((stOf r cs).1.map entD), .list ((stOf r cs).2.1.map rdD)])) .none
def t_is_integer (K : PySem.W.Frag) : TS := (tRet (tAndV (tCB (rIsi K) (tCons (tVar 0) (tCons (tC (.ty "int")) tNil))) (tAndV (tNotV (tCB (rIsi K) (tCons (tVar 0) (tCons (tC (.ty "bool")) tNil)))) (tChain (rI0 fun i j => .bl (decide (i ≤ j))) (rI0 fun i j => .bl (decide (i ≤ j))) (tVar 1) (tVar 0) (tVar 2)))))

def d_is_integer : DS := (dRet (dAndV (dIsi ["int"] (dVar 0)) (dAndV (dNotV (dIsi ["bool"] (dVar 0))) (dChain oLe oLe (dVar 1) (dVar 0) (dVar 2)))))

theorem sim_is_integer {K : PySem.W.Frag} : SimS (t_is_integer K) d_is_integer := (simS_ret (simE_andV (simE_isi1 (by decide +kernel) simE_var) (simE_andV (simE_notV (simE_isi1 (by decide +kernel) simE_var)) (simE_chain simR2_le simR2_le simE_var simE_var simE_var))))

def t_is_row (K : PySem.W.Frag) : TS := (tSeq (tIfS (tOr (tNot (tB (tCB (rIsi K) (tCons (tVar 0) (tCons (tC (.ty "tuple")) tNil))))) (tTest (tOp (rNeD K) (tCB (rLenU K) (tCons (tVar 0) tNil)) (tC (.int 2))))) (tRet (tC (.bl false))) tNext)
  (tSeq (tAsg (tVar 0) (gTup K 2 (gCons (gName 1) (gCons (gName 2) gNil))))
  (tSeq (tIfS (tOr (tNot (tB (tCB (rIsi K) (tCons (tVar 1) (tCons (tC (.ty "tuple")) tNil))))) (tTest (tOp (rI0 fun i j => .bl (decide (j < i))) (tCB (rLenU K) (tCons (tVar 1) tNil)) (tC (.int 8))))) (tRet (tC (.bl false))) tNext)
  (tSeq (tIfS (tNot (tB (tCB (rAll K) (tCons (tLc (iSeq K (tVar 1)) (gName 3) tYes (tCall (spD ct_is_integer) [] E0 (tCons (tVar 3) (tCons (tC (.int 1)) (tCons (tC (.int 1000)) tNil)))) [3]) tNil)))) (tRet (tC (.bl false))) tNext)
  (tSeq (tIfS (tOr (tNot (tB (tCB (rIsi K) (tCons (tVar 2) (tCons (tC (.ty "tuple")) tNil))))) (tNot (tTest (tChain (rI0 fun i j => .bl (decide (i ≤ j))) (rI0 fun i j => .bl (decide (i ≤ j))) (tC (.int 1)) (tCB (rLenU K) (tCons (tVar 2) tNil)) (tC (.int 5)))))) (tRet (tC (.bl false))) tNext)
  (tSeq (tIfS (tNot (tB (tCB (rAll K) (tCons (tLc (iSeq K (tVar 2)) (gName 4) tYes (tCall (spD ct_is_integer) [] E0 (tCons (tVar 4) (tCons (tC (.int 0)) (tCons (tCB (rLenU K) (tCons (tVar 1) tNil)) tNil)))) [4]) tNil)))) (tRet (tC (.bl false))) tNext)
  (tRet (tCB (rAll K) (tCons (tLc (iZipU K (tCons (tVar 2) (tCons (tSl (rSlU K) (tVar 2) (tPart (tC (.int 1))) tNoPart) tNil))) (gTup K 2 (gCons (gName 5) (gCons (gName 6) gNil))) tYes (tOp (rI0 fun i j => .bl (decide (i ≤ j))) (tVar 5) (tVar 6)) [5, 6]) tNil)))))))))

def d_is_row : DS := (dSeq (dIfS (dOr (dNot (dTest (dIsi ["tuple"] (dVar 0)))) (dTest (dOp2 oNe (dCB oLen (dCons (dVar 0) dNil)) (dC (.int 2))))) (dRet (dC (.bool false))) dNext)
  (dSeq (dAsg (dVar 0) (dgTup 2 (dgCons (dgName 1) (dgCons (dgName 2) dgNil))))
  (dSeq (dIfS (dOr (dNot (dTest (dIsi ["tuple"] (dVar 1)))) (dTest (dOp2 oGt (dCB oLen (dCons (dVar 1) dNil)) (dC (.int 8))))) (dRet (dC (.bool false))) dNext)
  (dSeq (dIfS (dNot (dTest (dCB oAll (dCons (dLc (dSeqI (dVar 1)) (dgName 3) dYes (dCall ct_is_integer (dCons (dVar 3) (dCons (dC (.int 1)) (dCons (dC (.int 1000)) dNil)))) [3]) dNil)))) (dRet (dC (.bool false))) dNext)
  (dSeq (dIfS (dOr (dNot (dTest (dIsi ["tuple"] (dVar 2)))) (dNot (dTest (dChain oLe oLe (dC (.int 1)) (dCB oLen (dCons (dVar 2) dNil)) (dC (.int 5)))))) (dRet (dC (.bool false))) dNext)
  (dSeq (dIfS (dNot (dTest (dCB oAll (dCons (dLc (dSeqI (dVar 2)) (dgName 4) dYes (dCall ct_is_integer (dCons (dVar 4) (dCons (dC (.int 0)) (dCons (dCB oLen (dCons (dVar 1) dNil)) dNil)))) [4]) dNil)))) (dRet (dC (.bool false))) dNext)
  (dRet (dCB oAll (dCons (dLc (dZip (dCons (dVar 2) (dCons (dSl (dVar 2) (dPart (dC (.int 1))) dNoPart) dNil))) (dgTup 2 (dgCons (dgName 5) (dgCons (dgName 6) dgNil))) dYes (dOp2 oLe (dVar 5) (dVar 6)) [5, 6]) dNil)))))))))

theorem sim_is_row {K : PySem.W.Frag} : SimS (t_is_row K) d_is_row := (simS_seq (simS_if (simT_or (simT_not (simT_B (simE_isi1 (by decide +kernel) simE_var))) (simT_test (simE_op2 simR2_ne (simE_cb simRN_len (simA_cons simE_var simA_nil)) (simE_c fun _ _ => .int _)))) (simS_ret (simE_c fun _ _ => .bl _)) simS_next)
  (simS_seq (simS_asg simE_var (simG_tup (simGs_cons simG_name (simGs_cons simG_name simGs_nil))))
  (simS_seq (simS_if (simT_or (simT_not (simT_B (simE_isi1 (by decide +kernel) simE_var))) (simT_test (simE_op2 simR2_gt (simE_cb simRN_len (simA_cons simE_var simA_nil)) (simE_c fun _ _ => .int _)))) (simS_ret (simE_c fun _ _ => .bl _)) simS_next)
  (simS_seq (simS_if (simT_not (simT_B (simE_cb simRN_all (simA_cons (simE_lc (simI_seq simE_var) simG_name (tg_name (by decide)) simT_yes (simE_call rfl (simA_cons simE_var (simA_cons (simE_c fun _ _ => .int _) (simA_cons (simE_c fun _ _ => .int _) simA_nil))))) simA_nil)))) (simS_ret (simE_c fun _ _ => .bl _)) simS_next)
  (simS_seq (simS_if (simT_or (simT_not (simT_B (simE_isi1 (by decide +kernel) simE_var))) (simT_not (simT_test (simE_chain simR2_le simR2_le (simE_c fun _ _ => .int _) (simE_cb simRN_len (simA_cons simE_var simA_nil)) (simE_c fun _ _ => .int _))))) (simS_ret (simE_c fun _ _ => .bl _)) simS_next)
  (simS_seq (simS_if (simT_not (simT_B (simE_cb simRN_all (simA_cons (simE_lc (simI_seq simE_var) simG_name (tg_name (by decide)) simT_yes (simE_call rfl (simA_cons simE_var (simA_cons (simE_c fun _ _ => .int _) (simA_cons (simE_cb simRN_len (simA_cons simE_var simA_nil)) simA_nil))))) simA_nil)))) (simS_ret (simE_c fun _ _ => .bl _)) simS_next)
  (simS_ret (simE_cb simRN_all (simA_cons (simE_lc (simI_zip (simA_cons simE_var (simA_cons (simE_sl simE_var (simO_some (simE_c fun _ _ => .int _)) simO_none) simA_nil))) (simG_tup (simGs_cons simG_name (simGs_cons simG_name simGs_nil))) (tg_tup (tgs_cons (tg_name (by decide)) (tgs_cons (tg_name (by decide)) tgs_nil))) simT_yes (simE_op2 simR2_le simE_var simE_var)) simA_nil)))))))))

def t_whole (K : PySem.W.Frag) : TS := (tRet (tAndV (tCB (rIsi K) (tCons (tVar 0) (tCons (tC (.ty "int")) tNil))) (tNotV (tCB (rIsi K) (tCons (tVar 0) (tCons (tC (.ty "bool")) tNil))))))

def d_whole : DS := (dRet (dAndV (dIsi ["int"] (dVar 0)) (dNotV (dIsi ["bool"] (dVar 0)))))

theorem sim_whole {K : PySem.W.Frag} : SimS (t_whole K) d_whole := (simS_ret (simE_andV (simE_isi1 (by decide +kernel) simE_var) (simE_notV (simE_isi1 (by decide +kernel) simE_var))))

def t_within (K : PySem.W.Frag) : TS := (tRet (tAndV (tCall (spD ct_whole) [] E0 (tCons (tVar 0) tNil)) (tChain (rI0 fun i j => .bl (decide (i ≤ j))) (rI0 fun i j => .bl (decide (i ≤ j))) (tVar 1) (tVar 0) (tVar 2))))

def d_within : DS := (dRet (dAndV (dCall ct_whole (dCons (dVar 0) dNil)) (dChain oLe oLe (dVar 1) (dVar 0) (dVar 2))))

theorem sim_within {K : PySem.W.Frag} : SimS (t_within K) d_within := (simS_ret (simE_andV (simE_call rfl (simA_cons simE_var simA_nil)) (simE_chain simR2_le simR2_le simE_var simE_var simE_var)))

def t_like2 (K : PySem.W.Frag) (n : Nat) : TS := (tSeq (tIfS (tB (tCB (rIsiT K) (tCons (tVar 0) (tCons (tTup (tysA ["list", "tuple"])) tNil)))) (tSeq (tIfS (tOr (tTest (tOp (rNeD K) (tCB (rIsi K) (tCons (tVar 0) (tCons (tC (.ty "list")) tNil))) (tCB (rIsi K) (tCons (tVar 1) (tCons (tC (.ty "list")) tNil))))) (tTest (tOp (rNeD K) (tCB (rIsi K) (tCons (tVar 0) (tCons (tC (.ty "tuple")) tNil))) (tCB (rIsi K) (tCons (tVar 1) (tCons (tC (.ty "tuple")) tNil)))))) (tRet (tC (.bl false))) tNext)
  (tSeq (tIfS (tTest (tOp (rNeD K) (tCB (rLenU K) (tCons (tVar 0) tNil)) (tCB (rLenU K) (tCons (tVar 1) tNil)))) (tRet (tC (.bl false))) tNext)
  (tRet (tOp (rEqD K) (tLc (iRng1 (tCons (tCB (rLenU K) (tCons (tVar 0) tNil)) tNil)) (gName 2) (tNot (tB (tCall (spD (ct_like2 n)) [] E0 (tCons (tOp (rIx K) (tVar 0) (tVar 2)) (tCons (tOp (rIx K) (tVar 1) (tVar 2)) tNil))))) (tVar 2) [2]) (tLst tNil))))) tNext)
  (tSeq (tIfS (tB (tCB (rIsiT K) (tCons (tVar 1) (tCons (tTup (tysA ["list", "tuple"])) tNil)))) (tRet (tC (.bl false))) tNext)
  (tRet (tAndV (tOp (rEqD K) (tCB (rIsi K) (tCons (tVar 0) (tCons (tC (.ty "bool")) tNil))) (tCB (rIsi K) (tCons (tVar 1) (tCons (tC (.ty "bool")) tNil)))) (tOp (rEqD K) (tVar 0) (tVar 1))))))

def d_like2 (n : Nat) : DS := (dSeq (dIfS (dTest (dIsi ["list", "tuple"] (dVar 0))) (dSeq (dIfS (dOr (dTest (dOp2 oNe (dIsi ["list"] (dVar 0)) (dIsi ["list"] (dVar 1)))) (dTest (dOp2 oNe (dIsi ["tuple"] (dVar 0)) (dIsi ["tuple"] (dVar 1))))) (dRet (dC (.bool false))) dNext)
  (dSeq (dIfS (dTest (dOp2 oNe (dCB oLen (dCons (dVar 0) dNil)) (dCB oLen (dCons (dVar 1) dNil)))) (dRet (dC (.bool false))) dNext)
  (dRet (dOp2 oEq (dLc (dRng1 (dCons (dCB oLen (dCons (dVar 0) dNil)) dNil)) (dgName 2) (dNot (dTest (dCall (ct_like2 n) (dCons (dOp2 oIx (dVar 0) (dVar 2)) (dCons (dOp2 oIx (dVar 1) (dVar 2)) dNil))))) (dVar 2) [2]) (dLst dNil))))) dNext)
  (dSeq (dIfS (dTest (dIsi ["list", "tuple"] (dVar 1))) (dRet (dC (.bool false))) dNext)
  (dRet (dAndV (dOp2 oEq (dIsi ["bool"] (dVar 0)) (dIsi ["bool"] (dVar 1))) (dOp2 oEq (dVar 0) (dVar 1))))))

theorem sim_like2 {K : PySem.W.Frag} (n : Nat) : SimS (t_like2 K n) (d_like2 n) := (simS_seq (simS_if (simT_B (simE_isiT (by decide +kernel) (by decide) simE_var)) (simS_seq (simS_if (simT_or (simT_test (simE_op2 simR2_ne (simE_isi1 (by decide +kernel) simE_var) (simE_isi1 (by decide +kernel) simE_var))) (simT_test (simE_op2 simR2_ne (simE_isi1 (by decide +kernel) simE_var) (simE_isi1 (by decide +kernel) simE_var)))) (simS_ret (simE_c fun _ _ => .bl _)) simS_next)
  (simS_seq (simS_if (simT_test (simE_op2 simR2_ne (simE_cb simRN_len (simA_cons simE_var simA_nil)) (simE_cb simRN_len (simA_cons simE_var simA_nil)))) (simS_ret (simE_c fun _ _ => .bl _)) simS_next)
  (simS_ret (simE_op2 simR2_eq (simE_lc (simI_rng1 (simA_cons (simE_cb simRN_len (simA_cons simE_var simA_nil)) simA_nil)) simG_name (tg_name (by decide)) (simT_not (simT_B (simE_call rfl (simA_cons (simE_op2 simR2_ix simE_var simE_var) (simA_cons (simE_op2 simR2_ix simE_var simE_var) simA_nil))))) simE_var) (simE_lst simA_nil))))) simS_next)
  (simS_seq (simS_if (simT_B (simE_isiT (by decide +kernel) (by decide) simE_var)) (simS_ret (simE_c fun _ _ => .bl _)) simS_next)
  (simS_ret (simE_andV (simE_op2 simR2_eq (simE_isi1 (by decide +kernel) simE_var) (simE_isi1 (by decide +kernel) simE_var)) (simE_op2 simR2_eq simE_var simE_var)))))

def t_now (K : PySem.W.Frag) : TS := (tSeq (tPar 2 3 (tCons (tOp (rMulU K) (tLst (tCons (tC .non) tNil)) (tCB (rLenU K) (tCons (tOp (rIx K) (tVar 0) (tC (.int 0))) tNil))) (tCons (tLst tNil) tNil)))
  (tSeq (tFor (iSeq K (tVar 1)) (gTup K 3 (gCons (gName 4) (gCons (gName 5) (gCons (gName 6) gNil)))) (tIfS (tTest (tOp (rI0 fun i j => .bl (decide (i < j))) (tVar 4) (tC (.int 2)))) (tDrop (tBM K "list" rAppend (tVar 3) (tCons (tTup (tCons (tVar 5) (tCons (tVar 6) (tCons (tOp (rIx K) (tCall (spD (ct_ask 9)) [] E0 (tCons (tVar 0) (tCons (tVar 2) (tCons (tVar 5) (tCons (tOp (rIx K) (tOp (rIx K) (tVar 0) (tC (.int 1))) (tVar 6)) tNil))))) (tC (.int 0))) tNil)))) tNil))) (tAsg (tC .non) (gSub (tVar 2) (tVar 6) rSetL))))
  (tRet (tTup (tCons (tVar 2) (tCons (tVar 3) tNil))))))

def d_now : DS := (dSeq (dSeq (dAsgO (dOp2 oMul (dLst (dCons (dC .none) dNil)) (dCB oLen (dCons (dOp2 oIx (dVar 0) (dC (.int 0))) dNil))) 2) (dAsgO (dLst dNil) 3))
  (dSeq (dFor (dSeqI (dVar 1)) (dgTup 3 (dgCons (dgName 4) (dgCons (dgName 5) (dgCons (dgName 6) dgNil)))) (dIfS (dTest (dOp2 oLt (dVar 4) (dC (.int 2)))) (dAppS 3 (dTup (dCons (dVar 5) (dCons (dVar 6) (dCons (dOp2 oIx (dCallIO (ct_ask 9) 1 (dCons (dVar 0) (dCons (dVar 2) (dCons (dVar 5) (dCons (dOp2 oIx (dOp2 oIx (dVar 0) (dC (.int 1))) (dVar 6)) dNil))))) (dC (.int 0))) dNil))))) (dSetS 2 (dC .none) (dVar 6))))
  (dRet (dTup (dCons (dVarR 2) (dCons (dVarR 3) dNil))))))

theorem sim_now {K : PySem.W.Frag} : SimS (t_now K) d_now := (simS_seq (simS_par (simS_seq (simS_asgO (i := 2) (simE_op2 simR2_mul (simE_lst (simA_cons (simE_c fun _ _ => .non) simA_nil)) (simE_cb simRN_len (simA_cons (simE_op2 simR2_ix simE_var (simE_c fun _ _ => .int _)) simA_nil)))) (simS_asgO (i := 3) (simE_lst simA_nil))) (ind_lst ind_nil))
  (simS_seq (simS_for (simI_seq simE_var) (simG_tup (simGs_cons simG_name (simGs_cons simG_name (simGs_cons simG_name simGs_nil)))) (simS_if (simT_test (simE_op2 simR2_lt simE_var (simE_c fun _ _ => .int _))) (simS_app (simE_tup (simA_cons simE_var (simA_cons simE_var (simA_cons (simE_op2 simR2_ix (simE_callIO (k := 1) rfl (simA_cons simE_var (simA_cons simE_var (simA_cons simE_var (simA_cons (simE_op2 simR2_ix (simE_op2 simR2_ix simE_var (simE_c fun _ _ => .int _)) simE_var) simA_nil))))) (simE_c fun _ _ => .int _)) simA_nil))))) (simS_set (i := 2) (simE_c fun _ _ => .non) simE_var)))
  (simS_ret (simE_tup (simA_cons simE_varR (simA_cons simE_varR simA_nil))))))

theorem law_is_integer (ds : List PyData) (Z : Rs → PyData → Prop) (hl : ds.length = ct_is_integer.n) (h : ct_is_integer.pre ds Z) : d_is_integer (endsD ct_is_integer.io Z) (startD 3 ct_is_integer.io ds) := by
  obtain ⟨d, lo, hi, n, m, rfl, A, hZ⟩ := h
  show d_is_integer (endsD none Z) [some (.fz d), some (.fz (.int lo)), some (.fz (.int hi))]
  unfold d_is_integer
  cases d with
  | dict k => exact (any_dict A).elim
  | none => walk_at "d"; exact hZ
  | bool b => walk_at "d"; exact hZ
  | str x => walk_at "d"; exact hZ
  | list x => walk_at "d"; exact hZ
  | tuple x => walk_at "d"; exact hZ
  | int i =>
    rw [isIntB_int] at hZ
    walk_at "d"
    by_cases h : lo ≤ i
    · rw [decide_eq_true h] at hZ ⊢
      exact hZ
    · rw [decide_eq_false h] at hZ ⊢
      exact hZ
theorem law_whole (ds : List PyData) (Z : Rs → PyData → Prop) (hl : ds.length = ct_whole.n) (h : ct_whole.pre ds Z) : d_whole (endsD ct_whole.io Z) (startD 1 ct_whole.io ds) := by
  obtain ⟨d, n, m, rfl, A, hZ⟩ := h
  show d_whole (endsD none Z) [some (.fz d)]
  unfold d_whole
  cases d with
  | dict k => exact (any_dict A).elim
  | none => walk_at "d"; exact hZ
  | bool b => walk_at "d"; exact hZ
  | str x => walk_at "d"; exact hZ
  | list x => walk_at "d"; exact hZ
  | tuple x => walk_at "d"; exact hZ
  | int i => walk_at "d"; exact hZ
theorem law_within (ds : List PyData) (Z : Rs → PyData → Prop) (hl : ds.length = ct_within.n) (h : ct_within.pre ds Z) : d_within (endsD ct_within.io Z) (startD 3 ct_within.io ds) := by
  obtain ⟨d, lo, hi, n, m, rfl, A, hZ⟩ := h
  show d_within (endsD none Z) [some (.fz d), some (.fz (.int lo)), some (.fz (.int hi))]
  unfold d_within
  walk_at "d"
  refine ⟨rfl, d, n, m, rfl, A, ?_⟩
  cases d with
  | dict k => exact (any_dict A).elim
  | none => exact hZ
  | bool b => exact hZ
  | str x => exact hZ
  | list x => exact hZ
  | tuple x => exact hZ
  | int i =>
    have e : isWh (.int i) = true := rfl
    rw [e]
    rw [isIntB_int] at hZ
    walk_at "d"
    by_cases h : lo ≤ i
    · rw [decide_eq_true h] at hZ ⊢
      exact hZ
    · rw [decide_eq_false h] at hZ ⊢
      exact hZ
theorem ints_of {lo hi : Int} : ∀ {xs : List PyData}, (∀ x ∈ xs, isIntB lo hi x = true) → ∃ ns : List Int, xs = ns.map PyData.int ∧ ∀ n ∈ ns, lo ≤ n ∧ n ≤ hi
  | [], _ => ⟨[], rfl, fun n hn => absurd hn List.not_mem_nil⟩
  | x :: xs, h => by
    obtain ⟨ns, e, hn⟩ := ints_of (xs := xs) fun y hy => h y (List.mem_cons_of_mem _ hy)
    have hx := h x (List.mem_cons_self ..)
    cases x with
    | int i =>
      rw [isIntB_int, Bool.and_eq_true] at hx
      refine ⟨i :: ns, by rw [e]; rfl, fun n hn' => ?_⟩
      rcases List.mem_cons.mp hn' with rfl | hn'
      · exact ⟨of_decide_eq_true hx.1, of_decide_eq_true hx.2⟩
      · exact hn n hn'
    | _ => exact absurd hx (by simp [isIntB])
theorem ints_all {lo hi : Int} {ns : List Int} (h : ∀ n ∈ ns, lo ≤ n ∧ n ≤ hi) : ∀ x ∈ ns.map PyData.int, isIntB lo hi x = true := fun x hx => by
  obtain ⟨n, hn, rfl⟩ := List.mem_map.mp hx
  rw [isIntB_int, decide_eq_true (h n hn).1, decide_eq_true (h n hn).2]
  rfl
theorem all_id {α : Type} (f : α → Bool) (xs : List α) : (xs.map f).all id = true ↔ ∀ x ∈ xs, f x = true := by
  rw [List.all_map, List.all_eq_true]
  rfl
def chk : List Int → List Bool
  | x :: y :: r => decide (x ≤ y) :: chk (y :: r)
  | [_] => []
  | [] => []
def leF (d : PyData) : PyData := match d with
    | .tuple [.int a, .int b] => .bool (decide (a ≤ b))
    | d => d
theorem leF_mk (a b : Int) : leF (.tuple [.int a, .int b]) = .bool (decide (a ≤ b)) := rfl
theorem chk_zip : ∀ ns : List Int, (zipDs (ns.map PyData.int) ((ns.map PyData.int).drop 1)).map leF = (chk ns).map PyData.bool
  | [] => rfl
  | [x] => rfl
  | x :: y :: r => by
    have := chk_zip (y :: r)
    simp only [List.map_cons, List.drop_succ_cons, List.drop_zero, zipDs, leF_mk, chk] at this ⊢
    rw [this]
theorem chk_all : ∀ ns : List Int, (chk ns).all id = true ↔ ns.Pairwise (· ≤ ·)
  | [] => by simp [chk]
  | [x] => by simp [chk]
  | x :: y :: r => by
    have ih := chk_all (y :: r)
    rw [chk, List.all_cons, Bool.and_eq_true, ih]
    simp only [id, decide_eq_true_eq]
    constructor
    · rintro ⟨h1, h2⟩
      refine List.pairwise_cons.mpr ⟨fun z hz => ?_, h2⟩
      rcases List.mem_cons.mp hz with rfl | hz
      · exact h1
      · have := (List.pairwise_cons.mp h2).1 z hz; omega
    · intro h
      exact ⟨(List.pairwise_cons.mp h).1 y (List.mem_cons_self ..), (List.pairwise_cons.mp h).2⟩
theorem oAll_of {Z : Rs → Prop} {α : Type} (f : α → Bool) (xs : List α) (q : Z (.fz (.bool ((xs.map f).all id)))) : oAll [.list (xs.map fun x => PyData.bool (f x))] Z := by
  refine ⟨xs.map f, ?_, q⟩
  have := blsOf_map (xs.map f)
  rw [List.map_map] at this
  exact this
theorem map_bool_eq {b : Bool} {xs : List PyData} (f : PyData → Bool) (h : (xs.map f).all id = b) (hb : b = false) : ∃ x ∈ xs, ¬ f x = true := by
  subst hb
  rcases Classical.em (∀ x ∈ xs, f x = true) with z | z
  · rw [(all_id f xs).mpr z] at h; cases h
  · exact Classical.byContradiction fun w => z fun x hx => Classical.byContradiction fun y => w ⟨x, hx, y⟩
theorem law_is_row (ds : List PyData) (Z : Rs → PyData → Prop) (hl : ds.length = ct_is_row.n) (h : ct_is_row.pre ds Z) : d_is_row (endsD ct_is_row.io Z) (startD 7 ct_is_row.io ds) := by
  obtain ⟨d, n, m, rfl, A, hn, hm, hZ⟩ := h
  show d_is_row (endsD none Z) [some (.fz d), none, none, none, none, none, none]
  have bad : ∀ {d}, Z (.fz (.bool (boolOf (RowP d)))) .none → ¬ RowP d → Z (.fz (.bool false)) .none := fun q h => by rw [boolOf_f h] at q; exact q
  unfold d_is_row
  cases d with
  | dict k => exact (any_dict A).elim
  | none => walk_at "d"; exact bad hZ fun ⟨_, _, e, _⟩ => by cases e
  | bool b => walk_at "d"; exact bad hZ fun ⟨_, _, e, _⟩ => by cases e
  | str x => walk_at "d"; exact bad hZ fun ⟨_, _, e, _⟩ => by cases e
  | list x => walk_at "d"; exact bad hZ fun ⟨_, _, e, _⟩ => by cases e
  | int x => walk_at "d"; exact bad hZ fun ⟨_, _, e, _⟩ => by cases e
  | tuple xs =>
  by_cases h2 : xs.length = 2
  rotate_left
  · rw [dSeq, dIfS]
    walk_at "e"
    rw [decide_eq_false (show ¬ (xs.length : Int) = 2 by omega)]
    walk_at "d"
    exact bad hZ fun ⟨_, _, e, _⟩ => by injection e with e; rw [e] at h2; exact h2 rfl
  obtain ⟨a, b, rfl⟩ : ∃ a b, xs = [a, b] := by
    match xs, h2 with
    | [a, b], _ => exact ⟨a, b, rfl⟩
  cases n with
  | zero => exact (any0 A).elim
  | succ n =>
  have A2 := (any_tup.mp A).2
  have Aa := A2 a (by simp)
  have Ab := A2 b (by simp)
  refine dSeq_by (fun ρ => ρ = [some (.fz (.tuple [a, b])), none, none, none, none, none, none]) (fun W hW => ?_) fun ρ ee => ?_
  · rw [dIfS]
    walk_at "e"
    walk_at "d"
    exact hW _ rfl
  subst ee
  refine dSeq_by (fun ρ => ρ = [some (.fz (.tuple [a, b])), some (.fz a), some (.fz b), none, none, none, none]) (fun W hW => ?_) fun ρ ee => ?_
  · walk_at "d"
    exact hW _ rfl
  subst ee
  have bad1 : (∀ ls, a ≠ .tuple ls) → Z (.fz (.bool false)) .none := fun h => bad hZ fun ⟨ls, ps, e, _⟩ => by
    injection e with e
    injection e with e _
    exact h _ e
  cases n with
  | zero => exact (any0 Aa).elim
  | succ n =>
  cases a with
  | dict k => exact (any_dict Aa).elim
  | none => walk_at "d"; exact bad1 fun _ => by simp
  | bool _ => walk_at "d"; exact bad1 fun _ => by simp
  | str _ => walk_at "d"; exact bad1 fun _ => by simp
  | list _ => walk_at "d"; exact bad1 fun _ => by simp
  | int _ => walk_at "d"; exact bad1 fun _ => by simp
  | tuple la =>
  clear bad1
  have Ala := (any_tup.mp Aa)
  by_cases h8 : la.length ≤ 8
  rotate_left
  · rw [dSeq, dIfS]
    walk_at "e"
    rw [decide_eq_true (show (8 : Int) < (la.length : Int) by omega)]
    walk_at "d"
    exact bad hZ fun ⟨ls, ps, e, h, _⟩ => by
      injection e with e
      injection e with e _
      injection e with e
      rw [e, List.length_map] at h8
      exact h8 h
  refine dSeq_by (fun ρ => ρ = [some (.fz (.tuple [.tuple la, b])), some (.fz (.tuple la)), some (.fz b), none, none, none, none]) (fun W hW => ?_) fun ρ ee => ?_
  · rw [dIfS]
    walk_at "e"
    rw [decide_eq_false (show ¬ (8 : Int) < (la.length : Int) by omega)]
    walk_at "d"
    exact hW _ rfl
  subst ee
  have comp : ∀ {W : DEnv → Prop} {rt : Rs → DEnv → Prop} {bk ct : DEnv → Prop} , (((la.map (isIntB 1 1000)).all id = false) → rt (.fz (.bool false)) [some (.fz (.tuple [.tuple la, b])), some (.fz (.tuple la)), some (.fz b), none, none, none, none]) →
      (((la.map (isIntB 1 1000)).all id = true) → W [some (.fz (.tuple [.tuple la, b])), some (.fz (.tuple la)), some (.fz b), none, none, none, none]) →
      dIfS (dNot (dTest (dCB oAll (dCons (dLc (dSeqI (dVar 1)) (dgName 3) dYes (dCall ct_is_integer (dCons (dVar 3) (dCons (dC (.int 1)) (dCons (dC (.int 1000)) dNil)))) [3]) dNil)))) (dRet (dC (.bool false))) dNext { nx := W, rt := rt, bk := bk, ct := ct } [some (.fz (.tuple [.tuple la, b])), some (.fz (.tuple la)), some (.fz b), none, none, none, none] := fun {W rt bk ct} q1 q2 => by
    rw [dIfS]
    walk_at "e"
    rw [dLc]
    walk_at "e"
    refine ⟨rfl, by omega, ?_⟩
    refine lcLoop_map (fun x => PyData.bool (isIntB 1 1000 x)) (fun x hx V hV => ?_) ?_
    · walk_at "d"
      exact ⟨rfl, x, 1, 1000, n, m, rfl, Ala.2 x hx, _, rfl, hV⟩
    walk_at "e"
    refine oAll_of (isIntB 1 1000) la ?_
    cases hb : (la.map (isIntB 1 1000)).all id with
    | true => walk_at "d"; exact q2 hb
    | false => walk_at "d"; exact q1 hb
  by_cases hA : ∀ x ∈ la, isIntB 1 1000 x = true
  rotate_left
  · refine comp (fun _ => bad hZ fun ⟨ls, ps, e, _, h, _⟩ => ?_) fun h => absurd ((all_id _ _).mp h) hA
    injection e with e
    injection e with e _
    injection e with e
    rw [e] at hA
    exact hA (ints_all h)
  refine dSeq_by (fun ρ => ρ = [some (.fz (.tuple [.tuple la, b])), some (.fz (.tuple la)), some (.fz b), none, none, none, none]) (fun W hW => comp (fun h => by rw [(all_id _ _).mpr hA] at h; cases h) fun _ => hW _ rfl) fun ρ ee => ?_
  subst ee
  clear comp
  obtain ⟨ls, rfl, hls⟩ := ints_of hA
  rw [List.length_map] at h8
  have bad1 : (∀ ps, b ≠ .tuple ps) → Z (.fz (.bool false)) .none := fun h => bad hZ fun ⟨ls, ps, e, _⟩ => by
    injection e with e
    injection e with _ e
    injection e with e _
    exact h _ e
  cases b with
  | dict k => exact (any_dict Ab).elim
  | none => walk_at "d"; exact bad1 fun _ => by simp
  | bool _ => walk_at "d"; exact bad1 fun _ => by simp
  | str _ => walk_at "d"; exact bad1 fun _ => by simp
  | list _ => walk_at "d"; exact bad1 fun _ => by simp
  | int _ => walk_at "d"; exact bad1 fun _ => by simp
  | tuple pa =>
  clear bad1
  have Apa := (any_tup.mp Ab)
  by_cases h5 : 1 ≤ pa.length ∧ pa.length ≤ 5
  rotate_left
  · have bd : Z (.fz (.bool false)) .none := bad hZ fun ⟨ls, ps, e, _, _, h1, h2, _⟩ => by
      injection e with e
      injection e with _ e
      injection e with e _
      injection e with e
      rw [e, List.length_map] at h5
      exact h5 ⟨h1, h2⟩
    rw [dSeq, dIfS]
    walk_at "e"
    by_cases h1 : 1 ≤ pa.length
    · rw [decide_eq_true (show (1 : Int) ≤ (pa.length : Int) by omega)]
      walk_at "e"
      rw [decide_eq_false (show ¬ (pa.length : Int) ≤ 5 by omega)]
      walk_at "d"
      exact bd
    · rw [decide_eq_false (show ¬ (1 : Int) ≤ (pa.length : Int) by omega)]
      walk_at "d"
      exact bd
  refine dSeq_by (fun ρ => ρ = [some (.fz (.tuple [.tuple (ls.map PyData.int), .tuple pa])), some (.fz (.tuple (ls.map PyData.int))), some (.fz (.tuple pa)), none, none, none, none]) (fun W hW => ?_) fun ρ ee => ?_
  · rw [dIfS]
    walk_at "e"
    rw [decide_eq_true (show (1 : Int) ≤ (pa.length : Int) by omega)]
    walk_at "e"
    rw [decide_eq_true (show (pa.length : Int) ≤ 5 by omega)]
    walk_at "d"
    exact hW _ rfl
  subst ee
  have comp : ∀ {W : DEnv → Prop} {rt : Rs → DEnv → Prop} {bk ct : DEnv → Prop} , (((pa.map (isIntB 0 ls.length)).all id = false) → rt (.fz (.bool false)) [some (.fz (.tuple [.tuple (ls.map PyData.int), .tuple pa])), some (.fz (.tuple (ls.map PyData.int))), some (.fz (.tuple pa)), none, none, none, none]) →
      (((pa.map (isIntB 0 ls.length)).all id = true) → W [some (.fz (.tuple [.tuple (ls.map PyData.int), .tuple pa])), some (.fz (.tuple (ls.map PyData.int))), some (.fz (.tuple pa)), none, none, none, none]) →
      dIfS (dNot (dTest (dCB oAll (dCons (dLc (dSeqI (dVar 2)) (dgName 4) dYes (dCall ct_is_integer (dCons (dVar 4) (dCons (dC (.int 0)) (dCons (dCB oLen (dCons (dVar 1) dNil)) dNil)))) [4]) dNil)))) (dRet (dC (.bool false))) dNext { nx := W, rt := rt, bk := bk, ct := ct } [some (.fz (.tuple [.tuple (ls.map PyData.int), .tuple pa])), some (.fz (.tuple (ls.map PyData.int))), some (.fz (.tuple pa)), none, none, none, none] := fun {W rt bk ct} q1 q2 => by
    rw [dIfS]
    walk_at "e"
    rw [dLc]
    walk_at "e"
    refine ⟨rfl, by omega, ?_⟩
    refine lcLoop_map (fun x => PyData.bool (isIntB 0 ls.length x)) (fun x hx V hV => ?_) ?_
    · walk_at "d"
      exact ⟨rfl, x, 0, ls.length, n, m, rfl, Apa.2 x hx, _, rfl, hV⟩
    walk_at "e"
    refine oAll_of (isIntB 0 ls.length) pa ?_
    cases hb : (pa.map (isIntB 0 ls.length)).all id with
    | true => walk_at "d"; exact q2 hb
    | false => walk_at "d"; exact q1 hb
  by_cases hB : ∀ x ∈ pa, isIntB 0 ls.length x = true
  rotate_left
  · refine comp (fun _ => bad hZ fun ⟨ls', ps, e, _, _, _, _, h, _⟩ => ?_) fun h => absurd ((all_id _ _).mp h) hB
    injection e with e
    injection e with e1 e
    injection e with e _
    injection e with e
    injection e1 with e1
    have e2 := congrArg List.length e1
    rw [List.length_map, List.length_map] at e2
    rw [e, e2] at hB
    exact hB (ints_all h)
  refine dSeq_by (fun ρ => ρ = [some (.fz (.tuple [.tuple (ls.map PyData.int), .tuple pa])), some (.fz (.tuple (ls.map PyData.int))), some (.fz (.tuple pa)), none, none, none, none]) (fun W hW => comp (fun h => by rw [(all_id _ _).mpr hB] at h; cases h) fun _ => hW _ rfl) fun ρ ee => ?_
  subst ee
  clear comp
  obtain ⟨ps, rfl, hps⟩ := ints_of hB
  rw [List.length_map] at h5
  rw [dRet]
  walk_at "e"
  rw [dLc]
  walk_at "e"
  have hcl : cut (ps.map PyData.int) (some 1) none = (ps.map PyData.int).drop 1 := cut_from _ 1
  refine ⟨_, _, rfl, rfl, rfl, ?_, ?_⟩
  · have := (zipDs_len (ps.map PyData.int) (cut (ps.map PyData.int) (some 1) none)).1
    rw [List.length_map] at this
    omega
  rw [hcl]
  refine lcLoop_map leF (fun x hx V hV => ?_) ?_
  · obtain ⟨i, hi, e2⟩ := List.getElem_of_mem hx
    obtain ⟨y, z, hy, hz, hyz⟩ := zipDs_get hi
    have hx3 := List.getElem?_eq_some_iff.mpr ⟨hi, e2⟩
    rw [hyz] at hx3
    cases hx3
    obtain ⟨y, h1, rfl⟩ := map_get hy
    rw [← List.map_drop] at hz
    obtain ⟨z, h2, rfl⟩ := map_get hz
    rw [leF_mk] at hV
    walk_at "d"
    exact hV
  rw [chk_zip]
  walk_at "e"
  refine ⟨_, blsOf_map _, ?_⟩
  have key : (chk ps).all id = boolOf (RowP (.tuple [.tuple (ls.map PyData.int), .tuple (ps.map PyData.int)])) := by
    by_cases h : ps.Pairwise (· ≤ ·)
    · rw [(chk_all ps).mpr h, boolOf_t ⟨ls, ps, rfl, h8, hls, h5.1, h5.2, hps, h⟩]
    · rw [boolOf_f]
      · cases hc : (chk ps).all id with
        | false => rfl
        | true => exact absurd ((chk_all ps).mp hc) h
      · rintro ⟨ls', ps', e, _, _, _, _, _, h'⟩
        injection e with e
        injection e with _ e
        injection e with e _
        injection e with e
        have : ps = ps' := (List.map_inj_right (fun a b e => by injection e)).mp e
        rw [this] at h
        exact h h'
  rw [key]
  exact hZ

theorem likesS_lst {n : Nat} {ds : List PyData} (h : LikesS (n + 1) (.list ds)) : ds.length ≤ 1000 ∧ ∀ x ∈ ds, LikesS n x := by simpa [LikesS] using h
theorem law_like2 (n : Nat) (ds : List PyData) (Z : Rs → PyData → Prop) (hl : ds.length = (ct_like2 (n + 1)).n) (h : (ct_like2 (n + 1)).pre ds Z) : d_like2 n (endsD (ct_like2 (n + 1)).io Z) (startD 3 (ct_like2 (n + 1)).io ds) := by
  obtain ⟨a, rfl, hA, hZ⟩ := h
  show d_like2 n (endsD none Z) [some (.fz a), some (.fz a), none]
  unfold d_like2
  cases a with
  | list es =>
    obtain ⟨h1, h2⟩ : es.length ≤ 1000 ∧ ∀ x ∈ es, LikesS n x := by simpa [LikesS] using hA
    walk_at "d"
    unfold dLc
    walk_at "e"
    refine ⟨by omega, by omega, rfl, by rw [rngD_len]; omega, ?_⟩
    refine lcLoop_pure (fun _ => none) (fun x hx W hW => ?_) ?_
    · obtain ⟨i, hi, rfl⟩ := mem_rngD hx
      obtain ⟨y, hy⟩ := get_at hi
      walk_at "d"
      refine ⟨y, atI_n hy, y, atI_n hy, ?_⟩
      exact ⟨rfl, y, rfl, h2 y (get_mem hy), hW⟩
    · rw [fm_none]
      exact oEq_same (n := 1) (by decide) (by simp [Flat]) hZ
  | tuple es =>
    obtain ⟨h1, h2⟩ : es.length ≤ 1000 ∧ ∀ x ∈ es, LikesS n x := by simpa [LikesS] using hA
    walk_at "d"
    unfold dLc
    walk_at "e"
    refine ⟨by omega, by omega, rfl, by rw [rngD_len]; omega, ?_⟩
    refine lcLoop_pure (fun _ => none) (fun x hx W hW => ?_) ?_
    · obtain ⟨i, hi, rfl⟩ := mem_rngD hx
      obtain ⟨y, hy⟩ := get_at hi
      walk_at "d"
      refine ⟨y, atI_n hy, y, atI_n hy, ?_⟩
      exact ⟨rfl, y, rfl, h2 y (get_mem hy), hW⟩
    · rw [fm_none]
      exact oEq_same (n := 1) (by decide) (by simp [Flat]) hZ
  | none =>
    walk_at "d"
    exact oEq_same (n := 1) (by decide) (by simp [Flat]) hZ
  | bool b =>
    walk_at "d"
    exact hZ
  | int i =>
    walk_at "d"
    exact hZ
  | str x =>
    have hx : PyData.strOk x = true := by simpa [LikesS] using hA
    have sh : SeqAt.shaped (.str x) = true := by
      show ((PyData.str x).canLay0 && decide ((PyData.str x).depth ≤ 64)) = true
      simp [PyData.canLay0, PyData.depth, hx]
    walk_at "d"
    refine ⟨sh, sh, ?_⟩
    have e : PyData.eqv (.str x) (.str x) = true := by simp [PyData.eqv]
    rw [e]
    exact hZ
  | dict _ => simp [LikesS] at hA
theorem calD_mk (c : Cal) : calD c = .tuple [.int c.1, .int c.2.1, .int (c.2.2 : Int)] := rfl
theorem law_now (ds : List PyData) (Z : Rs → PyData → Prop) (hl : ds.length = ct_now.n) (h : ct_now.pre ds Z) : d_now (endsD ct_now.io Z) (startD 7 ct_now.io ds) := by
  obtain ⟨r, cs, rfl, ok, hcl, h8, inn, hZ⟩ := h
  show d_now (endsD none Z) [some (.fz (rowD r)), some (.fz (.list (cs.map calD))), none, none, none, none, none]
  unfold d_now
  refine dSeq_by (fun ρ => ρ = [some (.fz (rowD r)), some (.fz (.list (cs.map calD))), some (.ow (.list ((empt r).map entD))), some (.ow (.list [])), none, none, none]) (fun W hW => ?_) fun ρ e => ?_
  · unfold rowD intsT natsT at hW ⊢
    walk_at "d"
    refine ⟨by omega, by omega, ?_⟩
    rw [rep1]
    have e : (empt r).map entD = List.replicate r.ls.length PyData.none := by
      unfold empt
      rw [List.map_replicate]
      rfl
    rw [e] at hW
    exact hW _ rfl
  subst e
  walk_at "d"
  refine loopD_inv (fun k ρ => ∃ a b c, ρ = [some (.fz (rowD r)), some (.fz (.list (cs.map calD))), some (.ow (.list ((stOf r (cs.take k)).1.map entD))), some (.ow (.list ((stOf r (cs.take k)).2.1.map rdD))), a, b, c])
    ⟨none, none, none, rfl⟩ (fun k x ρ W hx I hW => ?_) fun ρ I => ?_
  · obtain ⟨a, b, c, rfl⟩ := I
    obtain ⟨y, hs, rfl⟩ := map_get hx
    have hy := ok y (get_mem hs)
    have hk := get_lt hs
    have hw := stOf_len r (cs.take k)
    have hlg := stOf_log r (cs.take k)
    have hk2 : (cs.take k).length = k := by simp; omega
    rw [take_snoc hs, stOf_snoc] at hW
    unfold stepC at hW
    rw [calD_mk]
    by_cases h2 : y.1 < 2
    · have hc := hy.1 h2
      obtain ⟨p, hp⟩ := get_at hc
      rw [if_pos h2, getD_of hp] at hW
      simp only [List.map_append, List.map_cons, List.map_nil] at hW
      unfold rowD intsT natsT at hW ⊢
      walk_at "d"
      rw [decide_eq_true h2]
      walk_at "d"
      refine ⟨⟨_, _, rfl, rfl, rfl⟩, _, atI_map hp, ?_⟩
      refine ⟨rfl, r, (stOf r (cs.take k)).1, y.2.1, p, rfl, inn p (get_mem hp), by omega, hw, by omega, ?_⟩
      simp only [ansD]
      walk_at "d"
      first | exact hW _ ⟨_, _, _, rfl⟩ | exact ⟨by omega, hW _ ⟨_, _, _, rfl⟩⟩
    · have hc := hy.2.1 h2
      rw [if_neg h2] at hW
      walk_at "d"
      rw [decide_eq_false h2]
      walk_at "d"
      rw [List.map_set] at hW
      exact ⟨_, ixN_n (by omega), hW _ ⟨_, _, _, rfl⟩⟩
  · obtain ⟨a, b, c, rfl⟩ := I
    rw [List.length_map, List.take_length]
    walk_at "d"
    exact ⟨fun _ => trivial, fun _ => trivial, hZ⟩
end St
set_option Elab.async false
set_option linter.all false
set_option maxRecDepth 100000
set_option maxHeartbeats 4000000
/-! Rules for a station that raises: a def that is handed the exception, methods and makings in a try, len, == and != by own methods. -/
namespace L2W
open PySem PySem.Spec PyProof.Rows L2 L2H
abbrev St := L2.St
abbrev Pn := Addr × Obj
/-- a def that is handed the exception p that is handled -/
structure FnW (P : Program) (w : World) (K : PySem.W.Frag) (mg : Str → Option Value) (base : Heap) (k : Nat) (f : Addr) (fd : FuncData) (ps : List Str) (sp : Pn → Sp) : Prop where
  lens : ∀ p vs H Q E, sp p vs H Q E → vs.length = ps.length
  runs : ∀ (A : Around) (outer : List Env) (s : Shared) (H : Hp) (args : Args) (us : List Value) (vs : List V) (Q : VK) (E : XK) (p : Pn), RoomH k A → Hot1 A p → PinOk outer H s p → Env0 P w K mg base A outer s H →
    BindsTo s fd args (ps.zip us) → Vals vs us → sp p vs H Q E → codeAny (model P w) A (.call (.ref f) args) (CR CX0 outer P w H s Q E) s
section
variable {P : Program} {w : World} {K : PySem.W.Frag} {mg : Str → Option Value} {base : Heap} {k : Nat} {f : Addr}
theorem fn_ofW {nm ql : Str} {pms : Arguments} {bd : List Stmt} {sc : Scope} {v1 v2 v3 v4 v5 v6 v7 : Value} {an od : Option Addr} {osl : Array (Option Value)} {N ps : List Str} {sp : Pn → Sp}
    (lk : K.lookup f = some ⟨v7, od, .func (PySem.W.fnOf nm ql pms bd sc v1 v2 v3 v4 an v5 v6), osl⟩) (hc : PySem.W.codeIn K v5 ql = true) (S : FnScope N ps sc) (ln : ∀ p vs H Q E, sp p vs H Q E → vs.length = ps.length)
    (hb : ∀ (A : Around) (outer : List Env) (s : Shared) (H : Hp) (vs : List V) (Q : VK) (E : XK) (p : Pn), Hot1 A p → RoomH k (A.deeper (envOfC ql sc s.heap.objs.size f v5)) → sp p vs H Q E →
      ∃ t, PSs (cxH CX0 P w K mg base N ql sc f v5 A outer s H E p) bd t ∧ t { nx := fun _ G => Q .non G, rt := Q } (L2.start N vs) H) : FnW P w K mg base (k + 1) f (PySem.W.fnOf nm ql pms bd sc v1 v2 v3 v4 an v5 v6) ps sp := by
  refine ⟨ln, fun A outer s H args us vs Q E p rm ht pin e0 bnd rv h => ?_⟩
  have l1 := ln _ _ _ _ _ h
  have kx : K.In s.heap := e0.mod.kin.keeps fun c z q => (e0.bs c z q).1
  have lm : s.heap.NoLimit := e0.mod.nolimit.keeps fun c z q => (e0.bs c z q).1
  have kd : ∀ y ∈ ps.zip us, sc.names.lookup y.1 = some .local ∨ (sc.names.lookup y.1 = some .cell ∧ ((cellsFrom (s.heap.objs.size + 1) sc.names []).lookup y.1).isSome = true) := by
    rintro ⟨y, z⟩ hy
    exact (S.par y (List.of_mem_zip hy).1).imp id fun q => ⟨q, PySem.W.cellsFrom_some _ _ _ (.inl q)⟩
  refine codeAny_call_function rm.depth (kx _ _ lk) rfl S.co S.gen rfl (PySem.W.codeRec_of kx hc) (bnd _ _ _ _ ?_)
  refine wpAny_newFunctionEnv_cells S.kind kd fun en hen s1 x => ?_
  subst hen
  obtain ⟨t, d, g⟩ := hb A outer s H vs Q E p ht (rm.deeper _) h
  refine ⟨lm.keeps x.toInCall.keep, codeAny_func (wpAny_mono (d.run [] s1 (L2.start N vs) H _ (inv_startH S pin e0 l1 rv x) g) (fun fl s' hs => ?_) fun _ _ z => z)⟩
  match fl, hs with
  | .ret u, ⟨v, _, G, J, r, q⟩ => exact ⟨v, G, J.os, J.bare, J.base, J.hok, r, q⟩
  | .next, ⟨_, G, J, q⟩ => exact ⟨V.non, G, J.os, J.bare, J.base, J.hok, rfl, q⟩
  | .brk, ⟨_, _, _, q⟩ => exact q.elim
  | .cont, ⟨_, _, _, q⟩ => exact q.elim
end
section
variable {X : Cx} {k : Nat} {f C : Addr} {fd : FuncData} {ps : List Str} {x m : Str} {q pos apos : Pos} {e o : Expr} {es : List Expr} {ta : TE} {t : TA}
/-- f(e): f is handed the exception p -/
def tCallW (sp : Pn → Sp) (p : Pn) (t : TA) : TE := fun σ H Q => t σ H fun vs H1 => sp p vs H1 Q E0
theorem pe_callW {sp : Pn → Sp} {p : Pn} (F : FnW X.prog X.w X.K X.mg X.base k f fd ps sp) (hr : RoomH k X.A) (ht : Hot1 X.A p) (hp : p ∈ X.pn) (hg : Gl X x) (hm : X.mg x = some (.ref f)) (hk : PySem.W.keepIn X.K (.ref f) = true) (hb : Binds X.K fd ps [])
    (ha : PA X [e] t) (dbg : (x == ("__debug__" : Str)) = false := by decide) (st : starEach [e] X.env = (false, eval e X.env) :: starEach [] X.env := by rfl) : PE X (.Call (.Name x q) [e] [] pos) (tCallW sp p t) := by
  refine ⟨fun pins s σ H Q I h => wpAny_Call_Name_kw (ld_glob I hg hm ?_ dbg)⟩
  refine PySem.W.callWith_K (h₀ := X.base) I.ok.mod.kin hk (thn (ha.run pos pins s σ H _ I h) fun us s1 ⟨vs, H1, I1, r, g⟩ => ⟨I1.kIn, ?_⟩) st rfl
  have l1 : us.length = ps.length := r.length.symm.trans (F.lens _ _ _ _ _ g)
  have b := hb s1 us I1.kIn (by simpa using l1)
  have z := I1.pin p (List.mem_append_left _ hp)
  have pin : PinOk X.stack H1 s1 p := ⟨z.1, z.2.1, fun w => (List.mem_cons.mp (I1.stkSub p.1 w)).elim z.2.2.1 z.2.2.2.1, z.2.2.2.2⟩
  refine wpAny_call (codeAny_mono (F.runs X.A X.stack s1 H1 ⟨us, []⟩ us vs Q E0 p hr ht pin I1.env0 (by simpa using b) r g) fun rr s' y => ?_)
  match rr, y with
  | .ok (.ret u), y => exact I1.after y
  | .ok .next, y => exact y.elim
  | .ok .brk, y => exact y.elim
  | .ok .cont, y => exact y.elim
  | .error _, y => exact y.elim
/-- isinstance of the exception p, D its class -/
theorem call_isP {p : Pn} {D : Addr} (hp : p ∈ X.pn) (c : ExcC X.K D) (h1 : p.2.cls = .ref D) (h2 : p.2.dict = none) (hf : ∃ vs, p.2.data = .fields vs) : CallR X (.builtin "isinstance") (rIsE X.K D p.1) := by
  intro pins s σ H xs us Q I r h
  obtain ⟨u, w, b, rfl, hu, hk, g⟩ := h
  obtain ⟨vs, hv⟩ := hf
  have z := (I.pin p (List.mem_append_left _ hp)).1
  have J : PySem.W.InstAt s.heap p.1 p.2 D none := by
    obtain ⟨a, oc, od, oda, osl⟩ := p
    dsimp only at h1 h2 hv z ⊢
    subst h1 h2 hv
    exact ⟨z, rfl, rfl, trivial⟩
  cases r with
  | cons ra rr =>
    cases rr with
    | cons rb rr =>
      cases rr
      cases ra
      have := hu _ rb
      subst this
      exact PySem.W.kia_one (PySem.W.handS_kitx_exc c.hg c.hk c.hs c.hd c.ha c.hn c.ht c.hm) I.kIn J hk (fun z => nomatch z) fun tk => ⟨.bl b, H, I.kept (t' := tk) fun _ _ z => z, rfl, g⟩
/-! ### methods, makings where what is raised is wished for at the slots -/
variable {CX : CXT} {sp : Sp} {E : St → XK}
def tMethE (C : Addr) (m : Str) (sp : Sp) (E : St → XK) (ta : TE) (t : TA) : TE := fun σ H Q => ta σ H fun x G => ∃ a dx fs, x = .ref a ∧ G a = some (.ins C dx fs) ∧ fs.lookup m = none ∧ t σ G fun vs G2 => sp (x :: vs) G2 Q (E σ)
theorem pe_methE {pl : Sem Bool} (he : PE X o ta) (c : Cls X.K C) (hm : Meth X.K C m f) (F : FnOk X.prog X.w X.K X.mg X.base CX k f fd ps sp) (hr : Room k X.A) (hb : Binds X.K fd ps []) (hx : ∀ σ, PassesAt CX X σ (E σ)) (ha : PA X (e :: es) t)
    (st : starEach (e :: es) X.env = (false, eval e X.env) :: starEach es X.env := by rfl) (np : (backTo pos (starEach es X.env)).any (·.1) = false := by rfl)
    (ev : eval (.Call (.Attribute o m apos) (e :: es) [] pos) X.env = (do
      let y ← eval o X.env
      standAt apos.atName
      let (g, first) ← holding [y] (getMethod y m pl)
      callWith pos g first (backTo pos (starEach (e :: es) X.env)) (backToKw pos (keywordEach [] X.env))) := by rfl) :
    PE X (.Call (.Attribute o m apos) (e :: es) [] pos) (tMethE C m sp E ta t) := by
  refine ⟨fun pins s σ H Q I h => PySem.W.methodCall_KW (pl := pl) (thn (he.run pins s σ H _ I h) fun u s1 ⟨y, G, I1, ry, a, dx, fs, ey, ea, l, g⟩ => ?_) ev⟩
  subst ey
  obtain rfl : u = Value.ref a := ry
  refine getmeth_ok I1 ea c hm l (PySem.W.callWith_K (first := [.ref a]) (h₀ := X.base) I.ok.mod.kin hm.kp (thn (ha.run pos pins s1 σ G _ I1 g) fun us s2 ⟨vs, G2, I2, r, g2⟩ => ⟨I2.kIn, ?_⟩) st np)
  exact run_fnS (us := .ref a :: us) (vs := .ref a :: vs) F hr hb (hx σ) I2 (.cons rfl r) g2
theorem pe_methE0 {pl : Sem Bool} (he : PE X o ta) (c : Cls X.K C) (hm : Meth X.K C m f) (F : FnOk X.prog X.w X.K X.mg X.base CX k f fd ps sp) (hr : Room k X.A) (hb : Binds X.K fd ps []) (hx : ∀ σ, PassesAt CX X σ (E σ))
    (ev : eval (.Call (.Attribute o m apos) [] [] pos) X.env = (do
      let y ← eval o X.env
      standAt apos.atName
      let (g, first) ← holding [y] (getMethod y m pl)
      callWith pos g first (backTo pos (starEach [] X.env)) (backToKw pos (keywordEach [] X.env))) := by rfl) :
    PE X (.Call (.Attribute o m apos) [] [] pos) (tMethE C m sp E ta tNil) := by
  refine ⟨fun pins s σ H Q I h => PySem.W.methodCall_KW (pl := pl) (thn (he.run pins s σ H _ I h) fun u s1 ⟨y, G, I1, ry, a, dx, fs, ey, ea, l, g⟩ => ?_) ev⟩
  subst ey
  obtain rfl : u = Value.ref a := ry
  exact getmeth_ok I1 ea c hm l (PySem.W.callWith_K0 (first := [.ref a]) I1.kIn hm.kp (run_fnS (us := [.ref a]) (vs := [.ref a]) F hr hb (hx σ) I1 (.cons rfl .nil) g))
def tMakeE (C : Addr) (sp : Sp) (E : St → XK) (t : TA) : TE := fun σ H Q => t σ H fun vs G => ∀ y dx, G y = none → G dx = none → dx ≠ y → sp (.ref y :: vs) (upd (upd G dx (.own y)) y (.ins C dx [])) (fun v G2 => v = .non ∧ Q (.ref y) G2) (E σ)
theorem pe_makeE (M : Mk X.K C f) (F : FnOk X.prog X.w X.K X.mg X.base CX k f fd ps sp) (hr : Room (k + 1) X.A) (hg : Gl X x) (hm : X.mg x = some (.ref C)) (hb : Binds X.K fd ps []) (hx : ∀ σ, PassesAt CX X σ (E σ)) (ha : PA X [e] t)
    (dbg : (x == ("__debug__" : Str)) = false := by decide) (st : starEach [e] X.env = (false, eval e X.env) :: starEach [] X.env := by rfl) : PE X (.Call (.Name x q) [e] [] pos) (tMakeE C sp E t) := by
  refine ⟨fun pins s σ H Q I h => wpAny_Call_Name_kw (ld_glob I hg hm ?_ dbg)⟩
  refine PySem.W.callWith_K (h₀ := X.base) I.ok.mod.kin M.kp (thn (ha.run pos pins s σ H _ I h) fun us s1 ⟨vs, H1, I1, r, g⟩ => ⟨I1.kIn, ?_⟩) st rfl
  have g1 := g (s1.heap.objs.size + 1) s1.heap.objs.size (I1.hok.fresh (Nat.le_succ _)) (I1.hok.fresh (Nat.le_refl _)) (Nat.ne_of_lt (Nat.lt_succ_self _))
  have I2 := Inv.made (C := C) I1
  have r2 : Vals (V.ref (s1.heap.objs.size + 1) :: vs) (Value.ref (s1.heap.objs.size + 1) :: us) := .cons rfl r
  have l2 : (Value.ref (s1.heap.objs.size + 1) :: us).length = ps.length := r2.length.symm.trans (F.len _ _ _ _ g1)
  have b := hb _ (Value.ref (s1.heap.objs.size + 1) :: us) I2.kIn (by simpa using l2)
  refine wpAny_call (make_map (f := f) I1.kIn M.makes M.init (beq_iff_eq.mp M.fn) (codeAny_mono (F.run _ X.stack _ _ ⟨Value.ref (s1.heap.objs.size + 1) :: us, []⟩ (Value.ref (s1.heap.objs.size + 1) :: us) _ _ (E σ) (hr.make C us [])
    (I2.env0.make C us []) (by simpa using b) r2 g1) fun rr s' y => ?_))
  match rr, y with
  | .error z, y => exact hx σ pins _ _ z s' I2 y
  | .ok (.ret u), y =>
    obtain ⟨v, G, I3, rv, ev, g3⟩ := I2.after y
    subst ev
    exact ⟨rv, ⟨V.ref (s1.heap.objs.size + 1), G, I3, rfl, g3⟩⟩
  | .ok .next, y => exact y.elim
  | .ok .brk, y => exact y.elim
  | .ok .cont, y => exact y.elim
/-! ### len, ==, != by own methods that raise nothing -/
/-- a call of an own def at A, as the library's rules want it -/
theorem own_call {A1 : Around} {pins : List (Addr × Obj)} {σ : St} {H : Hp} {s : Shared} {Q : VK} {us : List Value} {vs : List V} {EE : XK} (F : FnOk X.prog X.w X.K X.mg X.base CX0 k f fd ps sp) (hr : Room k A1) (hfr : A1.frames = X.A.frames) (hb : Binds X.K fd ps [])
    (I : Inv X pins σ H s) (r : Vals vs us) (h : sp vs H Q EE) : wpAny (model X.prog X.w) A1 (call (.ref f) us) (EP X pins σ Q) X.xe s := by
  have l1 : us.length = ps.length := r.length.symm.trans (F.len _ _ _ _ h)
  have b := hb s us I.kIn (by simpa using l1)
  have e := I.env0
  have e0 : Env0 X.prog X.w X.K X.mg X.base A1 X.stack s H := ⟨hfr.trans e.frames, e.mod, e.bs, e.bsz, e.funs, e.frf, e.hok, e.bare⟩
  refine wpAny_call (codeAny_mono (F.run A1 X.stack s H ⟨us, []⟩ us vs Q EE hr e0 (by simpa using b) r h) fun rr s' y => ?_)
  match rr, y with
  | .ok (.ret u), y => exact I.after y
  | .ok .next, y => exact y.elim
  | .ok .brk, y => exact y.elim
  | .ok .cont, y => exact y.elim
  | .error _, y => exact y.elim
def rLenO (C : Addr) (sp : Sp) : List V → Hp → VK → Prop := fun xs H Q => ∃ a dx fs, xs = [.ref a] ∧ H a = some (.ins C dx fs) ∧ sp [.ref a] H (fun v G => ∃ n : Nat, v = .int (n : Int) ∧ n < 2 ^ 62 ∧ Q v G) E0
theorem call_lenO (F : FnOk X.prog X.w X.K X.mg X.base CX0 k f fd ps sp) (hr : Room (k + 1) X.A) (hs : PySem.W.findIn X.K (.ref C) "__len__" = some (some (.ref f))) (hf : PySem.W.isFn X.K (.ref f) = true) (hb : Binds X.K fd ps []) : CallR X (.builtin "len") (rLenO C sp) := by
  intro pins s σ H xs us Q I r h
  obtain ⟨a, dx, fs, rfl, ha, g⟩ := h
  cases r with
  | cons ra rr =>
    cases rr
    cases ra
    obtain ⟨mA, J, _⟩ := ins_get I.hok ha
    obtain ⟨od, J, _⟩ := J.look
    obtain ⟨m, hF⟩ := I.fr
    refine PySem.W.len_K hF I.ok.mod.kin J hs hf (wpAny_mono (own_call (EE := E0) (vs := [.ref a]) F hr.in1 rfl hb I (.cons rfl .nil) g) (fun v s' y => ?_) fun _ _ z => z)
    obtain ⟨v', G, I', rv, n, rfl, hn, y⟩ := y
    obtain ⟨t, rfl⟩ := rv
    exact ⟨⟨by omega, by omega⟩, ⟨.int n, G, I'.tok _, ⟨_, rfl⟩, y⟩⟩
end
end L2W
set_option Elab.async false
set_option linter.all false
set_option maxRecDepth 100000
set_option maxHeartbeats 4000000
namespace L2W
open PySem PySem.Spec PyProof.Rows L2 L2H
section
variable {X : Cx} {k : Nat} {f C : Addr} {fd : FuncData} {ps : List Str} {sp : Sp}
theorem looks_tup {M : Model} {h : Heap} {b : Addr} {its : Array Value} (t : IsTup h b its) : PySem.W.Looks M h (typeOf (.ref b)) (.type "tuple") := by
  obtain ⟨o, e, c, _⟩ := t
  exact fun A Q E s kp q => wpAny_typeOf_ref (kp _ _ e) (by rw [c]; exact q)
def rEqO (C : Addr) (sp : Sp) : R2 := fun x y H Q => ∃ a dx fs b, x = .ref a ∧ y = .ref b ∧ H a = some (.ins C dx fs) ∧ ((∃ dy gs, H b = some (.ins C dy gs)) ∨ ∃ ys, H b = some (.tup ys)) ∧ sp [.ref a, .ref b] H (fun v G => ∃ c, v = .bl c ∧ Q v G) E0
theorem op_eqO (F : FnOk X.prog X.w X.K X.mg X.base CX0 k f fd ps sp) (hr : Room k X.A) (hs : PySem.W.findIn X.K (.ref C) "__eq__" = some (some (.ref f))) (hf : PySem.W.isFn X.K (.ref f) = true) (hb : Binds X.K fd ps [])
    (nt : PySem.W.subIn X.K (.type "tuple") (.ref C) = some false) : OpR X (compareOp .Eq) (rEqO C sp) := by
  intro pins s σ H x y v u Q I rx ry h
  obtain ⟨a, dx, fs, b, rfl, rfl, ha, hy, g⟩ := h
  cases rx
  cases ry
  obtain ⟨mA, J, _⟩ := ins_get I.hok ha
  obtain ⟨od, J, _⟩ := J.look
  obtain ⟨m, hF⟩ := I.fr
  have go : wpAny (model X.prog X.w) X.A (call (.ref f) [.ref a, .ref b]) (PySem.W.CmpBack (EP X pins σ Q)) X.xe s := by
    refine wpAny_mono (own_call (EE := E0) (vs := [.ref a, .ref b]) F hr rfl hb I (.cons rfl (.cons rfl .nil)) g) (fun z s' y => ?_) fun _ _ z => z
    obtain ⟨v', G, I', rv, c, rfl, y⟩ := y
    cases rv
    exact ⟨.bl c, G, I', rfl, y⟩
  show wpAny (model X.prog X.w) X.A (richCompare .Eq (.ref a) (.ref b)) (EP X pins σ Q) X.xe s
  rcases hy with ⟨dy, gs, hy⟩ | ⟨ys, hy⟩
  · obtain ⟨mB, J2, _⟩ := ins_get I.hok hy
    obtain ⟨od2, J2, _⟩ := J2.look
    exact PySem.W.cmp_K (op := .Eq) (tb := .ref C) hr.units0 hF I.ok.mod.kin J J2.type (by simp [PySem.W.notFirst]) hs hf go
  · obtain ⟨its, _, ht, _⟩ := I.tuple (SqT.of hy)
    exact PySem.W.cmp_K (op := .Eq) (tb := .type "tuple") hr.units0 hF I.ok.mod.kin J (looks_tup ht) (by simp [PySem.W.notFirst, nt]) hs hf go
/-- a built-in slot of an instance, called where it is bound -/
theorem ifBound_B {M : Model} {A : Around} {E : Value → Shared → Prop} {s : Shared} {self : Value} {name : Str} {id : String} {args : List Value} {Q : Option Value → Shared → Prop} (l : PySem.W.Looks M s.heap (specialOf self name) (some (.builtin id)))
    (hb : bindSpecial (.builtin id) self = pure (.builtin id, [self])) (h : wpAny M A (call (.builtin id) (self :: args)) (fun v => Q (some v)) E s) : wpAny M A (callSpecialIfBound? self name args) Q E s := by
  simp only [callSpecialIfBound?, bindSpecialIfBound?]
  refine wpAny_holding (wpAny_bind (wpAny_bind (l.here ?_)))
  simp only [hb]
  have fin : wpAny M A (call (.builtin id) ([self] ++ args) >>= fun v => pure (some v)) Q E s := wpAny_bind (wpAny_mono h (fun v s' y => wpAny_pure y) fun _ _ y => y)
  refine wpAny_bind (wpAny_askSetting (wpAny_ite ?_))
  split
  · exact wpAny_bind (wpAny_pure (wpAny_pure fin))
  · exact wpAny_tryCatch (wpAny_bind (wpAny_pure (wpAny_pure fin)))
def rNeO (C : Addr) (sp : Sp) : R2 := fun x y H Q => ∃ a dx fs, x = .ref a ∧ y = .ref a ∧ H a = some (.ins C dx fs) ∧ sp [.ref a, .ref a] H (fun v G => ∃ c, v = .bl c ∧ Q (.bl (!c)) G) E0
theorem op_neO (F : FnOk X.prog X.w X.K X.mg X.base CX0 k f fd ps sp) (hr : Room (k + 1) X.A) (hs : PySem.W.findIn X.K (.ref C) "__eq__" = some (some (.ref f))) (hf : PySem.W.isFn X.K (.ref f) = true) (hb : Binds X.K fd ps [])
    (hn : PySem.W.findIn X.K (.ref C) "__ne__" = some (some (.builtin "object.__ne__"))) (hm : PySem.W.subIn X.K (.ref C) (.type "object") = some true) : OpR X (compareOp .NotEq) (rNeO C sp) := by
  intro pins s σ H x y v u Q I rx ry h
  obtain ⟨a, dx, fs, rfl, rfl, ha, g⟩ := h
  cases rx
  cases ry
  obtain ⟨mA, J, _⟩ := ins_get I.hok ha
  obtain ⟨od, J, _⟩ := J.look
  have KX := I.kIn
  have hu : X.A.units < cLine := hr.units0
  have hu1 : X.A.in1.units < cLine := hr.in1.units0
  have inst : PySem.W.Looks (model X.prog X.w) s.heap (isInstance (.ref a) (.type "object")) true := J.type.andThen (PySem.W.looks_subIn KX hm)
  have sp1 : PySem.W.Looks (model X.prog X.w) s.heap (specialOf (.ref a) "__ne__") (some (.builtin "object.__ne__")) := J.type.andThen (PySem.W.looks_findIn KX hn)
  have go : wpAny (model X.prog X.w) X.A.in1 (call (.ref f) [.ref a, .ref a]) (fun z s' => ∃ c, z = .bool c ∧ EP X pins σ Q (.bool (!c)) s') X.xe s := by
    refine wpAny_mono (own_call (EE := E0) (vs := [.ref a, .ref a]) F hr.in1 rfl hb I (.cons rfl (.cons rfl .nil)) g) (fun z s' y => ?_) fun _ _ z => z
    obtain ⟨v', G, I', rv, c, rfl, y⟩ := y
    cases rv
    exact ⟨c, rfl, .bl (!c), G, I', rfl, y⟩
  have body : wpAny (model X.prog X.w) X.A (call (.builtin "object.__ne__") [.ref a, .ref a]) (fun z s' => (∃ c, z = .bool c) ∧ EP X pins σ Q z s') X.xe s := by
    refine wpAny_call (codeAny_call_builtin PySem.F.cmp_object.ne.plain PySem.F.cmpEntry_ne (@PySem.W.check_slot (model X.prog X.w) _ _ s "object.__ne__" "object" "__ne__" (.ref a) [.ref a] [] _ (by decide +kernel) (by decide +kernel) inst (PySem.F.cmpArgs_ne _ _) ?_))
    unfold Builtin.«object.__ne__»
    repeat (first | with_reducible refine wpAny_cRoomFor hu1 ?_ | with_reducible refine PySem.W.ifBound_K KX J hs hf (wpAny_mono go (fun z s' y => ?_) fun _ _ q => q) | wp_step)
    obtain ⟨c, rfl, y⟩ := y
    repeat wp_step
    exact ⟨⟨_, rfl⟩, y⟩
  show wpAny (model X.prog X.w) X.A (richCompare .NotEq (.ref a) (.ref a)) (EP X pins σ Q) X.xe s
  unfold richCompare
  simp only [oneThing_ref]
  refine wpAny_holding (wpAny_bind (wpAny_cRoomFor hu ?_))
  refine wpAny_bind (J.type.here (wpAny_bind (J.type.here ?_)))
  rw [if_neg (by simp)]
  refine wpAny_bind (wpAny_pure ?_)
  simp only [Bool.false_eq_true, if_false]
  unfold tryCompare
  refine wpAny_bind (wpAny_bind (ifBound_B sp1 (PySem.F.cmp_object.ne.bind _) (wpAny_mono body (fun z s' y => ?_) fun _ _ q => q)))
  obtain ⟨⟨c, rfl⟩, y⟩ := y
  exact wpAny_pure (wpAny_pure y)
end
end L2W
set_option Elab.async false
set_option linter.all false
set_option maxRecDepth 100000
set_option maxHeartbeats 4000000
namespace St
open PySem L2 Dl
theorem any_row {r : Row} {c l k : Int} (h : RowIn c l k r) (hc : c ≤ 8) (hk : k ≤ 5) : Any 3 10 (rowD r) := by
  have h1 := h.ls
  have h2 := h.p1
  refine any_tup.mpr ⟨by simp, fun x hx => ?_⟩
  simp only [List.mem_cons, List.not_mem_nil, or_false] at hx
  rcases hx with rfl | rfl
  · refine any_tup.mpr ⟨by rw [List.length_map]; omega, fun x hx => ?_⟩
    obtain ⟨i, _, rfl⟩ := List.mem_map.mp hx
    exact any_int
  · refine any_tup.mpr ⟨by rw [List.length_map]; omega, fun x hx => ?_⟩
    obtain ⟨i, _, rfl⟩ := List.mem_map.mp hx
    exact any_int
theorem rowP_of {r : Row} (h : RowIn 8 1000 5 r) : RowP (rowD r) := by
  have h1 := h.ls
  have h2 := h.p1
  have h3 := List.length_pos_iff.mpr h.p0
  refine ⟨r.ls, r.ps.map fun (n : Nat) => (n : Int), ?_, by omega, fun l hl => ⟨h.lo l hl, h.hi l hl⟩, by rw [List.length_map]; omega, by rw [List.length_map]; omega, fun p hp => ?_, ?_⟩
  · unfold rowD intsT natsT
    rw [List.map_map]
    rfl
  · obtain ⟨n, hn, rfl⟩ := List.mem_map.mp hp
    have := h.inn n hn
    omega
  · rw [List.pairwise_map]
    exact h.up.imp fun h => by omega
/-! ### values without lists -/
def AllA : Av := fun _ => True
mutual
def noL : PyData → Bool
  | .tuple ds => noLA ds
  | .list _ => false
  | .dict _ => false
  | _ => true
def noLA : List PyData → Bool
  | [] => true
  | d :: ds => noL d && noLA ds
end
theorem noLA_iff : ∀ {ds : List PyData}, noLA ds = true ↔ ∀ d ∈ ds, noL d = true
  | [] => by simp [noLA]
  | d :: ds => by
    rw [noLA, Bool.and_eq_true, noLA_iff (ds := ds)]
    simp
theorem noLA_app {xs ys : List PyData} (h : noLA xs = true) (h2 : noLA ys = true) : noLA (xs ++ ys) = true := by
  rw [noLA_iff] at h h2 ⊢
  intro d hd
  rcases List.mem_append.mp hd with hd | hd
  · exact h d hd
  · exact h2 d hd
theorem noL_ent : ∀ e : Ent, noL (entD e) = true
  | none => rfl
  | some (a, s) => rfl
theorem noL_ents (es : List Ent) : noL (.tuple (es.map entD)) = true := by
  rw [noL, noLA_iff]
  intro d hd
  obtain ⟨e, _, rfl⟩ := List.mem_map.mp hd
  exact noL_ent e
theorem noL_row (r : Row) : noL (rowD r) = true := by
  have h1 : noL (intsT r.ls) = true := by
    unfold intsT
    rw [noL, noLA_iff]
    intro d hd
    obtain ⟨e, _, rfl⟩ := List.mem_map.mp hd
    rfl
  have h2 : noL (natsT r.ps) = true := by
    unfold natsT
    rw [noL, noLA_iff]
    intro d hd
    obtain ⟨e, _, rfl⟩ := List.mem_map.mp hd
    rfl
  unfold rowD
  rw [noL, noLA, noLA, noLA, h1, h2]
  rfl
mutual
theorem rpTop {A : Av} {H : Hp} : ∀ (d : PyData) (v : V), Rp A H v d → noL d = true → Rp AllA H v d
  | .none, _, h, _ => by cases h; exact .non
  | .bool b, _, h, _ => by cases h; exact .bl b
  | .int i, _, h, _ => by cases h; exact .int i
  | .str x, _, h, _ => by cases h; exact .str x
  | .list ds, _, _, n => by simp [noL] at n
  | .tuple ds, _, h, n => by
    cases h with
    | tup e r => exact .tup e (rpTopA ds _ r (by rw [noL] at n; exact n))
  | .dict _, _, _, n => by simp [noL] at n
theorem rpTopA {A : Av} {H : Hp} : ∀ (ds : List PyData) (vs : List V), RpAll A H vs ds → noLA ds = true → RpAll AllA H vs ds
  | [], _, h, _ => by cases h; exact .nil
  | d :: ds, _, h, n => by
    rw [noLA, Bool.and_eq_true] at n
    cases h with
    | cons h1 h2 => exact .cons (rpTop d _ h1 n.1) (rpTopA ds _ h2 n.2)
end
def TF (H H' : Hp) : Prop := ∀ b xs, H b = some (.tup xs) → H' b = some (.tup xs)
theorem TF.refl {H : Hp} : TF H H := fun _ _ e => e
theorem TF.trans {H H1 H2 : Hp} (a : TF H H1) (b : TF H1 H2) : TF H H2 := fun c xs e => b c xs (a c xs e)
theorem TF.new {H : Hp} {p : Addr} {o : HO} (h : H p = none) : TF H (upd H p o) := fun b xs e => (Grow.new h).keep b _ e
theorem TF.upd {H : Hp} {p : Addr} {o : HO} (h : ∀ xs, H p ≠ some (.tup xs)) : TF H (upd H p o) := fun b xs e => by
  rw [upd_ne (fun z => by rw [z] at e; exact h xs e)]
  exact e
theorem TF.grow {H H' : Hp} (g : Grow H H') : TF H H' := fun b xs e => g.keep b _ e
theorem tf_pass {A : Av} {H H' : Hp} (t : TF H H') : Pass AllA A H H' := ⟨fun _ _ n _ => (n trivial).elim, t⟩
theorem rpTf {A : Av} {H H' : Hp} {v : V} {d : PyData} (h : Rp AllA H v d) (t : TF H H') : Rp A H' v d := Rp.pass (tf_pass t) _ _ h
theorem rpTfA {A : Av} {H H' : Hp} {v : List V} {d : List PyData} (h : RpAll AllA H v d) (t : TF H H') : RpAll A H' v d := RpAll.pass (tf_pass t) _ _ h
theorem rpTup {A : Av} {H : Hp} {v : V} {ds : List PyData} (h : Rp A H v (.tuple ds)) : ∃ a xs, v = .ref a ∧ H a = some (.tup xs) ∧ RpAll A H xs ds := by
  cases h with
  | tup e r => exact ⟨_, _, rfl, e, r⟩
theorem rpInt {A : Av} {H : Hp} {v : V} {i : Int} (h : Rp A H v (.int i)) : v = .int i := by cases h; rfl
theorem rpBl {A : Av} {H : Hp} {v : V} {i : Bool} (h : Rp A H v (.bool i)) : v = .bl i := by cases h; rfl
/-- a call of a def that changes nothing -/
theorem raw_call {ct : CT} (hio : ct.io = none) {vs : List V} {ds : List PyData} {H : Hp} {Q : VK} (hn : ds.length = ct.n) (r : RpAll AllA H vs ds)
    (pre : ct.pre ds fun res _ => ∃ d, res = .fz d ∧ noL d = true ∧ ∀ v H', Grow H H' → Rp AllA H' v d → Q v H') : spD ct vs H Q E0 := by
  refine ⟨fun b => H b ≠ none, ds, 0, _, hn, fun b h => h, ⟨r.len, fun j v d _ hv hd => ?_, fun k hk => by rw [hio] at hk; cases hk⟩, pre, fun res out v H' z po => ?_⟩
  · obtain ⟨v', e1, e2⟩ := r.get hd
    rw [hv] at e1
    cases e1
    exact rpTf e2 .refl
  · obtain ⟨d, rfl, nl, k⟩ := z
    have := po.ret
    exact k v H' ⟨fun b o e => po.keep b o e (.inl hio)⟩ (rpTop _ _ this.1 nl)
def fl (vr st : V) (q : Addr) : List (Str × V) := putF "earlier" (.ref q) (putF "state" st (putF "row" vr []))
theorem n_rs : ¬ (("row" : Str) = "state") := by decide +kernel
theorem n_re : ¬ (("row" : Str) = "earlier") := by decide +kernel
theorem n_sr : ¬ (("state" : Str) = "row") := by decide +kernel
theorem n_se : ¬ (("state" : Str) = "earlier") := by decide +kernel
theorem n_er : ¬ (("earlier" : Str) = "row") := by decide +kernel
theorem n_es : ¬ (("earlier" : Str) = "state") := by decide +kernel
theorem fl_row {vr st : V} {q : Addr} : (fl vr st q).lookup ("row" : Str) = some vr := by
  unfold fl
  rw [lookup_putF, if_neg n_re, lookup_putF, if_neg n_rs, lookup_putF, if_pos rfl]
theorem fl_state {vr st : V} {q : Addr} : (fl vr st q).lookup ("state" : Str) = some st := by
  unfold fl
  rw [lookup_putF, if_neg n_se, lookup_putF, if_pos rfl]
theorem fl_earlier {vr st : V} {q : Addr} : (fl vr st q).lookup ("earlier" : Str) = some (.ref q) := by
  unfold fl
  rw [lookup_putF, if_pos rfl]
theorem fl_no {vr st : V} {q : Addr} {m : Str} (h1 : ¬ m = "earlier") (h2 : ¬ m = "state") (h3 : ¬ m = "row") : (fl vr st q).lookup m = none := by
  unfold fl
  rw [lookup_putF, if_neg h1, lookup_putF, if_neg h2, lookup_putF, if_neg h3]
  all_goals rfl
theorem fl_eq {vr st : V} {q : Addr} : fl vr st q = ([("row", vr), ("state", st), ("earlier", .ref q)] : List (Str × V)) := by
  unfold fl
  show putF "earlier" _ (if ("row" : Str) = "state" then _ else (("row" : Str), vr) :: putF "state" st []) = _
  rw [if_neg n_rs]
  show (if ("row" : Str) = "earlier" then _ else (("row" : Str), vr) :: (if ("state" : Str) = "earlier" then _ else (("state" : Str), st) :: putF "earlier" (.ref q) [])) = _
  rw [if_neg n_re, if_neg n_se]
  all_goals rfl
theorem fl_put {vr st st' : V} {q : Addr} : putF "state" st' (fl vr st q) = fl vr st' q := by
  rw [fl_eq, fl_eq]
  show (if ("row" : Str) = "state" then _ else (("row" : Str), vr) :: (if ("state" : Str) = "state" then (("state" : Str), st') :: [(("earlier" : Str), V.ref q)] else _)) = _
  rw [if_neg n_rs, if_pos rfl]
theorem fl_len {vr st : V} {q : Addr} : (fl vr st q).length = 3 := by rw [fl_eq]; rfl
/-- all but the station's two objects stands as it stood -/
structure FrS (p q : Addr) (H H' : Hp) : Prop where
  keep : ∀ b o, H b = some o → b ≠ p → b ≠ q → H' b = some o
  tup : TF H H'
theorem FrS.grow {p q : Addr} {H H' : Hp} (g : Grow H H') : FrS p q H H' := ⟨fun b o e _ _ => g.keep b o e, TF.grow g⟩
theorem FrS.trans {p q : Addr} {H H1 H2 : Hp} (a : FrS p q H H1) (b : FrS p q H1 H2) : FrS p q H H2 := ⟨fun c o e n m => b.keep c o (a.keep c o e n m) n m, a.tup.trans b.tup⟩
section
variable {K : PySem.W.Frag} {H : Hp} {Q : VK}
theorem raw_op2 {r : R2} {o : Op2} (hs : SimR2 r o) {x y : V} {d e : PyData} (hx : Rp AllA H x d) (hy : Rp AllA H y e) (q : o d e fun res => ∃ d', res = .fz d' ∧ noL d' = true ∧ ∀ v H', Grow H H' → Rp AllA H' v d' → Q v H') : r x y H Q :=
  hs (fun b => H b ≠ none) H x y d e Q _ (fun _ h => h) (.inl (rpTf hx .refl)) (.inl (rpTf hy .refl)) q fun z v H' g rv q => by
    obtain ⟨d', rfl, nl, k⟩ := q
    exact k v H' g (rpTop _ _ rv nl)
theorem raw_sl {x : V} {ds : List PyData} {lo hi : Option Int} (hx : Rp AllA H x (.tuple ds)) (q : ∀ v H', Grow H H' → Rp AllA H' v (.tuple (cut ds lo hi)) → Q v H') : rSlU K x lo hi H Q := by
  obtain ⟨p, xs, e1, e2, e3⟩ := rpTup hx
  refine .inl ⟨p, xs, e1, SqT.of e2, fun z => ?_, fun z p' hp' => ?_⟩
  · refine q _ _ .refl ?_
    have ec : Dl.cut ds lo hi = ds := by
      unfold Dl.cut
      rw [← e3.len, z.1, z.2, e3.len]
      simp
    rw [ec]
    exact .tup e2 e3
  · exact q _ _ (.new hp') (.tup upd_same (rpTfA (e3.cut lo hi) (.new hp')))
theorem row_parts {A : Av} {vr : V} {r : Row} (h : Rp A H vr (rowD r)) : ∃ a b0 b1 xs0 xs1, vr = .ref a ∧ H a = some (.tup [.ref b0, .ref b1]) ∧ H b0 = some (.tup xs0) ∧ H b1 = some (.tup xs1) ∧ xs0.length = r.ls.length ∧ xs1.length = r.ps.length := by
  obtain ⟨a, xs, rfl, h1, h2⟩ := rpTup h
  cases h2 with
  | cons r0 h2 =>
    cases h2 with
    | cons r1 h2 =>
      cases h2
      obtain ⟨b0, xs0, rfl, g0, g1⟩ := rpTup r0
      obtain ⟨b1, xs1, rfl, g2, g3⟩ := rpTup r1
      exact ⟨a, b0, b1, xs0, xs1, rfl, h1, g0, g2, by rw [g1.len, List.length_map], by rw [g3.len, List.length_map]⟩
theorem len_row0 {A : Av} {te : TE} {σ : L2.St} {vr : V} {r : Row} (h : Rp A H vr (rowD r)) (ht : ∀ Q : VK, Q vr H → te σ H Q) (q : Q (.int (r.ls.length : Int)) H) : tCB (rLenU K) (tCons (tOp (rIx K) te (tC (.int 0))) tNil) σ H Q := by
  obtain ⟨a, b0, b1, xs0, xs1, rfl, h1, h2, h3, h4, h5⟩ := row_parts h
  refine ht _ (.inr (.inl ⟨a, _, 0, .ref b0, rfl, rfl, SqT.of h1, atI_0, b0, xs0, rfl, .inr (SqT.of h2), ?_⟩))
  rw [h4]
  exact q
theorem len_row1 {A : Av} {te : TE} {σ : L2.St} {vr : V} {r : Row} (h : Rp A H vr (rowD r)) (ht : ∀ Q : VK, Q vr H → te σ H Q) (q : Q (.int (r.ps.length : Int)) H) : tCB (rLenU K) (tCons (tOp (rIx K) te (tC (.int 1))) tNil) σ H Q := by
  obtain ⟨a, b0, b1, xs0, xs1, rfl, h1, h2, h3, h4, h5⟩ := row_parts h
  refine ht _ (.inr (.inl ⟨a, _, 1, .ref b1, rfl, rfl, SqT.of h1, atI_1, b1, xs1, rfl, .inr (SqT.of h3), ?_⟩))
  rw [h5]
  exact q
end
def stD (s : St3) : PyData := .tuple [.tuple (s.1.map entD), .tuple (s.2.1.map rdD), .int s.2.2]
theorem noL_rds (rs : List (Int × Int × Int)) : noL (.tuple (rs.map rdD)) = true := by
  rw [noL, noLA_iff]
  intro d hd
  obtain ⟨e, _, rfl⟩ := List.mem_map.mp hd
  rfl
def tRaiseD (E : XK) (D : Addr) : TS := fun _ _ H => E (.ref D) none H
/-- a call of a def that changes nothing, of any data -/
theorem raw_callA {ct : CT} (hio : ct.io = none) {A : Av} {vs : List V} {ds : List PyData} {H : Hp} {Q : VK} (dom : ∀ b, A b → H b ≠ none) (hn : ds.length = ct.n) (r : RpAll A H vs ds)
    (pre : ct.pre ds fun res _ => ∃ d, res = .fz d ∧ noL d = true ∧ ∀ v H', Grow H H' → Rp AllA H' v d → Q v H') : spD ct vs H Q E0 := by
  refine ⟨A, ds, 0, _, hn, dom, ⟨r.len, fun j v d _ hv hd => ?_, fun k hk => by rw [hio] at hk; cases hk⟩, pre, fun res out v H' z po => ?_⟩
  · obtain ⟨v', e1, e2⟩ := r.get hd
    rw [hv] at e1
    cases e1
    exact e2
  · obtain ⟨d, rfl, nl, k⟩ := z
    have := po.ret
    exact k v H' ⟨fun b o e => po.keep b o e (.inl hio)⟩ (rpTop _ _ this.1 nl)
structure SFs (C : Addr) (H : Hp) (p q : Addr) (r : Row) (s : St3) (ps : List St3) : Prop where
  ex : ∃ dx vr st xs, H p = some (.ins C dx (fl vr st q)) ∧ Rp AllA H vr (rowD r) ∧ Rp AllA H st (stD s) ∧ H q = some (.lst xs) ∧ RpAll AllA H xs (ps.map stD)
def SF (C : Addr) (H : Hp) (p q : Addr) (r : Row) (cs : List Cal) : Prop := SFs C H p q r (stOf r cs) (pastOf r cs)
theorem SFs.keep {C : Addr} {H H' : Hp} {p q : Addr} {r : Row} {s : St3} {ps : List St3} (h : SFs C H p q r s ps) (t : TF H H') (hp : H' p = H p) (hq : H' q = H q) : SFs C H' p q r s ps := by
  obtain ⟨dx, vr, st, xs, h1, h2, h3, h4, h5⟩ := h.ex
  exact ⟨⟨dx, vr, st, xs, hp.trans h1, rpTf h2 t, rpTf h3 t, hq.trans h4, rpTfA h5 t⟩⟩
theorem SFs.grow {C : Addr} {H H' : Hp} {p q : Addr} {r : Row} {s : St3} {ps : List St3} (h : SFs C H p q r s ps) (g : Grow H H') : SFs C H' p q r s ps := by
  obtain ⟨dx, vr, st, xs, h1, h2, h3, h4, h5⟩ := h.ex
  exact h.keep (TF.grow g) ((g.keep p _ h1).trans h1.symm) ((g.keep q _ h4).trans h4.symm)
theorem SF.grow {C : Addr} {H H' : Hp} {p q : Addr} {r : Row} {cs : List Cal} (h : SF C H p q r cs) (g : Grow H H') : SF C H' p q r cs := SFs.grow h g
/-- the row is one, the calls are such as it takes -/
structure RC (r : Row) (cs : List Cal) : Prop where
  rin : RowIn 8 1000 5 r
  ok : CalOk r cs
  few : cs.length ≤ 100
def goodB (lo hi : Int) (k : Int) (dt di : PyData) : Bool := isIntB lo hi dt && isIntB 0 k di
def sp_init (C Cr : Addr) : Sp := fun vs H Q E => ∃ (p dx : Addr) (v : V) (d : PyData) (A : Av), vs = [.ref p, v] ∧ H p = some (.ins C dx []) ∧ (∀ b, A b → H b ≠ none) ∧ Rp A H v d ∧
  ((∃ r, d = rowD r ∧ RowIn 8 1000 5 r ∧ ∀ H' q, H q = none → SF C H' p q r [] → FrS p q H H' → Q .non H') ∨ (∃ n m, Any n m d ∧ n ≤ 20 ∧ m ≤ 1000 ∧ ¬ RowP d ∧ ∀ H', Grow H H' → E (.ref Cr) none H'))
def sp_change (C : Addr) : Sp := fun vs H Q _ => ∃ (p q : Addr) (r : Row) (s : St3) (ps : List St3) (ve vd : V) (t : Int) (es : List Ent) (rs : List (Int × Int × Int)), vs = [.ref p, ve, vd, .int t] ∧ SFs C H p q r s ps ∧ ps.length ≤ 5000 ∧
  Rp AllA H ve (.tuple (es.map entD)) ∧ Rp AllA H vd (.tuple (rs.map rdD)) ∧ ∀ H', SFs C H' p q r (es, rs, t) (ps ++ [s]) → FrS p q H H' → Q .non H'
def sp_read (C Cd : Addr) : Sp := fun vs H Q E => ∃ (p q : Addr) (r : Row) (cs : List Cal) (w : Int) (vt vi : V) (dt di : PyData) (n m : Nat), vs = [.ref p, vt, vi] ∧ SF C H p q r cs ∧ RC r cs ∧ w < 2 ∧ Rp AllA H vt dt ∧ Rp AllA H vi di ∧ Any n m dt ∧ Any n m di ∧
  (goodB (lastT cs) 1000000000 ((r.ps.length : Int) - 1) dt di = false → ∀ H', SF C H' p q r cs → FrS p q H H' → E (.ref Cd) none H') ∧
  (∀ t (c pos : Nat), dt = .int t → di = .int (c : Int) → lastT cs ≤ t → t ≤ 1000000000 → r.ps[c]? = some pos → ∀ H', SF C H' p q r (cs ++ [(w, t, c)]) → FrS p q H H' → Q (.int (ask r.ls (stOf r cs).1 t pos).1.1) H')
def sp_purge (C Cp : Addr) : Sp := fun vs H Q E => ∃ (p q : Addr) (r : Row) (cs : List Cal) (vt vi : V) (dt di : PyData) (n m : Nat), vs = [.ref p, vt, vi] ∧ SF C H p q r cs ∧ RC r cs ∧ Rp AllA H vt dt ∧ Rp AllA H vi di ∧ Any n m dt ∧ Any n m di ∧
  (goodB (lastT cs) 1000000000 ((r.ls.length : Int) - 1) dt di = false → ∀ H', SF C H' p q r cs → FrS p q H H' → E (.ref Cp) none H') ∧
  (∀ t (c : Nat) e, dt = .int t → di = .int (c : Int) → lastT cs ≤ t → t ≤ 1000000000 → (stOf r cs).1[c]? = some e → ∀ v H', SF C H' p q r (cs ++ [(2, t, c)]) → FrS p q H H' → Rp AllA H' v (entD e) → Q v H')
def sp_undo (C Cn : Addr) : Sp := fun vs H Q E => ∃ (p q : Addr) (r : Row) (cs : List Cal), vs = [.ref p] ∧ SF C H p q r cs ∧ RC r cs ∧ (cs = [] → ∀ H', SF C H' p q r cs → FrS p q H H' → E (.ref Cn) none H') ∧
  (cs ≠ [] → ∀ H', SF C H' p q r cs.dropLast → FrS p q H H' → Q .non H')
def sp_entries (C : Addr) : Sp := fun vs H Q _ => ∃ (p q : Addr) (r : Row) (cs : List Cal), vs = [.ref p] ∧ SF C H p q r cs ∧ ∀ l xs, H l = none → RpAll AllA H xs ((stOf r cs).1.map entD) → Q (.ref l) (upd H l (.lst xs))
def sp_log (C : Addr) : Sp := fun vs H Q _ => ∃ (p q : Addr) (r : Row) (cs : List Cal), vs = [.ref p] ∧ SF C H p q r cs ∧ ∀ l xs, H l = none → RpAll AllA H xs ((stOf r cs).2.1.map rdD) → Q (.ref l) (upd H l (.lst xs))
def sp_len (C : Addr) : Sp := fun vs H Q _ => ∃ (p q : Addr) (r : Row) (cs : List Cal), vs = [.ref p] ∧ SF C H p q r cs ∧ Q (.int ((stOf r cs).2.1.length : Int)) H
def sp_eq (C : Addr) : Sp := fun vs H Q _ => ∃ (p q b : Addr) (r : Row) (cs : List Cal), vs = [.ref p, .ref b] ∧ SF C H p q r cs ∧ RC r cs ∧ ((∃ q2 cs2, SF C H b q2 r cs2 ∧ RC r cs2 ∧ ∀ H', Grow H H' → Q (.bl (decide ((stOf r cs).1 = (stOf r cs2).1 ∧ (stOf r cs).2.1 = (stOf r cs2).2.1))) H') ∨ ∃ ys, H b = some (.tup ys) ∧ Q (.bl false) H)
structure Txt (K : PySem.W.Frag) (mg : Str → Option Value) (C : Addr) : Prop where
  cl : Cls K C
  nR : NoAttr K C "row"
  nS : NoAttr K C "state"
  nE : NoAttr K C "earlier"
  mgC : mg "Station" = some (.ref C)
/- ['self', 'row'] -/
def t_st_init (K : PySem.W.Frag) (C : Addr) (E : XK) (Cr : Addr) : TS := (tSeq (tIfS (tNot (tB (tCall (spD ct_is_row) [] E0 (tCons (tVar 1) tNil)))) (tRaiseD E Cr) tNext)
  (tSeq (sFld K (tVar 0) (tVar 1) "row")
  (tSeq (sFld K (tVar 0) (tTup (tCons (tCall (spD ct_empty) [] E0 (tCons (tVar 1) tNil)) (tCons (tTup tNil) (tCons (tC (.int 0)) tNil)))) "state")
  (sFld K (tVar 0) (tLst tNil) "earlier"))))

/- ['self', 'entries', 'reads', 'time'] -/
def t_st_change (K : PySem.W.Frag) (C : Addr) : TS := (tSeq (tDrop (tBM K "list" rAppend (tFld K (tVar 0) "earlier") (tCons (tFld K (tVar 0) "state") tNil)))
  (sFld K (tVar 0) (tTup (tCons (tVar 1) (tCons (tVar 2) (tCons (tVar 3) tNil)))) "state"))

/- ['self', 'time', 'client', 'entries', 'reads', 'now', 'answer', 'source'] -/
def t_st_read (K : PySem.W.Frag) (C : Addr) (E : XK) (Cd : Addr) : TS := (tSeq (tAsg (tFld K (tVar 0) "state") (gTup K 3 (gCons (gName 3) (gCons (gName 4) (gCons (gName 5) gNil)))))
  (tSeq (tIfS (tNot (tB (tCall (spD ct_is_integer) [] E0 (tCons (tVar 1) (tCons (tVar 5) (tCons (tC (.int 1000000000)) tNil)))))) (tRaiseD E Cd) tNext)
  (tSeq (tIfS (tNot (tB (tCall (spD ct_is_integer) [] E0 (tCons (tVar 2) (tCons (tC (.int 0)) (tCons (tOp (rI0 fun i j => .int (i - j)) (tCB (rLenU K) (tCons (tOp (rIx K) (tFld K (tVar 0) "row") (tC (.int 1))) tNil)) (tC (.int 1))) tNil)))))) (tRaiseD E Cd) tNext)
  (tSeq (tAsg (tCall (spD ct_read) [] E0 (tCons (tFld K (tVar 0) "row") (tCons (tVar 3) (tCons (tVar 1) (tCons (tVar 2) tNil))))) (gTup K 3 (gCons (gName 6) (gCons (gName 7) (gCons (gName 3) gNil)))))
  (tSeq (tDrop (tMeth C "change" (sp_change C) [] E0 (tVar 0) (tCons (tVar 3) (tCons (tOp (rAddU K) (tVar 4) (tTup (tCons (tTup (tCons (tVar 1) (tCons (tVar 2) (tCons (tVar 6) tNil)))) tNil))) (tCons (tVar 1) tNil)))))
  (tRet (tVar 6)))))))

/- ['self', 'time', 'cache', 'entries', 'reads', 'now'] -/
def t_st_purge (K : PySem.W.Frag) (C : Addr) (E : XK) (Cp : Addr) : TS := (tSeq (tAsg (tFld K (tVar 0) "state") (gTup K 3 (gCons (gName 3) (gCons (gName 4) (gCons (gName 5) gNil)))))
  (tSeq (tIfS (tNot (tB (tCall (spD ct_is_integer) [] E0 (tCons (tVar 1) (tCons (tVar 5) (tCons (tC (.int 1000000000)) tNil)))))) (tRaiseD E Cp) tNext)
  (tSeq (tIfS (tNot (tB (tCall (spD ct_is_integer) [] E0 (tCons (tVar 2) (tCons (tC (.int 0)) (tCons (tOp (rI0 fun i j => .int (i - j)) (tCB (rLenU K) (tCons (tVar 3) tNil)) (tC (.int 1))) tNil)))))) (tRaiseD E Cp) tNext)
  (tSeq (tDrop (tMeth C "change" (sp_change C) [] E0 (tVar 0) (tCons (tOp (rAddU K) (tOp (rAddU K) (tSl (rSlU K) (tVar 3) tNoPart (tPart (tVar 2))) (tTup (tCons (tC .non) tNil))) (tSl (rSlU K) (tVar 3) (tPart (tOp (rAddU K) (tVar 2) (tC (.int 1)))) tNoPart)) (tCons (tVar 4) (tCons (tVar 1) tNil)))))
  (tRet (tOp (rIx K) (tVar 3) (tVar 2)))))))

/- ['self'] -/
def t_st_undo (K : PySem.W.Frag) (C : Addr) (E : XK) (Cn : Addr) : TS := (tSeq (tIfS (tTest (tOp (rEqD K) (tFld K (tVar 0) "earlier") (tLst tNil))) (tRaiseD E Cn) tNext)
  (sFld K (tVar 0) (tBM0 K "list" rPop (tFld K (tVar 0) "earlier")) "state"))

/- ['self'] -/
def t_st_entries (K : PySem.W.Frag) (C : Addr) : TS := (tRet (tCB (rListOf K) (tCons (tOp (rIx K) (tFld K (tVar 0) "state") (tC (.int 0))) tNil)))

/- ['self'] -/
def t_st_log (K : PySem.W.Frag) (C : Addr) : TS := (tRet (tCB (rListOf K) (tCons (tOp (rIx K) (tFld K (tVar 0) "state") (tC (.int 1))) tNil)))

/- ['self'] -/
def t_st_len (K : PySem.W.Frag) (C : Addr) : TS := (tRet (tCB (rLenU K) (tCons (tOp (rIx K) (tFld K (tVar 0) "state") (tC (.int 1))) tNil)))

/- ['self', 'other'] -/
def t_st_eq (K : PySem.W.Frag) (C : Addr) : TS := (tRet (tAndV (tCB (rIsi K) (tCons (tVar 1) (tCons (tC (.ref C)) tNil))) (tAndV (tOp (rEqD K) (tFld K (tVar 0) "row") (tFld K (tVar 1) "row")) (tOp (rEqD K) (tSl (rSlU K) (tFld K (tVar 0) "state") tNoPart (tPart (tC (.int 2)))) (tSl (rSlU K) (tFld K (tVar 1) "state") tNoPart (tPart (tC (.int 2))))))))

section
variable {K : PySem.W.Frag} {H : Hp} {Q : VK} {mg : Str → Option Value} {C : Addr} {E : XK}
theorem sta_parts {v : V} {s : St3} (h : Rp AllA H v (stD s)) : ∃ a ve vd, v = .ref a ∧ H a = some (.tup [ve, vd, .int s.2.2]) ∧ Rp AllA H ve (.tuple (s.1.map entD)) ∧ Rp AllA H vd (.tuple (s.2.1.map rdD)) := by
  obtain ⟨a, xs, rfl, h1, h2⟩ := rpTup h
  cases h2 with
  | cons r0 h2 =>
    cases h2 with
    | cons r1 h2 =>
      cases h2 with
      | cons r2 h2 =>
        cases h2
        cases r2
        exact ⟨a, _, _, rfl, h1, r0, r1⟩
theorem isIntB_t {lo hi : Int} {d : PyData} (h : isIntB lo hi d = true) : ∃ i, d = .int i ∧ lo ≤ i ∧ i ≤ hi := by
  cases d with
  | int i =>
    rw [isIntB_int, Bool.and_eq_true] at h
    exact ⟨i, rfl, of_decide_eq_true h.1, of_decide_eq_true h.2⟩
  | _ => exact absurd h (by simp [isIntB])
/-- is_integer of any value -/
theorem raw_isInt {v : V} {d : PyData} {lo hi : Int} {n m : Nat} (hv : Rp AllA H v d) (ha : Any n m d) (q : ∀ H', Grow H H' → Q (.bl (isIntB lo hi d)) H') : spD ct_is_integer [v, .int lo, .int hi] H Q E0 :=
  raw_call (ds := [d, .int lo, .int hi]) rfl rfl (.cons hv (.cons (.int _) (.cons (.int _) .nil))) ⟨d, lo, hi, n, m, rfl, ha, _, rfl, rfl, fun v H' g rv => by
    cases rv
    exact q H' g⟩
theorem raw_change (T : Txt K mg C) {vs : List V} (h : sp_change C vs H Q E) : t_st_change K C { nx := fun _ H' => Q .non H', rt := Q } (L2.start ["self", "entries", "reads", "time"] vs) H := by
  obtain ⟨p, q, r, s, ps, ve, vd, t, es, rs, rfl, S, hn, he, hd, k⟩ := h
  show t_st_change K C _ [some (.ref p), some ve, some vd, some (.int t)] H
  obtain ⟨dx, vr, st, xs, h1, h2, h3, h4, h5⟩ := S.ex
  have hxl : xs.length = ps.length := by rw [h5.len, List.length_map]
  have npq : p ≠ q := ne_of h1 h4 (by intro z; cases z)
  unfold t_st_change
  refine ⟨_, rfl, p, C, dx, _, .ref q, rfl, h1, T.cl, T.nE, fl_earlier, .inl ⟨rfl, _, SqL.of h4⟩, _, rfl, p, C, dx, _, st, rfl, h1, T.cl, T.nS, fl_state, q, xs, st, rfl, rfl, h4, sz5' (by omega), ?_⟩
  have t1 : TF H (upd H q (.lst (xs ++ [st]))) := TF.upd fun _ e => by rw [h4] at e; cases e
  refine ⟨ve, rfl, vd, rfl, _, rfl, by show 3 ≤ sizeLine; decide, fun u hu => ?_⟩
  have hu0 : H u = none := by
    by_cases z : u = q
    · rw [z, upd_same] at hu; cases hu
    · rw [upd_ne z] at hu; exact hu
  have t2 := t1.trans (TF.new (o := .tup [ve, vd, .int t]) hu)
  have nup : u ≠ p := (ne_of_none h1 hu0).symm
  have nuq : u ≠ q := (ne_of_none h4 hu0).symm
  have hp2 : upd (upd H q (.lst (xs ++ [st]))) u (.tup [ve, vd, .int t]) p = some (.ins C dx (fl vr st q)) := by rw [upd_ne nup.symm, upd_ne npq]; exact h1
  refine ⟨_, rfl, p, C, dx, _, rfl, hp2, T.cl, T.nS, by rw [fl_len]; decide, ?_⟩
  rw [fl_put]
  have t3 := t2.trans (TF.upd (p := p) (o := .ins C dx (fl vr (.ref u) q)) fun _ e => by rw [hp2] at e; cases e)
  refine k _ ⟨⟨dx, vr, .ref u, xs ++ [st], upd_same, rpTf h2 t3, .tup (xs := [ve, vd, .int t]) (by rw [upd_ne nup, upd_same]) (.cons (rpTf he t3) (.cons (rpTf hd t3) (.cons (.int _) .nil))), by rw [upd_ne npq.symm, upd_ne nuq.symm, upd_same], ?_⟩⟩ ⟨fun b o e n1 n2 => ?_, t3⟩
  · rw [List.map_append]
    exact (rpTfA h5 t3).app (.cons (rpTf h3 t3) .nil)
  rw [upd_ne n1, upd_ne (ne_of_none e hu0), upd_ne n2]
  exact e
theorem raw_init {Cr : Addr} (T : Txt K mg C) {vs : List V} (h : sp_init C Cr vs H Q E) : t_st_init K C E Cr { nx := fun _ H' => Q .non H', rt := Q } (L2.start ["self", "row"] vs) H := by
  obtain ⟨p, dx, vr, d, A, rfl, h1, dom, hr, k⟩ := h
  show t_st_init K C E Cr _ [some (.ref p), some vr] H
  unfold t_st_init
  rcases k with ⟨r, rfl, R, k⟩ | ⟨n, m, hA, hn, hm, nr, k⟩
  rotate_left
  · refine ⟨vr, rfl, raw_callA (ds := [d]) rfl dom rfl (.cons hr .nil) ⟨d, n, m, rfl, hA, hn, hm, _, rfl, rfl, fun v H1 g1 rv => ?_⟩⟩
    rw [boolOf_f nr] at rv
    cases rv
    exact ⟨false, rfl, k H1 g1⟩
  have hr := rpTop _ _ hr (noL_row r)
  refine ⟨vr, rfl, raw_call (ds := [rowD r]) rfl rfl (.cons hr .nil) ⟨rowD r, 3, 10, rfl, any_row R (by decide) (by decide), by decide, by decide, _, rfl, rfl, fun v H1 g1 rv => ?_⟩⟩
  rw [boolOf_t (rowP_of R)] at rv
  cases rv
  refine ⟨true, rfl, ?_⟩
  show tSeq (sFld K (tVar 0) (tVar 1) "row") _ _ _ H1
  have g1p := g1.keep p _ h1
  refine ⟨vr, rfl, _, rfl, p, C, dx, [], rfl, g1p, T.cl, T.nR, by decide, ?_⟩
  have t2 : TF H (upd H1 p (.ins C dx (putF "row" vr []))) := (TF.grow g1).trans (TF.upd fun _ e => by rw [g1p] at e; cases e)
  refine ⟨vr, rfl, raw_call (ds := [rowD r]) rfl rfl (.cons (rpTf hr t2) .nil) ⟨r, rfl, by have := R.ls; omega, _, rfl, noL_ents _, fun ve H3 g3 rve => ?_⟩⟩
  refine ⟨by show 0 ≤ sizeLine; decide, fun w hw => ?_⟩
  refine ⟨by show 3 ≤ sizeLine; decide, fun u hu => ?_⟩
  have g3p := g3.keep p _ upd_same
  have t4 : TF H3 (upd H3 w (.tup [])) := TF.new hw
  have t5 := t4.trans (TF.new (o := .tup [ve, .ref w, .int 0]) hu)
  have nwp : w ≠ p := (ne_of_none g3p hw).symm
  have nup : u ≠ p := fun z => by rw [z, upd_ne nwp.symm, g3p] at hu; cases hu
  have nuw : u ≠ w := fun z => by rw [z, upd_same] at hu; cases hu
  have hp5 : upd (upd H3 w (.tup [])) u (.tup [ve, .ref w, .int 0]) p = some (.ins C dx (putF "row" vr [])) := by rw [upd_ne nup.symm, upd_ne nwp.symm]; exact g3p
  refine ⟨_, rfl, p, C, dx, _, rfl, hp5, T.cl, T.nS, by show 1 < 1000; decide, ?_⟩
  have t6 := t5.trans (TF.upd (p := p) (o := .ins C dx (putF "state" (.ref u) (putF "row" vr []))) fun _ e => by rw [hp5] at e; cases e)
  refine ⟨by show 0 ≤ sizeLine; decide, fun q hq => ?_⟩
  have nqp : q ≠ p := fun z => by rw [z, upd_same] at hq; cases hq
  have nqu : q ≠ u := fun z => by rw [z, upd_ne nup, upd_same] at hq; cases hq
  have nqw : q ≠ w := fun z => by rw [z, upd_ne nwp, upd_ne nuw.symm, upd_same] at hq; cases hq
  have t7 := t6.trans (TF.new (o := .lst []) hq)
  have hp7 : upd (upd (upd (upd H3 w (.tup [])) u (.tup [ve, .ref w, .int 0])) p (.ins C dx (putF "state" (.ref u) (putF "row" vr [])))) q (.lst []) p = some (.ins C dx (putF "state" (.ref u) (putF "row" vr []))) := by rw [upd_ne nqp.symm, upd_same]
  refine ⟨_, rfl, p, C, dx, _, rfl, hp7, T.cl, T.nE, by show 2 < 1000; decide, ?_⟩
  have t8 := t7.trans (TF.upd (p := p) (o := .ins C dx (fl vr (.ref u) q)) fun _ e => by rw [hp7] at e; cases e)
  have hu3 : H3 u = none := by rw [upd_ne nuw] at hu; exact hu
  have hq3 : H3 q = none := by rw [upd_ne nqp, upd_ne nqu, upd_ne nqw] at hq; exact hq
  have hq0 : H q = none := by
    have := g3.dom q hq3
    rw [upd_ne nqp] at this
    exact g1.dom q this
  have t9 : TF H _ := (t2.trans (TF.grow g3)).trans t8
  refine k _ q hq0 ⟨⟨dx, vr, .ref u, [], upd_same, rpTf hr t9, .tup (xs := [ve, .ref w, .int 0]) (by rw [upd_ne nup, upd_ne nqu.symm, upd_ne nup, upd_same]) (.cons (rpTf rve t8) (.cons (.tup (xs := []) (by rw [upd_ne nwp, upd_ne nqw.symm, upd_ne nwp, upd_ne nuw.symm, upd_same]) .nil) (.cons (.int _) .nil))), by rw [upd_ne nqp, upd_same], .nil⟩⟩ ⟨fun b o e n1 n2 => ?_, t9⟩
  have e3 := g3.keep b o (by rw [upd_ne n1]; exact g1.keep b o e)
  rw [upd_ne n1, upd_ne n2, upd_ne n1, upd_ne (ne_of_none e3 hu3), upd_ne (ne_of_none e3 hw)]
  exact e3
theorem raw_entries (T : Txt K mg C) {vs : List V} (h : sp_entries C vs H Q E) : t_st_entries K C { nx := fun _ H' => Q .non H', rt := Q } (L2.start ["self"] vs) H := by
  obtain ⟨p, q, r, cs, rfl, S, k⟩ := h
  show t_st_entries K C _ [some (.ref p)] H
  obtain ⟨dx, vr, st, xs, h1, h2, h3, h4, h5⟩ := S.ex
  obtain ⟨a, ve, vd, rfl, g1, g2, g3⟩ := sta_parts h3
  obtain ⟨b, ys, rfl, g4, g5⟩ := rpTup g2
  exact ⟨_, rfl, p, C, dx, _, .ref a, rfl, h1, T.cl, T.nS, fl_state, .inr (.inl ⟨a, _, 0, .ref b, rfl, rfl, SqT.of g1, atI_0, b, ys, rfl, .inr (SqT.of g4), fun l hl => k l ys hl g5⟩)⟩
theorem raw_log (T : Txt K mg C) {vs : List V} (h : sp_log C vs H Q E) : t_st_log K C { nx := fun _ H' => Q .non H', rt := Q } (L2.start ["self"] vs) H := by
  obtain ⟨p, q, r, cs, rfl, S, k⟩ := h
  show t_st_log K C _ [some (.ref p)] H
  obtain ⟨dx, vr, st, xs, h1, h2, h3, h4, h5⟩ := S.ex
  obtain ⟨a, ve, vd, rfl, g1, g2, g3⟩ := sta_parts h3
  obtain ⟨b, ys, rfl, g4, g5⟩ := rpTup g3
  exact ⟨_, rfl, p, C, dx, _, .ref a, rfl, h1, T.cl, T.nS, fl_state, .inr (.inl ⟨a, _, 1, .ref b, rfl, rfl, SqT.of g1, atI_1, b, ys, rfl, .inr (SqT.of g4), fun l hl => k l ys hl g5⟩)⟩
theorem raw_len (T : Txt K mg C) {vs : List V} (h : sp_len C vs H Q E) : t_st_len K C { nx := fun _ H' => Q .non H', rt := Q } (L2.start ["self"] vs) H := by
  obtain ⟨p, q, r, cs, rfl, S, k⟩ := h
  show t_st_len K C _ [some (.ref p)] H
  obtain ⟨dx, vr, st, xs, h1, h2, h3, h4, h5⟩ := S.ex
  obtain ⟨a, ve, vd, rfl, g1, g2, g3⟩ := sta_parts h3
  obtain ⟨b, ys, rfl, g4, g5⟩ := rpTup g3
  have e : ys.length = (stOf r cs).2.1.length := by rw [g5.len, List.length_map]
  exact ⟨_, rfl, p, C, dx, _, .ref a, rfl, h1, T.cl, T.nS, fl_state, .inr (.inl ⟨a, _, 1, .ref b, rfl, rfl, SqT.of g1, atI_1, b, ys, rfl, .inr (SqT.of g4), by rw [e]; exact k⟩)⟩
theorem raw_read {Cd : Addr} (T : Txt K mg C) {vs : List V} (h : sp_read C Cd vs H Q E) : t_st_read K C E Cd { nx := fun _ H' => Q .non H', rt := Q } (L2.start ["self", "time", "client", "entries", "reads", "now", "answer", "source"] vs) H := by
  obtain ⟨p, q, r, cs, w, vt, vi, dt, di, n, m, rfl, S, G, hw, hvt, hvi, At, Ai, kb, kg⟩ := h
  show t_st_read K C E Cd _ [some (.ref p), some vt, some vi, none, none, none, none, none] H
  obtain ⟨dx, vr, st, xs, h1, h2, h3, h4, h5⟩ := S.ex
  obtain ⟨a, ve, vd, rfl, g1, g2, g3⟩ := sta_parts h3
  have hls := G.rin.ls
  have hnow := stOf_now r cs
  unfold t_st_read
  refine ⟨_, rfl, p, C, dx, _, .ref a, rfl, h1, T.cl, T.nS, fl_state, a, _, rfl, SqT.of g1, rfl, ve, _, rfl, vd, _, rfl, _, _, rfl, rfl, ?_⟩
  rw [hnow]
  show tSeq (tIfS (tNot (tB (tCall (spD ct_is_integer) [] E0 (tCons (tVar 1) (tCons (tVar 5) (tCons (tC (.int 1000000000)) tNil)))))) (tRaiseD E Cd) tNext) _ _ [some (.ref p), some vt, some vi, some ve, some vd, some (.int (lastT cs)), none, none] H
  refine ⟨_, rfl, _, rfl, raw_isInt hvt At fun H1 i1 => ⟨_, rfl, ?_⟩⟩
  cases hb : isIntB (lastT cs) 1000000000 dt with
  | false => exact kb (by unfold goodB; rw [hb]; rfl) H1 (S.grow i1) (FrS.grow i1)
  | true =>
  obtain ⟨t, rfl, ht0, ht1⟩ := isIntB_t hb
  cases rpInt hvt
  show tSeq (tIfS (tNot (tB (tCall (spD ct_is_integer) [] E0 (tCons (tVar 2) (tCons (tC (.int 0)) (tCons (tOp (rI0 fun i j => .int (i - j)) (tCB (rLenU K) (tCons (tOp (rIx K) (tFld K (tVar 0) "row") (tC (.int 1))) tNil)) (tC (.int 1))) tNil)))))) (tRaiseD E Cd) tNext) _ _ [some (.ref p), some (.int t), some vi, some ve, some vd, some (.int (lastT cs)), none, none] H1
  have f1 := i1.keep p _ h1
  refine ⟨_, rfl, len_row1 (rpTf h2 (TF.grow i1) : Rp AllA H1 vr (rowD r)) (fun Q w => ⟨_, rfl, p, C, dx, _, vr, rfl, f1, T.cl, T.nR, fl_row, w⟩) ⟨_, _, rfl, rfl, raw_isInt (rpTf hvi (TF.grow i1)) Ai fun H2 i2 => ⟨_, rfl, ?_⟩⟩⟩
  have i12 := i1.trans i2
  cases hb2 : isIntB 0 ((r.ps.length : Int) - 1) di with
  | false => exact kb (by unfold goodB; rw [hb, hb2]; rfl) H2 (S.grow i12) (FrS.grow i12)
  | true =>
  obtain ⟨ci, rfl, hc0, hc1⟩ := isIntB_t hb2
  obtain ⟨c, rfl⟩ := Int.eq_ofNat_of_zero_le hc0
  cases rpInt hvi
  obtain ⟨pos, hc⟩ := get_at (show c < r.ps.length by omega)
  have hpos := G.rin.inn pos (get_mem hc)
  show tSeq (tAsg (tCall (spD ct_read) [] E0 (tCons (tFld K (tVar 0) "row") (tCons (tVar 3) (tCons (tVar 1) (tCons (tVar 2) tNil))))) (gTup K 3 (gCons (gName 6) (gCons (gName 7) (gCons (gName 3) gNil))))) _ _ [some (.ref p), some (.int t), some (.int (c : Int)), some ve, some vd, some (.int (lastT cs)), none, none] H2
  have f2 := i12.keep p _ h1
  refine ⟨_, rfl, p, C, dx, _, vr, rfl, f2, T.cl, T.nR, fl_row, ve, rfl, _, rfl, _, rfl, raw_call (ds := [rowD r, .tuple ((stOf r cs).1.map entD), .int t, .int (c : Int)]) rfl rfl (.cons (rpTf h2 (TF.grow i12)) (.cons (rpTf g2 (TF.grow i12)) (.cons (.int _) (.cons (.int _) .nil))))
    ⟨r, (stOf r cs).1, t, c, pos, rfl, hc, hpos, stOf_len r cs, by omega, _, rfl, by rw [noL, noLA, noLA, noLA, noLA, noL_ents]; rfl, fun v H3 i3 rv => ?_⟩⟩
  obtain ⟨b, ys, rfl, e1, e2⟩ := rpTup rv
  cases e2 with
  | cons r0 e2 =>
  cases e2 with
  | cons r1 e2 =>
  cases e2 with
  | cons r2 e2 =>
  cases e2
  cases r0
  refine ⟨b, _, rfl, SqT.of e1, rfl, _, _, rfl, _, _, rfl, _, _, rfl, rfl, ?_⟩
  rename_i vs2 vn
  show tSeq (tDrop (tMeth C "change" (sp_change C) [] E0 (tVar 0) (tCons (tVar 3) (tCons (tOp (rAddU K) (tVar 4) (tTup (tCons (tTup (tCons (tVar 1) (tCons (tVar 2) (tCons (tVar 6) tNil)))) tNil))) (tCons (tVar 1) tNil))))) _ _ [some (.ref p), some (.int t), some (.int (c : Int)), some vn, some vd, some (.int (lastT cs)), some (.int (ask r.ls (stOf r cs).1 t pos).1.1), some vs2] H3
  have i13 := i12.trans i3
  have f3 := i13.keep p _ h1
  refine ⟨_, rfl, p, dx, _, rfl, f3, fl_no (by decide +kernel) (by decide +kernel) (by decide +kernel), vn, rfl, vd, rfl, _, rfl, _, rfl, _, rfl, by show 3 ≤ sizeLine; decide, fun u hu => ⟨by show 1 ≤ sizeLine; decide, fun w' hw' => ?_⟩⟩
  have j1 : Grow H3 (upd H3 u (.tup [.int t, .int (c : Int), .int (ask r.ls (stOf r cs).1 t pos).1.1])) := .new hu
  have j2 := j1.trans (Grow.new (o := .tup [.ref u]) hw')
  have nuw : u ≠ w' := fun z => by rw [← z, upd_same] at hw'; cases hw'
  have rw1 : Rp AllA (upd (upd H3 u (.tup [.int t, .int (c : Int), .int (ask r.ls (stOf r cs).1 t pos).1.1])) w' (.tup [.ref u])) (.ref w') (.tuple [rdD (t, (c : Int), (ask r.ls (stOf r cs).1 t pos).1.1)]) :=
    .tup (xs := [.ref u]) upd_same (.cons (.tup (xs := [.int t, .int (c : Int), .int (ask r.ls (stOf r cs).1 t pos).1.1]) (by rw [upd_ne nuw, upd_same]) (.cons (.int _) (.cons (.int _) (.cons (.int _) .nil)))) .nil)
  have hrl := stOf_log r cs
  have hfew := G.few
  have emap : (stOf r cs).2.1.map rdD ++ [rdD (t, (c : Int), (ask r.ls (stOf r cs).1 t pos).1.1)] = ((stOf r cs).2.1 ++ [(t, (c : Int), (ask r.ls (stOf r cs).1 t pos).1.1)]).map rdD := by rw [List.map_append]; rfl
  refine raw_op2 simR2_add (d := .tuple ((stOf r cs).2.1.map rdD)) (rpTf g3 (TF.grow (i13.trans j2))) rw1 ⟨by simp only [List.length_cons, List.length_nil, List.length_map]; omega, .tuple (((stOf r cs).2.1 ++ [(t, (c : Int), (ask r.ls (stOf r cs).1 t pos).1.1)]).map rdD), by rw [emap], noL_rds _, fun vz H4 j4 rvz => ?_⟩
  have j24 := j2.trans j4
  have i14 := i13.trans j24
  refine ⟨_, rfl, p, q, r, stOf r cs, pastOf r cs, vn, vz, t, (ask r.ls (stOf r cs).1 t pos).2, _, rfl, SFs.grow S i14, by rw [pastOf_len]; omega, rpTf r2 (TF.grow j24), rvz, fun H5 S5 F5 => ?_⟩
  refine ⟨_, rfl, kg t c pos rfl rfl ht0 ht1 hc H5 ?_ ((FrS.grow i14).trans F5)⟩
  unfold SF
  rw [stOf_snoc, pastOf_snoc]
  unfold stepC
  rw [if_pos hw, getD_of hc]
  exact S5
theorem raw_purge {Cp : Addr} (T : Txt K mg C) {vs : List V} (h : sp_purge C Cp vs H Q E) : t_st_purge K C E Cp { nx := fun _ H' => Q .non H', rt := Q } (L2.start ["self", "time", "cache", "entries", "reads", "now"] vs) H := by
  obtain ⟨p, q, r, cs, vt, vi, dt, di, n, m, rfl, S, G, hvt, hvi, At, Ai, kb, kg⟩ := h
  show t_st_purge K C E Cp _ [some (.ref p), some vt, some vi, none, none, none] H
  obtain ⟨dx, vr, st, xs, h1, h2, h3, h4, h5⟩ := S.ex
  obtain ⟨a, ve, vd, rfl, g1, g2, g3⟩ := sta_parts h3
  have hls := G.rin.ls
  have hnow := stOf_now r cs
  have hlen := stOf_len r cs
  unfold t_st_purge
  refine ⟨_, rfl, p, C, dx, _, .ref a, rfl, h1, T.cl, T.nS, fl_state, a, _, rfl, SqT.of g1, rfl, ve, _, rfl, vd, _, rfl, _, _, rfl, rfl, ?_⟩
  rw [hnow]
  show tSeq (tIfS (tNot (tB (tCall (spD ct_is_integer) [] E0 (tCons (tVar 1) (tCons (tVar 5) (tCons (tC (.int 1000000000)) tNil)))))) (tRaiseD E Cp) tNext) _ _ [some (.ref p), some vt, some vi, some ve, some vd, some (.int (lastT cs))] H
  refine ⟨_, rfl, _, rfl, raw_isInt hvt At fun H1 i1 => ⟨_, rfl, ?_⟩⟩
  cases hb : isIntB (lastT cs) 1000000000 dt with
  | false => exact kb (by unfold goodB; rw [hb]; rfl) H1 (S.grow i1) (FrS.grow i1)
  | true =>
  obtain ⟨t, rfl, ht0, ht1⟩ := isIntB_t hb
  cases rpInt hvt
  show tSeq (tIfS (tNot (tB (tCall (spD ct_is_integer) [] E0 (tCons (tVar 2) (tCons (tC (.int 0)) (tCons (tOp (rI0 fun i j => .int (i - j)) (tCB (rLenU K) (tCons (tVar 3) tNil)) (tC (.int 1))) tNil)))))) (tRaiseD E Cp) tNext) _ _ [some (.ref p), some (.int t), some vi, some ve, some vd, some (.int (lastT cs))] H1
  obtain ⟨b, ys, rfl, e1, e2⟩ := rpTup g2
  have hyl : ys.length = r.ls.length := by rw [e2.len, List.length_map, hlen]
  refine ⟨_, rfl, _, rfl, b, ys, rfl, .inr (SqT.of (i1.keep b _ e1)), ⟨_, _, rfl, rfl, ?_⟩⟩
  rw [hyl]
  refine raw_isInt (rpTf hvi (TF.grow i1)) Ai fun H2 i2 => ⟨_, rfl, ?_⟩
  have i12 := i1.trans i2
  cases hb2 : isIntB 0 ((r.ls.length : Int) - 1) di with
  | false => exact kb (by unfold goodB; rw [hb, hb2]; rfl) H2 (S.grow i12) (FrS.grow i12)
  | true =>
  obtain ⟨ci, rfl, hc0, hc1⟩ := isIntB_t hb2
  obtain ⟨c, rfl⟩ := Int.eq_ofNat_of_zero_le hc0
  cases rpInt hvi
  have hcl : c < (stOf r cs).1.length := by omega
  obtain ⟨e, hc⟩ := get_at hcl
  have f2 := i12.keep p _ h1
  show tSeq (tDrop (tMeth C "change" (sp_change C) [] E0 (tVar 0) (tCons (tOp (rAddU K) (tOp (rAddU K) (tSl (rSlU K) (tVar 3) tNoPart (tPart (tVar 2))) (tTup (tCons (tC .non) tNil))) (tSl (rSlU K) (tVar 3) (tPart (tOp (rAddU K) (tVar 2) (tC (.int 1)))) tNoPart)) (tCons (tVar 4) (tCons (tVar 1) tNil))))) _ _ [some (.ref p), some (.int t), some (.int (c : Int)), some (.ref b), some vd, some (.int (lastT cs))] H2
  refine ⟨_, rfl, p, dx, _, rfl, f2, fl_no (by decide +kernel) (by decide +kernel) (by decide +kernel), _, rfl, _, rfl, _, rfl, raw_sl (ds := (stOf r cs).1.map entD) (rpTf g2 (TF.grow i12)) fun v1 H3 i3 r1 => ?_⟩
  rw [cut_to _ (by rw [List.length_map]; omega)] at r1
  refine ⟨by show 1 ≤ sizeLine; decide, fun w hw => ?_⟩
  have i4 := i3.trans (Grow.new (o := .tup [.non]) hw)
  refine raw_op2 simR2_add (d := .tuple (((stOf r cs).1.map entD).take c)) (e := .tuple [.none]) (rpTf r1 (TF.new hw)) (.tup (xs := [.non]) upd_same (.cons .non .nil)) ⟨by simp; omega, .tuple (((stOf r cs).1.map entD).take c ++ [.none]), rfl, ?_, fun v2 H5 i5 r2 => ?_⟩
  · rw [← List.map_take, show [PyData.none] = [none].map entD from rfl, ← List.map_append]
    exact noL_ents _
  have i25 := i4.trans i5
  have i15 := i12.trans i25
  refine ⟨_, rfl, _, rfl, .inl ⟨_, _, rfl, rfl, _, rfl, raw_sl (ds := (stOf r cs).1.map entD) (rpTf g2 (TF.grow i15)) fun v3 H6 i6 r3 => ?_⟩⟩
  rw [show ((c : Int) + 1) = ((c + 1 : Nat) : Int) by omega, cut_from] at r3
  have eset : (stOf r cs).1.set c none = (stOf r cs).1.take c ++ [none] ++ (stOf r cs).1.drop (c + 1) := by
    rw [List.set_eq_take_append_cons_drop, if_pos hcl]
    simp
  have ees : ((stOf r cs).1.map entD).take c ++ [PyData.none] ++ ((stOf r cs).1.map entD).drop (c + 1) = ((stOf r cs).1.set c none).map entD := by rw [eset]; simp [entD]
  refine raw_op2 simR2_add (d := .tuple (((stOf r cs).1.map entD).take c ++ [.none])) (e := .tuple (((stOf r cs).1.map entD).drop (c + 1))) (rpTf r2 (TF.grow i6)) r3 ⟨by simp; omega, .tuple (((stOf r cs).1.set c none).map entD), by rw [ees], noL_ents _, fun v4 H7 i7 r4 => ?_⟩
  have i17 := i15.trans (i6.trans i7)
  have hfew := G.few
  refine ⟨_, rfl, _, rfl, p, q, r, stOf r cs, pastOf r cs, v4, vd, t, (stOf r cs).1.set c none, (stOf r cs).2.1, rfl, SFs.grow S i17, by rw [pastOf_len]; omega, r4, rpTf g3 (TF.grow i17), fun H8 S8 F8 => ?_⟩
  have F := (FrS.grow i17).trans F8
  obtain ⟨v, hv, rv⟩ := e2.get (i := c) (d := entD e) (by rw [List.getElem?_map, hc]; rfl)
  refine ⟨_, rfl, _, rfl, .inr (.inl ⟨b, ys, (c : Int), v, rfl, rfl, SqT.of (F.tup b _ e1), atI_n hv, kg t c e rfl rfl ht0 ht1 hc v H8 ?_ F (rpTf rv F.tup)⟩)⟩
  unfold SF
  rw [stOf_snoc, pastOf_snoc]
  unfold stepC
  rw [if_neg (show ¬ (2 : Int) < 2 by decide)]
  exact S8
theorem any_stD {r : Row} {cs : List Cal} (h8 : r.ls.length ≤ 8) (hf : cs.length ≤ 100) : Any 4 1000 (stD (stOf r cs)) := by
  have h1 := stOf_len r cs
  have h2 := stOf_log r cs
  refine any_tup.mpr ⟨by simp, fun x hx => ?_⟩
  simp only [List.mem_cons, List.not_mem_nil, or_false] at hx
  rcases hx with rfl | rfl | rfl
  · refine any_tup.mpr ⟨by rw [List.length_map]; omega, fun x hx => ?_⟩
    obtain ⟨e, _, rfl⟩ := List.mem_map.mp hx
    cases e with
    | none => exact any_non
    | some y =>
      refine any_tup.mpr ⟨by simp, fun x hx => ?_⟩
      simp only [List.mem_cons, List.not_mem_nil, or_false] at hx
      rcases hx with rfl | rfl <;> exact any_int
  · refine any_tup.mpr ⟨by rw [List.length_map]; omega, fun x hx => ?_⟩
    obtain ⟨e, _, rfl⟩ := List.mem_map.mp hx
    refine any_tup.mpr ⟨by simp, fun x hx => ?_⟩
    simp only [List.mem_cons, List.not_mem_nil, or_false] at hx
    rcases hx with rfl | rfl | rfl <;> exact any_int
  · exact any_int
theorem rp_unsnoc {A : Av} {H : Hp} : ∀ {ds : List PyData} {xs : List V} {d : PyData}, RpAll A H xs (ds ++ [d]) → ∃ ys y, xs = ys ++ [y] ∧ RpAll A H ys ds ∧ Rp A H y d
  | [], _, _, h => by
    cases h with
    | cons h1 h2 => cases h2; exact ⟨[], _, rfl, .nil, h1⟩
  | d :: ds, _, _, h => by
    cases h with
    | cons h1 h2 =>
      obtain ⟨ys, y, rfl, h3, h4⟩ := rp_unsnoc h2
      exact ⟨_ :: ys, y, rfl, .cons h1 h3, h4⟩
theorem raw_undo {Cn : Addr} (T : Txt K mg C) {vs : List V} (h : sp_undo C Cn vs H Q E) : t_st_undo K C E Cn { nx := fun _ H' => Q .non H', rt := Q } (L2.start ["self"] vs) H := by
  obtain ⟨p, q, r, cs, rfl, S, G, kb, kg⟩ := h
  show t_st_undo K C E Cn _ [some (.ref p)] H
  obtain ⟨dx, vr, st, xs, h1, h2, h3, h4, h5⟩ := S.ex
  have hls := G.rin.ls
  have hfew := G.few
  have npq : p ≠ q := ne_of h1 h4 (by intro z; cases z)
  unfold t_st_undo
  refine ⟨_, rfl, p, C, dx, _, .ref q, rfl, h1, T.cl, T.nE, fl_earlier, by show 0 ≤ sizeLine; decide, fun l hl => ?_⟩
  have g1 : Grow H (upd H l (.lst [])) := .new hl
  have dq : Dp K (upd H l (.lst [])) (.ref q) (.list ((pastOf r cs).map stD)) := .lst (SqL.of (g1.keep q _ h4)) (RpAll.dp _ _ (rpTfA h5 (TF.grow g1) : RpAll AllA _ _ _))
  have dl : Dp K (upd H l (.lst [])) (.ref l) (.list []) := .lst (SqL.of upd_same) .nil
  have stA : Any 5 1000 (.list ((pastOf r cs).map stD)) := any_lst.mpr ⟨by rw [List.length_map, pastOf_len]; omega, fun x hx => by
    obtain ⟨s, hs, rfl⟩ := List.mem_map.mp hx
    unfold pastOf at hs
    obtain ⟨i, hi, rfl⟩ := List.mem_map.mp hs
    exact any_stD (by omega) (by rw [List.length_take]; omega)⟩
  refine ⟨_, _, dq, dl, stA.shp (by decide), by rfl, _, rfl, ?_⟩
  by_cases hc : cs = []
  · subst hc
    exact kb rfl _ (S.grow g1) (FrS.grow g1)
  obtain ⟨ds, c, rfl⟩ := snoc_of hc
  have ee : PyData.eqv (.list ((pastOf r (ds ++ [c])).map stD)) (.list []) = false := by
    rw [pastOf_snoc, List.map_append]
    cases (pastOf r ds).map stD <;> simp [PyData.eqv, PyData.eqvAll]
  rw [ee, if_neg Bool.false_ne_true]
  rw [pastOf_snoc, List.map_append] at h5
  obtain ⟨ys, y, rfl, h6, h7⟩ := rp_unsnoc h5
  have f1 := g1.keep p _ h1
  have f2 := g1.keep q _ h4
  show sFld K (tVar 0) (tBM0 K "list" rPop (tFld K (tVar 0) "earlier")) "state" _ [some (.ref p)] _
  refine ⟨_, rfl, p, C, dx, _, .ref q, rfl, f1, T.cl, T.nE, fl_earlier, .inl ⟨rfl, _, SqL.of f2⟩, q, _, y, rfl, rfl, f2, by simp, ?_⟩
  rw [List.dropLast_concat]
  have t1 : TF H (upd (upd H l (.lst [])) q (.lst ys)) := (TF.grow g1).trans (TF.upd fun _ e => by rw [f2] at e; cases e)
  have hp2 : upd (upd H l (.lst [])) q (.lst ys) p = some (.ins C dx (fl vr st q)) := by rw [upd_ne npq]; exact f1
  refine ⟨_, rfl, p, C, dx, _, rfl, hp2, T.cl, T.nS, by rw [fl_len]; decide, ?_⟩
  rw [fl_put]
  have t3 := t1.trans (TF.upd (p := p) (o := .ins C dx (fl vr y q)) fun _ e => by rw [hp2] at e; cases e)
  refine kg (by simp) _ ?_ ⟨fun b o e n1 n2 => ?_, t3⟩
  · rw [List.dropLast_concat]
    exact ⟨⟨dx, vr, y, ys, upd_same, rpTf h2 t3, rpTf h7 t3, by rw [upd_ne npq.symm, upd_same], rpTfA h6 t3⟩⟩
  · rw [upd_ne n1, upd_ne n2, upd_ne (ne_of_none e hl)]
    exact e
theorem nob_ents (es : List Ent) : Nob 3 (.tuple (es.map entD)) := by
  simp only [Nob]
  intro x hx
  obtain ⟨e, _, rfl⟩ := List.mem_map.mp hx
  cases e with
  | none => simp [entD, Nob]
  | some y => simp [entD, Nob]
theorem nob_rds (es : List (Int × Int × Int)) : Nob 3 (.tuple (es.map rdD)) := by
  simp only [Nob]
  intro x hx
  obtain ⟨e, _, rfl⟩ := List.mem_map.mp hx
  simp [rdD, Nob]
theorem entD_inj {a b : Ent} (h : entD a = entD b) : a = b := by
  cases a with
  | none => cases b with
    | none => rfl
    | some y => cases h
  | some x => cases b with
    | none => cases h
    | some y =>
      obtain ⟨x1, x2⟩ := x
      obtain ⟨y1, y2⟩ := y
      simp only [entD] at h
      injection h with h
      injection h with h1 h
      injection h with h2 _
      injection h1 with h1
      injection h2 with h2
      rw [h1, h2]
theorem rdD_inj {a b : Int × Int × Int} (h : rdD a = rdD b) : a = b := by
  obtain ⟨a1, a2, a3⟩ := a
  obtain ⟨b1, b2, b3⟩ := b
  simp only [rdD] at h
  injection h with h
  injection h with h1 h
  injection h with h2 h
  injection h with h3 _
  injection h1 with h1
  injection h2 with h2
  injection h3 with h3
  rw [h1, h2, h3]
theorem two_inj {es es' : List Ent} {rs rs' : List (Int × Int × Int)} : (PyData.tuple [.tuple (es.map entD), .tuple (rs.map rdD)] = .tuple [.tuple (es'.map entD), .tuple (rs'.map rdD)]) ↔ (es = es' ∧ rs = rs') := by
  constructor
  · intro h
    injection h with h
    injection h with h1 h
    injection h with h2 _
    injection h1 with h1
    injection h2 with h2
    exact ⟨(List.map_inj_right (fun a b e => entD_inj e)).mp h1, (List.map_inj_right (fun a b e => rdD_inj e)).mp h2⟩
  · rintro ⟨rfl, rfl⟩
    rfl
/-- what isinstance asks of the class -/
structure IsC (K : PySem.W.Frag) (C : Addr) : Prop where
  ha : PySem.W.findIn K (.ref C) "__class__" = some (some (.builtin "object.__class__"))
  hn : PySem.W.specialIn K (.builtin "object.__class__") "__get__" = some (some (.builtin "getset_descriptor.__get__"))
  ht : PySem.W.takesIn K (.builtin "object.__class__") = some true
  hm : PySem.W.mroIn K C (.type "object") = some true
  kC : PySem.W.kitOne K (.ref C) (.ref C) = some true
  kT : PySem.W.kitOne K (.type "tuple") (.ref C) = some false
theorem nob_row (r : Row) : Nob 3 (rowD r) := by
  unfold rowD intsT natsT
  simp only [Nob]
  intro x hx
  simp only [List.mem_cons, List.not_mem_nil, or_false] at hx
  rcases hx with rfl | rfl
  · simp only [Nob]
    intro x hx
    obtain ⟨e, _, rfl⟩ := List.mem_map.mp hx
    simp [Nob]
  · simp only [Nob]
    intro x hx
    obtain ⟨e, _, rfl⟩ := List.mem_map.mp hx
    simp [Nob]
theorem two_cut {v : V} {s : St3} {G : Hp} {R : V → Hp → Prop} (h : Rp AllA G v (stD s)) (k : ∀ v' H', Grow G H' → Rp AllA H' v' (.tuple [.tuple (s.1.map entD), .tuple (s.2.1.map rdD)]) → R v' H') : rSlU K v none (some 2) G R := by
  refine raw_sl (ds := [.tuple (s.1.map entD), .tuple (s.2.1.map rdD), .int s.2.2]) h fun v' H' g rv => ?_
  rw [show (some (2 : Int)) = some ((2 : Nat) : Int) from rfl, cut_to _ (by simp)] at rv
  exact k v' H' g rv
theorem raw_eq (T : Txt K mg C) (I : IsC K C) {vs : List V} (h : sp_eq C vs H Q E) : t_st_eq K C { nx := fun _ H' => Q .non H', rt := Q } (L2.start ["self", "other"] vs) H := by
  obtain ⟨p, q, b, r, cs, rfl, S, G, k⟩ := h
  show t_st_eq K C _ [some (.ref p), some (.ref b)] H
  obtain ⟨dx, vr, st, xs, h1, h2, h3, h4, h5⟩ := S.ex
  unfold t_st_eq
  rcases k with ⟨q2, cs2, S2, G2, k⟩ | ⟨ys, hy, k⟩
  rotate_left
  · exact ⟨_, rfl, .ref b, .ref C, .type "tuple", .ref C, false, rfl, .own C, .base (.tup hy), I.kT, false, rfl, k⟩
  obtain ⟨dx2, vr2, st2, xs2, e1, e2, e3, e4, e5⟩ := S2.ex
  refine ⟨_, rfl, .ref b, .ref C, .ref C, .ref C, true, rfl, .own C, .base (.ins e1 T.cl I.ha I.hn I.ht I.hm), I.kC, true, rfl, ?_⟩
  rw [if_pos rfl]
  have ar := any_row G.rin (by decide) (by decide)
  refine ⟨_, rfl, p, C, dx, _, vr, rfl, h1, T.cl, T.nR, fl_row, _, rfl, b, C, dx2, _, vr2, rfl, e1, T.cl, T.nR, fl_row, ?_⟩
  refine raw_op2 simR2_eq h2 e2 (oEq_same (n := 3) (by decide) (Nob.flat _ _ (nob_row r)) ⟨_, rfl, rfl, fun v H1 i1 rv => ?_⟩)
  cases rv
  refine ⟨true, rfl, ?_⟩
  rw [if_pos rfl]
  have f1 := i1.keep p _ h1
  refine ⟨_, rfl, p, C, dx, _, st, rfl, f1, T.cl, T.nS, fl_state, 2, rfl, two_cut (rpTf h3 (TF.grow i1)) fun v1 H2 i2 r1 => ?_⟩
  have f2 := (i1.trans i2).keep b _ e1
  refine ⟨_, rfl, b, C, dx2, _, st2, rfl, f2, T.cl, T.nS, fl_state, 2, rfl, two_cut (rpTf e3 (TF.grow (i1.trans i2))) fun v2 H3 i3 r2 => ?_⟩
  have n1 : Nob 4 (.tuple [.tuple ((stOf r cs).1.map entD), .tuple ((stOf r cs).2.1.map rdD)]) := by
    simp only [Nob]
    intro x hx
    simp only [List.mem_cons, List.not_mem_nil, or_false] at hx
    rcases hx with rfl | rfl
    · exact nob_ents _
    · exact nob_rds _
  have n2 : Nob 4 (.tuple [.tuple ((stOf r cs2).1.map entD), .tuple ((stOf r cs2).2.1.map rdD)]) := by
    simp only [Nob]
    intro x hx
    simp only [List.mem_cons, List.not_mem_nil, or_false] at hx
    rcases hx with rfl | rfl
    · exact nob_ents _
    · exact nob_rds _
  refine raw_op2 simR2_eq (rpTf r1 (TF.grow i3)) r2 (oEq_nob (n := 4) (by decide) n1 n2 two_inj ⟨_, rfl, rfl, fun v H4 i4 rv => ?_⟩)
  cases rv
  exact k _ (((i1.trans i2).trans i3).trans i4)
end
end St
set_option Elab.async false
set_option linter.all false
set_option maxRecDepth 100000
set_option maxHeartbeats 4000000
/-! Within an except suite: a list is walked to its end, a tuple goes to several targets, a list comprehension. -/
namespace L2W
open PySem PySem.Spec PyProof.Rows L2 L2H HotX
section
variable {prog : Program} {w : World} {A : Around} {E : Value → Shared → Prop} {s : Shared} {it x1 : Addr} {i : Nat} {items : Array Value}
theorem hot_lt {h : Heap} (hot : HotAt A x1 h) : x1 < h.objs.size := by
  obtain ⟨_, o, _, b, _⟩ := hot
  exact Heap.lt_size b
theorem hot_keep {h h' : Heap} (hot : HotAt A x1 h) (k : ∀ o, h.get? x1 = some o → h'.get? x1 = some o) : HotAt A x1 h' := by
  obtain ⟨a, o, vs, b, c, d⟩ := hot
  exact ⟨a, o, vs, k o b, c, d⟩
theorem list_endH {l : Addr} {Q : Option Value → Shared → Prop} (hot : HotAt A x1 s.heap) (hne : x1 ≠ it) (hit : s.heap.IsListIter it l i) (hl : s.heap.IsList l items) (hx : items[i]? = none)
    (hQ : ∀ h', Heap.ExtBut it s.heap h' → Q none { s with heap := h' }) : wpAny (model prog w) A (pyNext (.ref it)) Q E s := by
  obtain ⟨o, ho, hc, hd⟩ := id hit
  obtain ⟨ol, hol, _, nl, hdl⟩ := hl
  obtain ⟨hh, o1, vs1, h1, d1, c1⟩ := hot
  unfold pyNext
  refine wpAny_bind (wpAny_attempt (wpAny_callSpecial?_slot (name := Str.ofString "__next__") hit.typeIs slot_listiter_next
    (wpAny_call_entry slot_listiter_next hit.typeIs entry_listiter_next ?_ (args_listiter_next _))))
  show wpAny _ _ (field (.ref it) 0 >>= _) _ _ s
  refine wpAny_bind (wpAny_field ho hd (x := .ref l) rfl ?_)
  show wpAny _ _ (if (Value.ref l == Value.none) = true then _ else _) _ _ s
  rw [if_neg (show ¬ ((Value.ref l == Value.none) = true) from Bool.false_ne_true)]
  show wpAny _ _ (field (.ref it) 1 >>= _) _ _ s
  refine wpAny_bind (wpAny_field ho hd (x := .int i 0) rfl ?_)
  show wpAny _ _ (seqItems? (.ref l) >>= _) _ _ s
  refine wpAny_bind (wpAny_seqItems hol hdl ?_)
  simp only [Int.toNat_natCast, hx]
  refine wpAny_bind (wpAny_rule (wpAny_bind (wpAny_setField ho hd (by simp) ?_)))
  show wpAny _ _ (newExc (.type "StopIteration") [] >>= _) _ _ _
  have keep : ∀ b ob, b ≠ it → s.heap.get? b = some ob → (s.heap.update it (Obj.mapFields fun vs => vs.setIfInBounds 0 Value.none)).get? b = some ob := fun b ob hb e => by
    rw [Heap.get?_update_other _ _ (Ne.symm hb)]; exact e
  refine wpAny_bind ?_
  simp only [newExc, newTuple]
  refine wpAny_bind (wpAny_newObj_type ?_ (by size_fits))
  refine wpAny_bind (m := firstArgMember _ _) (wpAny_of_eq (a := Value.none) (by first | rfl | (simp only [firstArgMember]; rfl)) ?_)
  refine wpAny_newObj_type ?_ (by size_fits)
  have k1 : ∀ {x y : Obj} b ob, b ≠ it → s.heap.get? b = some ob → (((s.heap.update it (Obj.mapFields fun vs => vs.setIfInBounds 0 Value.none)).push x).push y).get? b = some ob := fun b ob hb e => Heap.get?_push_of_some _ (Heap.get?_push_of_some _ (keep b ob hb e))
  refine raiseNew_hot (x1 := x1) ⟨hh, o1, vs1, k1 _ _ hne h1, d1, c1⟩ (Nat.ne_of_lt (Heap.lt_size (Heap.get?_push_of_some _ (keep _ _ hne h1)))) (Heap.get?_push_size _ rfl) rfl (by first | (simp; done) | (simp; omega) | (simp only [Array.size_append]; simp; omega)) ?_
  refine wpAny_bind (wpAny_isInstance (T := "StopIteration") (b := true) ⟨_, Heap.get?_update_self _ (Heap.get?_push_size _ rfl) rfl, rfl⟩ isSubtype_stop ?_)
  refine wpAny_pure (hQ _ fun b ob hb e => ?_)
  rw [Heap.get?_update_other _ _ (Nat.ne_of_gt (Heap.lt_size (Heap.get?_push_of_some _ (keep b ob hb e))))]
  exact k1 b ob hb e
theorem tuple_endH {l : Addr} {Q : Option Value → Shared → Prop} (hot : HotAt A x1 s.heap) (hne : x1 ≠ it) (hit : IsTupIter s.heap it l i) (hl : IsTup s.heap l items) (hx : items[i]? = none)
    (hQ : ∀ h', Heap.ExtBut it s.heap h' → Q none { s with heap := h' }) : wpAny (model prog w) A (pyNext (.ref it)) Q E s := by
  obtain ⟨o, ho, hc, hd⟩ := id hit
  obtain ⟨ol, hol, _, nl, hdl⟩ := hl
  obtain ⟨hh, o1, vs1, h1, d1, c1⟩ := hot
  unfold pyNext
  refine wpAny_bind (wpAny_attempt (wpAny_callSpecial?_slot (name := Str.ofString "__next__") hit.typeIs slot_tupleiter_next
    (wpAny_call_entry slot_tupleiter_next hit.typeIs entry_tupleiter_next ?_ (args_tupleiter_next _))))
  show wpAny _ _ (field (.ref it) 0 >>= _) _ _ s
  refine wpAny_bind (wpAny_field ho hd (x := .ref l) rfl ?_)
  show wpAny _ _ (if (Value.ref l == Value.none) = true then _ else _) _ _ s
  rw [if_neg (show ¬ ((Value.ref l == Value.none) = true) from Bool.false_ne_true)]
  show wpAny _ _ (field (.ref it) 1 >>= _) _ _ s
  refine wpAny_bind (wpAny_field ho hd (x := .int i 0) rfl ?_)
  show wpAny _ _ (seqItems? (.ref l) >>= _) _ _ s
  refine wpAny_bind (wpAny_seqItems hol hdl ?_)
  simp only [Int.toNat_natCast, hx]
  refine wpAny_bind (wpAny_rule (wpAny_bind (wpAny_setField ho hd (by simp) ?_)))
  show wpAny _ _ (newExc (.type "StopIteration") [] >>= _) _ _ _
  have keep : ∀ b ob, b ≠ it → s.heap.get? b = some ob → (s.heap.update it (Obj.mapFields fun vs => vs.setIfInBounds 0 Value.none)).get? b = some ob := fun b ob hb e => by
    rw [Heap.get?_update_other _ _ (Ne.symm hb)]; exact e
  refine wpAny_bind ?_
  simp only [newExc, newTuple]
  refine wpAny_bind (wpAny_newObj_type ?_ (by size_fits))
  refine wpAny_bind (m := firstArgMember _ _) (wpAny_of_eq (a := Value.none) (by first | rfl | (simp only [firstArgMember]; rfl)) ?_)
  refine wpAny_newObj_type ?_ (by size_fits)
  have k1 : ∀ {x y : Obj} b ob, b ≠ it → s.heap.get? b = some ob → (((s.heap.update it (Obj.mapFields fun vs => vs.setIfInBounds 0 Value.none)).push x).push y).get? b = some ob := fun b ob hb e => Heap.get?_push_of_some _ (Heap.get?_push_of_some _ (keep b ob hb e))
  refine raiseNew_hot (x1 := x1) ⟨hh, o1, vs1, k1 _ _ hne h1, d1, c1⟩ (Nat.ne_of_lt (Heap.lt_size (Heap.get?_push_of_some _ (keep _ _ hne h1)))) (Heap.get?_push_size _ rfl) rfl (by first | (simp; done) | (simp; omega) | (simp only [Array.size_append]; simp; omega)) ?_
  refine wpAny_bind (wpAny_isInstance (T := "StopIteration") (b := true) ⟨_, Heap.get?_update_self _ (Heap.get?_push_size _ rfl) rfl, rfl⟩ isSubtype_stop ?_)
  refine wpAny_pure (hQ _ fun b ob hb e => ?_)
  rw [Heap.get?_update_other _ _ (Nat.ne_of_gt (Heap.lt_size (Heap.get?_push_of_some _ (keep b ob hb e))))]
  exact k1 b ob hb e
theorem unpack_tupleH {t : Addr} {targets : List (Bool × (Value → Sem Unit))} {Q : Unit → Shared → Prop} (hot : HotAt A x1 s.heap) (ht : IsTup s.heap t items) (hn : targets.length = items.size) (hstar : targets.findIdx? (·.1) = none)
    (h : ∀ h', Heap.ExtBut s.heap.objs.size s.heap h' → wpAny (model prog w) A (assignInOrder (targets.map (·.2)) items.toList) Q E { s with heap := h' }) : wpAny (model prog w) A (unpack (.ref t) targets) Q E s := by
  have lt : t ≠ s.heap.objs.size := by
    obtain ⟨o, ho, _⟩ := ht
    exact Nat.ne_of_lt (Heap.lt_size ho)
  have lx := Nat.ne_of_lt (hot_lt hot)
  unfold unpack
  rw [hn, hstar]
  refine wpAny_bind (wpAny_holding ?_)
  show wpAny (model prog w) A (unpackItems (.ref t) items.size none) _ E s
  unfold unpackItems
  refine wpAny_bind ?_
  unfold notIterableAtAll
  refine wpAny_bind (wpAny_specialOf ht.typeIs slot_tuple_iter.lookup (wpAny_pure ?_))
  simp only [Bool.false_eq_true, if_false]
  refine wpAny_bind (wpAny_holding (iter_tuple ht ?_))
  refine wpAny_bind (wpAny_holding (draw_tuple lt items.size 0 _ _ ⟨_, Heap.get?_push_size _ rfl, rfl, rfl⟩ (ht.push _) (by omega) fun h1 i1 b1 => ?_))
  rw [show List.take items.size (List.drop 0 items.toList) = items.toList by rw [List.drop_zero]; exact List.take_of_length_le (by simp), if_neg (by simp)]
  have hot1 : HotAt A x1 h1 := hot_keep hot fun o e => b1.extBut _ _ lx (Heap.get?_push_of_some _ e)
  refine wpAny_bind (wpAny_holding (tuple_endH (s := { s with heap := h1 }) hot1 lx i1 ((ht.push _).extBut b1.extBut lt) (by simp) fun h2 e2 => ?_))
  simp only [Option.isSome_none, Bool.false_eq_true, if_false]
  exact wpAny_pure (h h2 fun b o hb e => e2 b o hb (b1.extBut b o hb (Heap.get?_push_of_some _ e)))
end
section
variable {X : Cx}
theorem hot_is (c : HotC X) {pins : List (Addr × Obj)} {σ : St} {H : Hp} {s : Shared} (I : Inv X pins σ H s) : ∃ x1 ∈ (X.pn ++ pins).map (·.1), HotAt X.A x1 s.heap := by
  obtain ⟨p, ⟨hh, v1, e1, c1⟩, hp⟩ := c
  exact ⟨p.1, List.mem_map.mpr ⟨p, List.mem_append_left _ hp, rfl⟩, hh, p.2, v1, (I.pin p (List.mem_append_left _ hp)).1, e1, c1⟩
/-- a tuple goes to several targets -/
theorem pg_tupH {es : List Expr} {k : Nat} {pos : Pos} {t : TGs} {n : Nat} (c : HotC X) (h : PGs X es t) (hn : (assignEach es X.env).length = n := by rfl) (hst : (assignEach es X.env).findIdx? (·.1) = none := by rfl) :
    PG X (.Tuple es k pos) (gTup X.K n t) := by
  refine ⟨fun pins s σ H v u Q I r g => ?_⟩
  obtain ⟨a, xs, rfl, hq, hl, g⟩ := g
  cases r
  obtain ⟨its, rv, ht, _⟩ := I.tuple hq
  obtain ⟨x1, _, hot⟩ := hot_is c I
  rw [assign_Tuple]
  refine wpAny_bind (wpAny_standAt (unpack_tupleH hot ht (by simp [hn, ← hl, rv.length]) hst fun h' hx => ?_))
  exact h.run pins _ σ H xs _ Q (I.kept (t' := s.toks) fun b o e => hx b o (Nat.ne_of_lt (Heap.lt_size e)) e) (by simpa using rv) g
/-- a list is walked -/
theorem turn_listH {P : Program} {w : World} {K : PySem.W.Frag} {tg : Expr} (a it : Addr) : TurnH P w K tg (Itl K a) [it] it (fun i h => h.IsListIter it a i) where
  mem := by simp
  obj := (turn_list (P := P) (w := w) (K := K) (tg := tg) a it).obj
  keep := (turn_list (P := P) (w := w) (K := K) (tg := tg) a it).keep
  self := (turn_list (P := P) (w := w) (K := K) (tg := tg) a it).self
  item := by
    rintro X rfl rfl rfl _ i pins s σ H E I hf st ⟨xs, x, hq, hx⟩
    obtain ⟨its, rv, p, _⟩ := I.list hq
    obtain ⟨u, hu, ru⟩ := rv.get hx
    have f := hf it (by simp)
    refine wpAny_pyNext_list_item st p.isList (x := u) (by simpa using hu) fun h' st' sb => ?_
    obtain ⟨o, e, c, d⟩ := id st'
    exact ⟨u, rfl, go_of (s := { s with heap := h' }) e c d (by decide) ⟨x, H, I.turned (t' := s.toks) (fun b o hb e => (sb.2 b hb).trans e) f.1 f.2.1 f.2.2.2.1 f.2.2.2.2.1 f.2.2.2.2.2, ru, ⟨rfl, fun ys hy => by rw [I.list_inj hy hq]; exact hx⟩, st', fun b hb => (hf b hb).1⟩⟩
  done := by
    rintro X rfl rfl rfl hc i pins s σ H E I hf st ⟨xs, hq, hx⟩
    obtain ⟨its, rv, p, _⟩ := I.list hq
    have f := hf it (by simp)
    have hl := rv.length
    obtain ⟨x1, hx1, hot⟩ := hot_is hc I
    obtain ⟨q, hq1, rfl⟩ := List.mem_map.mp hx1
    exact list_endH hot (f.2.2.2.2.2 q hq1) st p.isList (by simp; omega) fun h' eb => ⟨rfl, I.turned (t' := s.toks) (fun b o hb e => eb b o hb e) f.1 f.2.1 f.2.2.2.1 f.2.2.2.2.1 f.2.2.2.2.2⟩
theorem pi_listH {tg l : Expr} {tl : TE} (hl : PE X l tl) : PIH X tg l (iList X.K tl) := by
  refine ⟨fun pins s σ H R I h => thn (hl.run pins s σ H _ I h) fun v s1 ⟨x, H1, I1, r1, q1⟩ => ?_⟩
  obtain ⟨a, rfl, ⟨xs, hq⟩, q⟩ := q1
  cases r1
  obtain ⟨its, rv, p, _⟩ := I1.list hq
  refine wpAny_pyIter_list p.isList ⟨s1.heap.objs.size, [s1.heap.objs.size], _, _, H1, rfl, I1.kept (t' := s1.toks) fun b o e => Heap.get?_push_of_some _ e, turn_listH a _, ⟨_, Heap.get?_push_size _ rfl, rfl, rfl⟩, fun b hb => ?_, q⟩
  obtain rfl : b = s1.heap.objs.size := by simpa using hb
  exact I1.fpOk (Nat.le_refl _) (I1.hok.fresh (Nat.le_refl _))
end
end L2W
set_option Elab.async false
set_option linter.all false
set_option maxRecDepth 100000
set_option maxHeartbeats 4000000
/-! A list comprehension within an except suite. -/
namespace L2W
open PySem PySem.Spec PyProof.Rows L2 L2H HotX
/-- a block's context that bears the def's pins -/
abbrev blkP (X : Cx) (s : Shared) (H : Hp) (scope : Scope) (ce : Env) (fp : List Addr) : Cx := { X.blk s H scope ce fp with pn := X.pn }
theorem hot_blk {X : Cx} (c : HotC X) {s : Shared} {H : Hp} {scope : Scope} {ce : Env} {fp : List Addr} : HotC (blkP X s H scope ce fp) := c
section
variable {X : Cx}
theorem to_blkP {s : Shared} {H : Hp} {scope : Scope} {ce : Env} {fp : List Addr} {σ : St} {H' : Hp} {s' : Shared} (I : Inv (X.blk s H scope ce fp) [] σ H' s') (h : ∀ p ∈ X.pn, s'.heap.get? p.1 = some p.2 ∧ H' p.1 = none ∧ p.1 ≠ ce.locals ∧ p.1 ∉ frs X.stack ∧ ∀ v, p.2.data ≠ .cell v) : Inv (blkP X s H scope ce fp) [] σ H' s' :=
  ⟨I.ok.toTry X.pn _, I.os, I.bare, I.base, I.loc, I.cell, I.free, I.freeC, fun p hp => h p (by simpa using hp), I.hok, I.len⟩
theorem lc_hot {pins : List (Addr × Obj)} {s : Shared} {σ : St} {H : Hp} {Q : VK} {elt tg iter : Expr} {ifs : List Expr} {scope : Scope} {own : List (Str × Nat)} {pos pos' : Pos} {wi : TI} {g : TG} {tt : TT} {te : TE}
    (hc : HotC X) (hN : X.N.Nodup) (I : Inv X pins σ H s) (hi : PIH X tg iter wi) (ok : BlkOk X.N X.env.scope scope own)
    (hg : ∀ s H C cl fp, PG (blkP X s H scope (compEnvC scope cl C X.env) fp) tg g) (ht : ∀ s H C cl fp, PTs (blkP X s H scope (compEnvC scope cl C X.env) fp) ifs tt) (he : ∀ s H C cl fp, PE (blkP X s H scope (compEnvC scope cl C X.env) fp) elt te)
    (hs : ∀ x, foldedSetIterable iter X.env x = pure x) (h : tLc wi g tt te (own.map (·.2)) σ H Q) :
    wpAny (model X.prog X.w) X.A (comprehension (.ListComp elt [⟨tg, iter, ifs, 0⟩] scope pos) scope X.env pos' (newList []) false (eval iter X.env) none) (EP X pins σ Q) X.xe s := by
  have cells : ∀ y ∈ scope.names, y.2 = .free → ∃ c, X.env.cells.lookup y.1 = some c := fun y hy e => (ok.free y hy e).elim (fun k => I.ok.has _ (.inl k)) fun k => I.ok.has _ (.inr k)
  refine wpAny_comprehension_free (use := none) rfl hs (closure_ok cells) ok.kind (fun y hy e => by rw [ok.uniq y hy, e]) (thn (hi.run pins s σ H _ I h) fun xv s1 hx => thn hx fun itv s2 h2 => ?_)
  obtain ⟨it, fp, tn, J, H2, rfl, I2, T, st2, f2, q⟩ := h2
  refine wpAny_newObj_type (newEnv_comp ?_) (by show 0 ≤ sizeLine; decide)
  generalize hD : s2.heap.objs.size = D
  obtain ⟨W, ⟨m0, w0⟩, turn⟩ := q D (I2.hok.fresh (Nat.le_of_eq hD))
  generalize e3 : ({ s2 with heap := s2.heap.push { cls := .type "list", data := .seq ([] : List Value).toArray } } : Shared) = s3
  have hp3 : s3.heap = s2.heap.push { cls := .type "list", data := .seq ([] : List Value).toArray } := by rw [← e3]
  have I3 : Inv X pins σ (upd H2 D (.lst [])) s3 := by
    rw [← e3]
    refine I2.laid (t' := s2.toks) (fun b o e => Heap.get?_push_of_some _ e) (Nat.le_of_eq hD) ⟨Nat.zero_le _, [], 0, .nil, ?_⟩
    rw [← hD]
    exact Heap.get?_push_size _ rfl
  have f3 : ∀ b ∈ fp, FpOk X pins (upd H2 D (.lst [])) b ∧ b < s3.heap.objs.size := fun b hb => by
    obtain ⟨o, e, _⟩ := T.obj _ _ st2 b hb
    have lt := Heap.lt_size e
    refine ⟨⟨?_, (f2 b hb).2⟩, by rw [hp3, Heap.size_push]; exact Nat.lt_succ_of_lt lt⟩
    rw [upd_ne (by rw [← hD]; exact Nat.ne_of_lt lt)]
    exact (f2 b hb).1
  have st3 : tn 0 s3.heap := T.keep _ _ _ st2 fun b _ o e => by rw [hp3]; exact Heap.get?_push_of_some _ e
  have I4 := block_start I3 ok hN f3
  have pinned : ∀ p ∈ X.pn, s3.heap.get? p.1 = some p.2 ∧ (upd H2 D (.lst [])) p.1 = none ∧ p.1 < s3.heap.objs.size ∧ p.1 ∉ frs X.stack ∧ ∀ v, p.2.data ≠ .cell v := fun p hp => by
    have z := I3.pin p (List.mem_append_left _ hp)
    exact ⟨z.1, z.2.1, Heap.lt_size z.1, fun w => (List.mem_cons.mp (I3.stkSub p.1 w)).elim z.2.2.1 z.2.2.2.1, z.2.2.2.2⟩
  have pg := hg s3 (upd H2 D (.lst [])) s3.heap.objs.size (cellsFrom (s3.heap.objs.size + 1) scope.names (cloFrom X.env.cells scope.names [])) fp
  have pt := ht s3 (upd H2 D (.lst [])) s3.heap.objs.size (cellsFrom (s3.heap.objs.size + 1) scope.names (cloFrom X.env.cells scope.names [])) fp
  have pe := he s3 (upd H2 D (.lst [])) s3.heap.objs.size (cellsFrom (s3.heap.objs.size + 1) scope.names (cloFrom X.env.cells scope.names [])) fp
  show codeAny _ _ (.compStart (.ListComp elt [⟨tg, iter, ifs, 0⟩] scope pos) 0 (.ref it) (.ref D) (compEnvC scope (cellsFrom (s3.heap.objs.size + 1) scope.names (cloFrom X.env.cells scope.names [])) s3.heap.objs.size X.env)) (compPost (model X.prog X.w) X.A X.xe none (EP X pins σ Q) (.ref D) s3.heap.objs.size) { s3 with heap := pushCells (s3.heap.push { cls := .type "dict", data := .dict #[] }) scope.names }
  generalize ece : compEnvC scope (cellsFrom (s3.heap.objs.size + 1) scope.names (cloFrom X.env.cells scope.names [])) s3.heap.objs.size X.env = ce at I4 pg pt pe ⊢
  have cL : ce.locals = s3.heap.objs.size := by subst ece; rfl
  generalize eH : upd H2 D (.lst []) = H3 at I3 I4 pg pt pe w0 f3 pinned
  have keep4 : ∀ b o, s3.heap.get? b = some o → (pushCells (s3.heap.push { cls := .type "dict", data := .dict #[] }) scope.names).get? b = some o := fun b o e => pushCells_keeps _ _ _ _ (Heap.get?_push_of_some _ e)
  have I5 : Inv (blkP X s3 H3 scope ce fp) [] (wipe σ (own.map (·.2))) H3 { s3 with heap := pushCells (s3.heap.push { cls := .type "dict", data := .dict #[] }) scope.names } :=
    to_blkP I4 fun p hp => ⟨keep4 _ _ (pinned p hp).1, (pinned p hp).2.1, by rw [cL]; exact Nat.ne_of_lt (pinned p hp).2.2.1, (pinned p hp).2.2.2⟩
  have st4 : tn 0 ({ s3 with heap := pushCells (s3.heap.push { cls := .type "dict", data := .dict #[] }) scope.names } : Shared).heap := T.keep _ _ _ st3 fun b _ o e => keep4 b o e
  clear I4 keep4
  generalize ({ s3 with heap := pushCells (s3.heap.push { cls := .type "dict", data := .dict #[] }) scope.names } : Shared) = s4 at I5 st4 ⊢
  have okfp : ∀ {σ' : St} {H' : Hp} {s' : Shared}, Inv (blkP X s3 H3 scope ce fp) [] σ' H' s' → (∀ b ∈ fp, H' b = none) → ∀ b ∈ fp, FpOk (blkP X s3 H3 scope ce fp) [] H' b := fun {σ' H' s'} I' hn b hb =>
    ⟨hn b hb, (I'.ok.exf b hb).1, I'.ok.exfs b hb, .inl hb, fun x c e => (I'.ok.exf b hb).2 x c e, fun p hp => (f3 b hb).1.2.2.2.2.2 p (List.mem_append_left _ (by simpa using hp))⟩
  have loop : codeAny (model X.prog X.w) X.A (.compLoop (.ListComp elt [⟨tg, iter, ifs, 0⟩] scope pos) 0 (.ref it) (.ref D) ce) (compPost (model X.prog X.w) X.A X.xe none (EP X pins σ Q) (.ref D) s3.heap.objs.size) s4 := by
    refine compLoop_any (fun n s' => ∃ i H', Inv (blkP X s3 H3 scope ce fp) [] (wipe σ (own.map (·.2))) H' s' ∧ tn i s'.heap ∧ (∀ b ∈ fp, H' b = none) ∧ W i n H') ?_ m0 ⟨0, H3, I5, st4, fun b hb => (f3 b hb).1.1, w0⟩
    rintro n s5 ⟨i, H5, J5, st5, n5, w5⟩
    rcases turn i n H5 w5 with ⟨stop, qq⟩ | ⟨go, Nx, hNx, step⟩
    · refine thnF (T.done (blkP X s3 H3 scope ce fp) rfl rfl rfl (hot_blk hc) i [] s5 _ H5 (fun _ _ => False) J5 (okfp J5 n5) st5 stop) fun r s6 ⟨hr, J6⟩ => ?_
      subst hr
      have I7 : Inv X pins σ H5 s6 := I3.call' (ch := fp) J6.os J6.base J6.hok J6.bare fun b hb => ⟨(f3 b hb).1.2.2.2.1, (f3 b hb).1.2.1, (f3 b hb).1.2.2.2.2.1, (f3 b hb).1.2.2.2.2.2⟩
      have nC : H5 s3.heap.objs.size = none := cL ▸ (show H5 ce.locals = none from J6.free)
      obtain ⟨m, hn, _⟩ := J6.loc
      have hn : s6.heap.Ns ce.locals m := hn
      rw [cL] at hn
      have f := I3.fpOk (Nat.le_refl _) nC
      exact ⟨m, hn, fun h'' sb => ⟨.ref D, H5, I7.turned (t' := s6.toks) (fun b o hb e => (sb.2 b hb).trans e) f.1 f.2.1 f.2.2.2.1 f.2.2.2.2.1 f.2.2.2.2.2, rfl, qq⟩⟩
    · refine thnF (T.item (blkP X s3 H3 scope ce fp) rfl rfl rfl (hot_blk hc) i [] s5 _ H5 (fun _ _ => False) J5 (okfp J5 n5) st5 go) fun r s6 ⟨u, hr, h6⟩ => ?_
      subst hr
      refine thnF h6 fun _ s7 ⟨x, H7, J7, r7, y7, st7, n7⟩ => ?_
      have J7' := J7.pinned (okfp J7 n7) (T.obj _ _ st7)
      refine thnF (pg.run _ s7 _ H7 x u _ J7' r7 (step x H7 y7)) fun _ s8 ⟨σ8, H8, J8, hw8, q8⟩ => ?_
      refine thnF (pt.run _ s8 σ8 H8 _ J8 q8) fun b s9 ⟨H9, J9, q9⟩ => ?_
      have again : ∀ {s' : Shared} {H' : Hp}, Inv (blkP X s3 H3 scope ce fp) ([] ++ pinsAt fp s7.heap) σ8 H' s' → Nx H' → ∃ m, m < n ∧ ∃ i H', Inv (blkP X s3 H3 scope ce fp) [] (wipe σ (own.map (·.2))) H' s' ∧ tn i s'.heap ∧ (∀ b ∈ fp, H' b = none) ∧ W i m H' := fun {s' H'} I' nx => by
        obtain ⟨m', hm, w'⟩ := hNx H' nx
        have pin' : ∀ b ∈ fp, ∀ o, s7.heap.get? b = some o → s'.heap.get? b = some o ∧ H' b = none := fun b hb o e =>
          let z := I'.pin (b, o) (List.mem_append_right _ (List.mem_append_right _ (mem_pinsAt hb e)))
          ⟨z.1, z.2.1⟩
        refine ⟨m', hm, i + 1, H', (I'.unpinned (pins := [])).weak (by rw [← hw8, wipe_length]) (fun j v e => ?_), T.keep _ _ _ st7 fun b hb o e => (pin' b hb o e).1, fun b hb => ?_, w'⟩
        · rw [← hw8] at e
          exact (wipe_some e).1
        · obtain ⟨o, e, _⟩ := T.obj _ _ st7 b hb
          exact (pin' b hb o e).2
      cases b with
      | false =>
        simp only [Bool.false_eq_true, if_false] at q9 ⊢
        exact again J9 q9
      | true =>
        simp only [if_true] at q9 ⊢
        refine thnF (pe.run _ s9 σ8 H9 _ J9 q9) fun z s10 ⟨yv, H10, J10, r10, acc, d10, z10, nx⟩ => ?_
        exact app_ok (X := blkP X s3 H3 scope ce fp) J10 d10 z10 r10 fun s11 J11 => again J11 nx
  exact codeAny_compStart_list loop (T.self X.A 0 _ _ _ st4 loop)
/-- [elt for tg in iter if ..] within an except suite -/
theorem pe_lcH {elt tg iter : Expr} {ifs : List Expr} {scope : Scope} {own : List (Str × Nat)} {pos : Pos} {wi : TI} {g : TG} {tt : TT} {te : TE} (hc : HotC X) (hN : X.N.Nodup) (hi : PIH X tg iter wi) (ok : BlkOk X.N X.env.scope scope own)
    (hg : ∀ s H C cl fp, PG (blkP X s H scope (compEnvC scope cl C X.env) fp) tg g) (ht : ∀ s H C cl fp, PTs (blkP X s H scope (compEnvC scope cl C X.env) fp) ifs tt) (he : ∀ s H C cl fp, PE (blkP X s H scope (compEnvC scope cl C X.env) fp) elt te)
    (hs : ∀ x, foldedSetIterable iter X.env x = pure x := by intro _; rfl) : PE X (.ListComp elt [⟨tg, iter, ifs, 0⟩] scope pos) (tLc wi g tt te (own.map (·.2))) := by
  refine ⟨fun pins s σ H Q I h => ?_⟩
  rw [eval_ListComp]
  exact lc_hot hc hN I hi ok hg ht he hs h
end
end L2W
set_option Elab.async false
set_option linter.all false
set_option maxRecDepth 100000
set_option maxHeartbeats 4000000
namespace St
open PySem L2 Dl
/-! ### the word that _law_word says -/
def rJoin (K : PySem.W.Frag) : V → List V → Hp → VK → Prop := fun x xs H Q => ∃ a p, ∃ ys : List Str, x = .str a ∧ xs = [.ref p] ∧ (SqL K H p (ys.map V.str) ∨ SqT K H p (ys.map V.str)) ∧ (ys.map (·.length)).sum + ys.length * a.length ≤ 16777216 ∧ Q (.str (Txt.join a ys)) H
/-- an own class of errors -/
structure ErrC (K : PySem.W.Frag) (mg : Str → Option Value) (T : Addr) (nm : Str) (D : Addr) : Prop where
  g : mg nm = some (.ref D)
  x : PySem.W.excIn K D [Value.type "ValueError", Value.type "Exception", Value.type "BaseException", Value.type "object"] "ValueError.__new__" = true
  k : PySem.W.keepIn K (.ref D) = true
  b : PySem.W.subIn K (.ref D) (.type "BaseException") = some true
  t : PySem.W.typeIn K (.ref D) = some (.type "type")
  e : ExcC K D
  s : PySem.W.subIn K (.ref D) (.ref T) = some true
/-- the four of them, told apart, and their base -/
structure Errs (K : PySem.W.Frag) (mg : Str → Option Value) (T Cr Cd Cp Cn : Addr) : Prop where
  r : ErrC K mg T "InvalidRow" Cr
  d : ErrC K mg T "InvalidRead" Cd
  p : ErrC K mg T "InvalidPurge" Cp
  n : ErrC K mg T "NothingToUndo" Cn
  g : mg "TierError" = some (.ref T)
  b : PySem.W.subIn K (.ref T) (.type "BaseException") = some true
  h : PySem.W.hasDictIn K T = true
  t : PySem.W.typeIn K (.ref T) = some (.type "type")
  rr : PySem.W.subIn K (.ref Cr) (.ref Cr) = some true
  dd : PySem.W.subIn K (.ref Cd) (.ref Cd) = some true
  pp : PySem.W.subIn K (.ref Cp) (.ref Cp) = some true
  nn : PySem.W.subIn K (.ref Cn) (.ref Cn) = some true
  rd : PySem.W.subIn K (.ref Cr) (.ref Cd) = some false
  rp : PySem.W.subIn K (.ref Cr) (.ref Cp) = some false
  rn : PySem.W.subIn K (.ref Cr) (.ref Cn) = some false
  dr : PySem.W.subIn K (.ref Cd) (.ref Cr) = some false
  dp : PySem.W.subIn K (.ref Cd) (.ref Cp) = some false
  dn : PySem.W.subIn K (.ref Cd) (.ref Cn) = some false
  pr : PySem.W.subIn K (.ref Cp) (.ref Cr) = some false
  pd : PySem.W.subIn K (.ref Cp) (.ref Cd) = some false
  pn : PySem.W.subIn K (.ref Cp) (.ref Cn) = some false
  nr : PySem.W.subIn K (.ref Cn) (.ref Cr) = some false
  nd : PySem.W.subIn K (.ref Cn) (.ref Cd) = some false
  np : PySem.W.subIn K (.ref Cn) (.ref Cp) = some false
theorem kit_sub {K : PySem.W.Frag} {D C : Addr} {b : Bool} (hC : PySem.W.hasDictIn K C = true) (tC : PySem.W.typeIn K (.ref C) = some (.type "type")) (cc : PySem.W.subIn K (.ref C) (.ref C) = some true) (s : PySem.W.subIn K (.ref D) (.ref C) = some b) : PySem.W.kitOne K (.ref D) (.ref C) = some b := by
  obtain ⟨cd, hc, _⟩ := PySem.W.any_some hC
  have e2 : ((PySem.W.clsIn K C).isSome && PySem.W.typeIn K (.ref C) == some (.type "type")) = true := by rw [hc, tC] <;> rfl
  unfold PySem.W.kitOne
  by_cases z : D = C
  · subst z
    rw [cc] at s
    rw [if_pos (beq_self_eq_true _)]
    exact s
  · rw [if_neg (by simpa using z)]
    show (if ((PySem.W.clsIn K C).isSome && PySem.W.typeIn K (.ref C) == some (.type "type")) = true then PySem.W.subIn K (.ref D) (.ref C) else none) = some b
    rw [if_pos e2]
    exact s
/-- class k of the four -/
def isCls (Cr Cd Cp Cn : Addr) (k : Nat) (D : Addr) : Prop := (k = 0 ∧ D = Cr) ∨ (k = 1 ∧ D = Cd) ∨ (k = 2 ∧ D = Cp) ∨ (k = 3 ∧ D = Cn)
def words4 (k : Nat) : List (Str × Bool) := [("row", decide (k = 0)), ("read", decide (k = 1)), ("purge", decide (k = 2)), ("nothing", decide (k = 3))]
def word (k : Nat) : Str := match k with
  | 0 => "row"
  | 1 => "read"
  | 2 => "purge"
  | _ => "nothing"
structure Kits (K : PySem.W.Frag) (Cr Cd Cp Cn D : Addr) (k : Nat) : Prop where
  r : PySem.W.kitOne K (.ref D) (.ref Cr) = some (decide (k = 0))
  d : PySem.W.kitOne K (.ref D) (.ref Cd) = some (decide (k = 1))
  p : PySem.W.kitOne K (.ref D) (.ref Cp) = some (decide (k = 2))
  n : PySem.W.kitOne K (.ref D) (.ref Cn) = some (decide (k = 3))
theorem Errs.kits {K : PySem.W.Frag} {mg : Str → Option Value} {T Cr Cd Cp Cn D : Addr} {k : Nat} (X : Errs K mg T Cr Cd Cp Cn) (h : isCls Cr Cd Cp Cn k D) : Kits K Cr Cd Cp Cn D k := by
  have r := fun {D b} => kit_sub (K := K) (D := D) (b := b) X.r.e.hd X.r.t X.rr
  have d := fun {D b} => kit_sub (K := K) (D := D) (b := b) X.d.e.hd X.d.t X.dd
  have p := fun {D b} => kit_sub (K := K) (D := D) (b := b) X.p.e.hd X.p.t X.pp
  have n := fun {D b} => kit_sub (K := K) (D := D) (b := b) X.n.e.hd X.n.t X.nn
  rcases h with ⟨rfl, rfl⟩ | ⟨rfl, rfl⟩ | ⟨rfl, rfl⟩ | ⟨rfl, rfl⟩
  · exact ⟨r X.rr, d X.rd, p X.rp, n X.rn⟩
  · exact ⟨r X.dr, d X.dd, p X.dp, n X.dn⟩
  · exact ⟨r X.pr, d X.pd, p X.pp, n X.pn⟩
  · exact ⟨r X.nr, d X.nd, p X.np, n X.nn⟩
theorem Errs.exc {K : PySem.W.Frag} {mg : Str → Option Value} {T Cr Cd Cp Cn D : Addr} {k : Nat} (X : Errs K mg T Cr Cd Cp Cn) (h : isCls Cr Cd Cp Cn k D) : ExcC K D := by
  rcases h with ⟨rfl, rfl⟩ | ⟨rfl, rfl⟩ | ⟨rfl, rfl⟩ | ⟨rfl, rfl⟩
  · exact X.r.e
  · exact X.d.e
  · exact X.p.e
  · exact X.n.e
theorem Errs.exm {K : PySem.W.Frag} {mg : Str → Option Value} {T Cr Cd Cp Cn D : Addr} {k : Nat} (X : Errs K mg T Cr Cd Cp Cn) (h : isCls Cr Cd Cp Cn k D) : PySem.W.exmOne K (.ref D) (.ref T) = some true := by
  refine PySem.W.exm_ref X.b X.h X.t ?_
  rcases h with ⟨rfl, rfl⟩ | ⟨rfl, rfl⟩ | ⟨rfl, rfl⟩ | ⟨rfl, rfl⟩
  · exact X.r.s
  · exact X.d.s
  · exact X.p.s
  · exact X.n.s
section
variable {K : PySem.W.Frag} {H : Hp} {Q : VK}
/-- the words that are good, in a new list -/
theorem lc_words {l : Addr} {xs : List V} {ps : List (Str × Bool)} {σ : L2.St} (hσ : ∃ a b c d, σ = [a, b, c, d]) (hs1 : σ[1]? = some (some (.ref l))) (hl : H l = some (.lst xs)) (hn : xs.length = ps.length) (hps : ps.length ≤ 100)
    (hx : ∀ (i : Nat) w b, ps[i]? = some (w, b) → ∃ u, xs[i]? = some (.ref u) ∧ H u = some (.tup [.str w, .bl b])) (q : ∀ D, H D = none → Q (.ref D) (upd H D (.lst (((ps.filter (·.2)).map (·.1)).map V.str)))) :
    tLc (iList K (tVar 1)) (gTup K 2 (gCons (gName 2) (gCons (gName 3) gNil))) (tB (tVar 3)) (tVar 2) [2, 3] σ H Q := by
  obtain ⟨sa, sb, sc, sd, rfl⟩ := hσ
  cases hs1
  refine ⟨_, rfl, l, rfl, ⟨xs, SqL.of hl⟩, fun D hD => ?_⟩
  have keep : ∀ {o : HO} b u, H b = some u → upd H D o b = some u := fun b u e => (Grow.new hD).keep b u e
  have go : ∀ i G, G = upd H D (.lst ((((ps.take i).filter (·.2)).map (·.1)).map V.str)) → i < ps.length → ∀ w b, ps[i]? = some (w, b) → ∀ (o : List Str), o = ((ps.take i).filter (·.2)).map (·.1) → (if b = true then upd G D (.lst (o.map V.str ++ [V.str w])) else G) = upd H D (.lst ((((ps.take (i + 1)).filter (·.2)).map (·.1)).map V.str)) := by
    rintro i G rfl hi w b hw o rfl
    rw [List.take_add_one, hw, List.filter_append, List.map_append, List.map_append]
    cases b
    · simp
    · simp [upd_upd]
  refine ⟨fun i m G => i + m = ps.length ∧ G = upd H D (.lst ((((ps.take i).filter (·.2)).map (·.1)).map V.str)), ⟨ps.length, by omega, by simp⟩, fun i m G ⟨hm, hG⟩ => ?_⟩
  have sql : SqL K G l xs := SqL.of (by rw [hG]; exact keep l _ hl)
  by_cases hi : i < ps.length
  · right
    obtain ⟨⟨w, b⟩, hw⟩ := get_at hi
    obtain ⟨u, hu1, hu2⟩ := hx i w b hw
    refine ⟨⟨xs, .ref u, sql, hu1⟩, fun G' => G' = upd H D (.lst ((((ps.take (i + 1)).filter (·.2)).map (·.1)).map V.str)), fun G' e => ⟨m - 1, by omega, by omega, e⟩, ?_⟩
    rintro x G' ⟨rfl, hy⟩
    have e := hy xs sql
    cases (hu1.symm.trans e)
    have gu : G' u = some (.tup [.str w, .bl b]) := by rw [hG]; exact keep u _ hu2
    refine ⟨u, _, rfl, SqT.of gu, rfl, _, _, rfl, _, _, rfl, rfl, rfl, _, rfl, b, rfl, ?_⟩
    have g := go i G' hG hi w b hw _ rfl
    cases b with
    | false => exact g
    | true => exact ⟨_, rfl, _, by rw [hG, upd_same], by have := List.length_filter_le (·.2) (ps.take i); have := List.length_take_le i ps; rw [List.length_map, List.length_map]; unfold sizeLine; omega, g⟩
  · left
    refine ⟨⟨xs, sql, by omega⟩, ?_⟩
    rw [hG, List.take_of_length_le (by omega)]
    exact q D hD
end
def t_word (K : PySem.W.Frag) (D a Cr Cd Cp Cn : Addr) : TS := (tSeq (tAsg (tLst (tCons (tTup (tCons (tC (.str "row")) (tCons (tCB (rIsE K D a) (tCons (tVar 0) (tCons (tC (.ref Cr)) tNil))) tNil))) (tCons (tTup (tCons (tC (.str "read")) (tCons (tCB (rIsE K D a) (tCons (tVar 0) (tCons (tC (.ref Cd)) tNil))) tNil))) tNil))) (gName 1))
  (tSeq (tAsg (tOp (rAddU K) (tVar 1) (tLst (tCons (tTup (tCons (tC (.str "purge")) (tCons (tCB (rIsE K D a) (tCons (tVar 0) (tCons (tC (.ref Cp)) tNil))) tNil))) (tCons (tTup (tCons (tC (.str "nothing")) (tCons (tCB (rIsE K D a) (tCons (tVar 0) (tCons (tC (.ref Cn)) tNil))) tNil))) tNil)))) (gName 1))
  (tRet (tM1 (rJoin K) (tC (.str "")) (tLc (iList K (tVar 1)) (gTup K 2 (gCons (gName 2) (gCons (gName 3) gNil))) (tB (tVar 3)) (tVar 2) [2, 3])))))
section
variable {K : PySem.W.Frag} {H : Hp} {Q : VK}
theorem raw_word {mg : Str → Option Value} {T Cr Cd Cp Cn D a : Addr} {k : Nat} (X : Errs K mg T Cr Cd Cp Cn) (h : isCls Cr Cd Cp Cn k D) (q : ∀ H', Grow H H' → Q (.str (word k)) H') :
    t_word K D a Cr Cd Cp Cn { nx := fun _ H' => Q .non H', rt := Q } (L2.start ["e", "some", "word", "good"] [.ref a]) H := by
  have Y := X.kits h
  have cv : ∀ {C : Addr} (u : Value), RelV (.ref C) u → u = .ref C := fun u r => r
  have hk : k < 4 := by rcases h with ⟨rfl, _⟩ | ⟨rfl, _⟩ | ⟨rfl, _⟩ | ⟨rfl, _⟩ <;> decide
  show t_word K D a Cr Cd Cp Cn _ [some (.ref a), none, none, none] H
  unfold t_word
  refine ⟨_, rfl, .ref Cr, .ref Cr, _, rfl, cv, Y.r, by show 2 ≤ sizeLine; decide, fun u1 hu1 => ⟨_, rfl, .ref Cd, .ref Cd, _, rfl, cv, Y.d, by show 2 ≤ sizeLine; decide, fun u2 hu2 => ⟨by show 2 ≤ sizeLine; decide, fun l1 hl1 => ?_⟩⟩⟩
  generalize e1 : upd H u1 (.tup [.str "row", .bl (decide (k = 0))]) = H1 at hu2 hl1
  generalize e2 : upd H1 u2 (.tup [.str "read", .bl (decide (k = 1))]) = H2 at hl1
  refine ⟨_, rfl, _, rfl, .ref Cp, .ref Cp, _, rfl, cv, Y.p, by show 2 ≤ sizeLine; decide, fun u3 hu3 => ⟨_, rfl, .ref Cn, .ref Cn, _, rfl, cv, Y.n, by show 2 ≤ sizeLine; decide, fun u4 hu4 => ⟨by show 2 ≤ sizeLine; decide, fun l2 hl2 => ?_⟩⟩⟩
  generalize e3 : upd H2 l1 (.lst [.ref u1, .ref u2]) = H3 at hu3 hu4 hl2
  generalize e4 : upd H3 u3 (.tup [.str "purge", .bl (decide (k = 2))]) = H4 at hu4 hl2
  generalize e5 : upd H4 u4 (.tup [.str "nothing", .bl (decide (k = 3))]) = H5 at hl2
  have g1 : Grow H H1 := e1 ▸ .new hu1
  have g2 : Grow H1 H2 := e2 ▸ .new hu2
  have g3 : Grow H2 H3 := e3 ▸ .new hl1
  have g4 : Grow H3 H4 := e4 ▸ .new hu3
  have g5 : Grow H4 H5 := e5 ▸ .new hu4
  have g6 := Grow.new (o := .lst [.ref u3, .ref u4]) hl2
  have gl1 : Grow H3 (upd H5 l2 (.lst [.ref u3, .ref u4])) := g4.trans (g5.trans g6)
  refine .inr (.inr (.inl ⟨l1, l2, [.ref u1, .ref u2], [.ref u3, .ref u4], rfl, rfl, gl1.keep l1 _ (by rw [← e3, upd_same]), upd_same, by show 4 ≤ sizeLine; decide, fun l3 hl3 => ?_⟩))
  have g7 := Grow.new (o := .lst [.ref u1, .ref u2, .ref u3, .ref u4]) hl3
  have gg : Grow H (upd (upd H5 l2 (.lst [.ref u3, .ref u4])) l3 (.lst [.ref u1, .ref u2, .ref u3, .ref u4])) := g1.trans (g2.trans (g3.trans (gl1.trans g7)))
  refine ⟨⟨_, rfl⟩, lc_words (l := l3) (xs := [.ref u1, .ref u2, .ref u3, .ref u4]) (ps := words4 k) ⟨_, _, _, _, rfl⟩ rfl upd_same rfl (by show 4 ≤ 100; decide) (fun i w b e => ?_) fun L hL => ?_⟩
  · match i, e with
    | 0, e => cases e; exact ⟨u1, rfl, (g2.trans (g3.trans (gl1.trans g7))).keep _ _ (by rw [← e1, upd_same])⟩
    | 1, e => cases e; exact ⟨u2, rfl, (g3.trans (gl1.trans g7)).keep _ _ (by rw [← e2, upd_same])⟩
    | 2, e => cases e; exact ⟨u3, rfl, (g5.trans (g6.trans g7)).keep _ _ (by rw [← e4, upd_same])⟩
    | 3, e => cases e; exact ⟨u4, rfl, (g6.trans g7).keep _ _ (by rw [← e5, upd_same])⟩
    | i + 4, e => cases e
  · have ew : ((words4 k).filter (·.2)).map (·.1) = [word k] := by
      match k, hk with
      | 0, _ => rfl
      | 1, _ => rfl
      | 2, _ => rfl
      | 3, _ => rfl
    rw [ew]
    refine ⟨"", L, [word k], rfl, rfl, .inl (SqL.of upd_same), ?_, ?_⟩
    · match k, hk with
      | 0, _ => decide +kernel
      | 1, _ => decide +kernel
      | 2, _ => decide +kernel
      | 3, _ => decide +kernel
    · rw [show Txt.join "" [word k] = word k from rfl]
      exact q _ (gg.trans (.new hL))
end
/-- what _law_word promises -/
def sp_word (Cr Cd Cp Cn : Addr) (p : L2W.Pn) : Sp := fun vs H Q _ => ∃ k D, vs = [.ref p.1] ∧ p.2.cls = .ref D ∧ p.2.dict = none ∧ (∃ us, p.2.data = .fields us) ∧ isCls Cr Cd Cp Cn k D ∧ ∀ H', Grow H H' → Q (.str (word k)) H'
/-- in a suite: the exception at a is told -/
def tSay (Cr Cd Cp Cn : Addr) (i : Nat) (a : Addr) (cls : Value) (d : Option Addr) : TE := fun σ H Q => σ[i]? = some (some (.ref a)) ∧ ∃ k D, cls = .ref D ∧ d = none ∧ isCls Cr Cd Cp Cn k D ∧ ∀ H', Grow H H' → Q (.str (word k)) H'
theorem pe_say {X : Cx} {a : Addr} {oe : Obj} {e : Expr} {i : Nat} {cls : Value} {d : Option Addr} {Cr Cd Cp Cn : Addr} (hz : L2N.Zn cls d oe) (hf : ∃ vs, oe.data = .fields vs) (h : PE X e (L2W.tCallW (sp_word Cr Cd Cp Cn) (a, oe) (tCons (tVar i) tNil))) : PE X e (tSay Cr Cd Cp Cn i a cls d) :=
  ⟨fun pins s σ H Q I ⟨h1, k, D, h2, h3, h4, q⟩ => h.run pins s σ H Q I ⟨_, h1, k, D, rfl, hz.1.trans h2, hz.2.1.trans h3, hf, h4, q⟩⟩
theorem take0N {X : Cx} : L2N.Takes X (fun _ _ _ _ => False) := fun _ _ ⟨_, _, _, _, _, _, _, _, _, _, _, _, _, _, _, _, z⟩ => z.elim
/-- a def that may raise, its errors' context None -/
theorem okN {P : Program} {w : World} {K : PySem.W.Frag} {mg : Str → Option Value} {base : Heap} {x qual : Str} {st : Stmt} {f : Addr} {fd : FuncData} {N ps : List Str} {k : Nat} {sp : Sp} (F : Fun K x qual st f fd) (S : FnScope N ps (defScope st)) (ln : ∀ vs H Q E, sp vs H Q E → vs.length = ps.length)
    (hb : ∀ (cdv : Value) (A : Around) (outer : List Env) (s : Shared) (H : Hp) (vs : List V) (Q : VK) (E : XK), Room k (A.deeper (PyProof.Rows.envOfC qual (defScope st) s.heap.objs.size f cdv)) → sp vs H Q E →
      ∃ t, PSs (cxOf (L2N.CX P w) P w K mg base N qual (defScope st) f cdv A outer s H E) (defBody st) t ∧ t { nx := fun _ H' => Q .non H', rt := Q } (L2.start N vs) H) : FnOk P w K mg base (L2N.CX P w) (k + 1) f fd ps sp := by
  obtain ⟨oc, od, kV, doc, pm, an, cdv, ct, osl, rfl, lk, hcd⟩ := F.ex
  exact fn_of lk hcd S ln fun A outer s H vs Q E hr h => hb cdv A outer s H vs Q E hr h
/-- .. a def that is handed the exception -/
theorem okW {P : Program} {w : World} {K : PySem.W.Frag} {mg : Str → Option Value} {base : Heap} {x qual : Str} {st : Stmt} {f : Addr} {fd : FuncData} {N ps : List Str} {k : Nat} {sp : L2W.Pn → Sp} (F : Fun K x qual st f fd) (S : FnScope N ps (defScope st)) (ln : ∀ p vs H Q E, sp p vs H Q E → vs.length = ps.length)
    (hb : ∀ (cdv : Value) (A : Around) (outer : List Env) (s : Shared) (H : Hp) (vs : List V) (Q : VK) (E : XK) (p : L2W.Pn), L2H.Hot1 A p → L2H.RoomH k (A.deeper (PyProof.Rows.envOfC qual (defScope st) s.heap.objs.size f cdv)) → sp p vs H Q E →
      ∃ t, PSs (L2H.cxH CX0 P w K mg base N qual (defScope st) f cdv A outer s H E p) (defBody st) t ∧ t { nx := fun _ H' => Q .non H', rt := Q } (L2.start N vs) H) : L2W.FnW P w K mg base (k + 1) f fd ps sp := by
  obtain ⟨oc, od, kV, doc, pm, an, cdv, ct, osl, rfl, lk, hcd⟩ := F.ex
  exact L2W.fn_ofW lk hcd S ln fun A outer s H vs Q E p ht hr h => hb cdv A outer s H vs Q E p ht hr h
/-- what a call does -/
def Out (r : Row) (cs : List Cal) (w : Int) (dt di : PyData) (cs' : List Cal) (d : PyData) : Prop :=
  (w < 2 ∧ goodB (lastT cs) 1000000000 ((r.ps.length : Int) - 1) dt di = false ∧ cs' = cs ∧ d = .str "read") ∨
  (w = 2 ∧ goodB (lastT cs) 1000000000 ((r.ls.length : Int) - 1) dt di = false ∧ cs' = cs ∧ d = .str "purge") ∨
  (w < 2 ∧ ∃ t, ∃ c pos : Nat, dt = .int t ∧ di = .int (c : Int) ∧ lastT cs ≤ t ∧ t ≤ 1000000000 ∧ r.ps[c]? = some pos ∧ cs' = cs ++ [(w, t, c)] ∧ d = .int (ask r.ls (stOf r cs).1 t pos).1.1) ∨
  (w = 2 ∧ ∃ t, ∃ c : Nat, ∃ e, dt = .int t ∧ di = .int (c : Int) ∧ lastT cs ≤ t ∧ t ≤ 1000000000 ∧ (stOf r cs).1[c]? = some e ∧ cs' = cs ++ [(w, t, c)] ∧ d = entD e) ∨
  (2 < w ∧ cs = [] ∧ cs' = cs ∧ d = .str "nothing") ∨ (2 < w ∧ cs ≠ [] ∧ cs' = cs.dropLast ∧ d = .none)
def sp_call (C : Addr) : Sp := fun vs H Q _ => ∃ (p q : Addr) (r : Row) (cs : List Cal) (w : Int) (vt vi : V) (dt di : PyData) (n m : Nat), vs = [.ref p, .int w, vt, vi] ∧ SF C H p q r cs ∧ RC r cs ∧ Rp AllA H vt dt ∧ Rp AllA H vi di ∧ Any n m dt ∧ Any n m di ∧
  ∀ H' cs' v d, Out r cs w dt di cs' d → SF C H' p q r cs' → FrS p q H H' → Rp AllA H' v d → Q v H'
def t_call_body (K : PySem.W.Frag) (C Cd Cp Cn : Addr) (E : L2.St → XK) : TS := (tSeq (tIfS (tTest (tOp (rI0 fun i j => .bl (decide (i < j))) (tVar 1) (tC (.int 2)))) (tRet (L2W.tMethE C "read" (sp_read C Cd) E (tVar 0) (tCons (tVar 2) (tCons (tVar 3) tNil)))) tNext)
  (tRet (tIf (tTest (tOp (rEqD K) (tVar 1) (tC (.int 2)))) (L2W.tMethE C "purge" (sp_purge C Cp) E (tVar 0) (tCons (tVar 2) (tCons (tVar 3) tNil))) (L2W.tMethE C "undo" (sp_undo C Cn) E (tVar 0) tNil))))
def t_call (K : PySem.W.Frag) (C T Cr Cd Cp Cn : Addr) : TS := fun D σ H => t_call_body K C Cd Cp Cn (WE (wAs K (.ref T) 4 (fun a cls d => tRet (tSay Cr Cd Cp Cn 4 a cls d)) (fun _ _ _ _ => False) D)) D σ H
section
variable {K : PySem.W.Frag} {H : Hp} {Q : VK} {mg : Str → Option Value} {C T Cr Cd Cp Cn : Addr} {E : XK}
theorem say_of {D : Ends} {D0 : Addr} {k i : Nat} {σ : L2.St} {H' : Hp} (X : Errs K mg T Cr Cd Cp Cn) (h : isCls Cr Cd Cp Cn k D0) (hi : i < σ.length) (q : ∀ H2, Grow H' H2 → D.rt (.str (word k)) H2) :
    WE (wAs K (.ref T) i (fun a cls d => tRet (tSay Cr Cd Cp Cn i a cls d)) (fun _ _ _ _ => False) D) σ (.ref D0) none H' :=
  ⟨true, X.exm h, fun _ a _ => ⟨by rw [List.getElem?_set_self hi], k, D0, rfl, rfl, h, q⟩, fun z => nomatch z⟩
theorem raw_call17 (T0 : Txt K mg C) (X : Errs K mg T Cr Cd Cp Cn) {vs : List V} (h : sp_call C vs H Q E) : t_call K C T Cr Cd Cp Cn { nx := fun _ H' => Q .non H', rt := Q } (L2.start ["station", "way", "time", "index", "e"] vs) H := by
  obtain ⟨p, q, r, cs, w, vt, vi, dt, di, n, m, rfl, S, G, ht, hi, At, Ai, k⟩ := h
  show t_call K C T Cr Cd Cp Cn _ [some (.ref p), some (.int w), some vt, some vi, none] H
  obtain ⟨dx, vr, st, xs, h1, h2, h3, h4, h5⟩ := id S.ex
  unfold t_call t_call_body
  refine ⟨_, rfl, w, 2, rfl, rfl, ?_⟩
  refine ⟨_, rfl, ?_⟩
  by_cases hw : w < 2
  · rw [decide_eq_true hw]
    dsimp only
    rw [if_pos rfl]
    refine ⟨_, rfl, p, dx, _, rfl, h1, fl_no (by decide +kernel) (by decide +kernel) (by decide +kernel), _, rfl, _, rfl, ?_⟩
    refine ⟨p, q, r, cs, w, vt, vi, dt, di, n, m, rfl, S, G, hw, ht, hi, At, Ai, fun hb H' S' F => ?_, fun t c pos e1 e2 t0 t1 hc H' S' F => ?_⟩
    · exact say_of X (.inr (.inl ⟨rfl, rfl⟩)) (by show 4 < 5; decide) fun H2 g => k H2 cs _ _ (.inl ⟨hw, hb, rfl, rfl⟩) (S'.grow g) (F.trans (FrS.grow g)) (.str _)
    · exact k H' _ _ _ (.inr (.inr (.inl ⟨hw, t, c, pos, e1, e2, t0, t1, hc, rfl, rfl⟩))) S' F (.int _)
  · rw [decide_eq_false hw]
    dsimp only
    rw [if_neg Bool.false_ne_true]
    unfold tNext
    dsimp only
    refine ⟨_, rfl, .int w, .int 2, .int _, .int _, rfl, rfl, _, rfl, ?_⟩
    rw [show PyData.eqv (.int w) (.int 2) = decide (w = 2) from rfl]
    by_cases hw2 : w = 2
    · rw [decide_eq_true hw2]
      dsimp only
      rw [if_pos rfl]
      refine ⟨_, rfl, p, dx, _, rfl, h1, fl_no (by decide +kernel) (by decide +kernel) (by decide +kernel), _, rfl, _, rfl, ?_⟩
      refine ⟨p, q, r, cs, vt, vi, dt, di, n, m, rfl, S, G, ht, hi, At, Ai, fun hb H' S' F => ?_, fun t c e e1 e2 t0 t1 hc v H' S' F rv => ?_⟩
      · exact say_of X (.inr (.inr (.inl ⟨rfl, rfl⟩))) (by show 4 < 5; decide) fun H2 g => k H2 cs _ _ (.inr (.inl ⟨hw2, hb, rfl, rfl⟩)) (S'.grow g) (F.trans (FrS.grow g)) (.str _)
      · subst hw2
        exact k H' _ _ _ (.inr (.inr (.inr (.inl ⟨rfl, t, c, e, e1, e2, t0, t1, hc, rfl, rfl⟩)))) S' F (rpTop _ _ rv (noL_ent e))
    · rw [decide_eq_false hw2]
      dsimp only
      rw [if_neg Bool.false_ne_true]
      have hw3 : 2 < w := by omega
      refine ⟨_, rfl, p, dx, _, rfl, h1, fl_no (by decide +kernel) (by decide +kernel) (by decide +kernel), ?_⟩
      refine ⟨p, q, r, cs, rfl, S, G, fun hb H' S' F => ?_, fun hc H' S' F => ?_⟩
      · exact say_of X (.inr (.inr (.inr ⟨rfl, rfl⟩))) (by show 4 < 5; decide) fun H2 g => k H2 cs _ _ (.inr (.inr (.inr (.inr (.inl ⟨hw3, hb, rfl, rfl⟩))))) (S'.grow g) (F.trans (FrS.grow g)) (.str _)
      · exact k H' _ _ _ (.inr (.inr (.inr (.inr (.inr ⟨hw3, hc, rfl, rfl⟩))))) S' F .non
end
def ct_made : CT := CT.mk 1 none fun ds Z => ∃ (d : PyData) (n m : Nat), ds = [d] ∧ Any n m d ∧ n ≤ 20 ∧ m ≤ 1000 ∧ ((¬ RowP d ∧ Z (.fz (.str "row")) .none) ∨ ∃ r, d = rowD r ∧ RowIn 8 1000 5 r ∧ Z (.fz (.str "made")) .none)
def t_made (K : PySem.W.Frag) (C T Cr Cd Cp Cn : Addr) : TS := tSeq (fun D σ H => (tDrop (L2W.tMakeE C (sp_init C Cr) (WE (wAs K (.ref T) 1 (fun a cls d => tRet (tSay Cr Cd Cp Cn 1 a cls d)) (fun _ _ _ _ => False) D)) (tCons (tVar 0) tNil))) D σ H) (tRet (tC (.str "made")))
section
variable {K : PySem.W.Frag} {H : Hp} {Q : VK} {mg : Str → Option Value} {C T Cr Cd Cp Cn : Addr} {E : XK}
theorem raw_made (X : Errs K mg T Cr Cd Cp Cn) {vs : List V} (h : spD ct_made vs H Q E) : t_made K C T Cr Cd Cp Cn { nx := fun _ H' => Q .non H', rt := Q } (L2.start ["item", "e"] vs) H := by
  obtain ⟨B, ds, p0, Z, hl, dom, ar, ⟨d, n, m, rfl, Ad, hn, hm, alt⟩, post⟩ := h
  obtain ⟨v, rfl⟩ : ∃ v, vs = [v] := by
    have := ar.len
    match vs, this with
    | [v], _ => exact ⟨v, rfl⟩
  have rv : Rp B H v d := ar.fz 0 v d (fun z => nomatch z) rfl rfl
  have done : ∀ (s : Str) H', Z (.fz (.str s)) .none → (∀ b o, H b = some o → H' b = some o) → Q (.str s) H' := fun s H' z k =>
    post _ _ _ _ z ⟨fun b o e _ => k b o e, fun b e => Grow.dom ⟨k⟩ b e, fun b xs e => k b _ e, .str s, fun z => (z rfl).elim⟩
  show t_made K C T Cr Cd Cp Cn _ [some v, none] H
  unfold t_made
  refine ⟨_, rfl, fun y dx hy hdx ndx => ?_⟩
  have g1 : Grow H (upd (upd H dx (.own y)) y (.ins C dx [])) := (Grow.new hdx).trans (.new (by rw [upd_ne ndx.symm]; exact hy))
  refine ⟨y, dx, v, d, B, rfl, upd_same, fun b hb => fun z => dom b hb (g1.dom b z), Rp.pass (g1.pass fun _ z => .inl z) _ _ rv, ?_⟩
  rcases alt with ⟨nr, z⟩ | ⟨r, rfl, R, z⟩
  · exact .inr ⟨n, m, Ad, hn, hm, nr, fun H' g2 => say_of X (.inl ⟨rfl, rfl⟩) (by show 1 < 2; decide) fun H2 g3 => done _ _ z fun b o e => g3.keep b o (g2.keep b o (g1.keep b o e))⟩
  · refine .inl ⟨r, rfl, R, fun H' q hq S F => ⟨rfl, ?_⟩⟩
    exact done _ _ z fun b o e => F.keep b o (g1.keep b o e) (ne_of_none e hy) (ne_of_none (g1.keep b o e) hq)
end
end St
set_option Elab.async false
set_option linter.all false
set_option maxRecDepth 100000
set_option maxHeartbeats 4000000
namespace St
open PySem L2 Dl
/-! the data reading unfolded as far as it goes -/
local macro_rules | `(tactic| walk_at "d") => `(tactic| simp (config := { decide := false }) only [dSeq, dAsg, dAsgO, dAppS, dApp, dSetS, dSet, dAug, dRet, dRetN, dDrop, dDPut, dDGet2, dDNewK, dDNewT, dIfS, dFor, dNext, dBreak, dCont, dOp1, dOp2, dTup, dLst, dCons, dNil, dC, dCB, dVar, dVarR, dIfE, dTest, dAnd, dOr, dNot, dAndV, dOrV, dNotV, dChain, dCall, dCallL, dCallIO, dIsi, dSl, dPart, dNoPart, dSeqI, dRng1, dRng2, dDGet2, dDNewK, dDNewT, dRng3, dEnum, dZip, stoAll, itemsD, Option.some.injEq, exists_eq_left', dYes, dIx0, dRetT, dgName, dgTup, dgCons, dgNil, oFdiv, oMod, oPow, oLt, oLe, oGt, oGe, cmpD,
  wipeD, restD, Option.getD_some, Option.getD_none, Int.zero_add, Int.toNat_natCast, isi_lt_lst, isi_lt_tup, isi_lt_non, isi_lt_bl, isi_lt_int, isi_lt_str, isi_int_non, isi_int_bl, isi_int_int, isi_int_str, isi_int_lst, isi_int_tup, isi_bl_non, isi_bl_bl, isi_bl_int, isi_bl_str, isi_bl_lst, isi_bl_tup, isi_tup_non, isi_tup_bl, isi_tup_int, isi_tup_str, isi_tup_lst, isi_tup_tup, oEq_int, oNe_int, oEq_bl, oNe_bl, eq_self, decide_true, ixN_31, ixN_32, atI_0, atI_1, atI_2, atI_3, oIx_tup, oIx_lst, oLen_tup, oLen_lst, oListOf_tup, oListOf_lst, oTupOf_tup, oTupOf_lst, oAdd_int, oAdd_tup, oAdd_lst, oMul_int, oMul_tup, oMul_lst, dI0_int, dI_int, oIs_non, oIs_bl, isN_non, isN_int, isN_tup, isN_lst, isN_bl, oNeg_int, oMin2_int, oMax2_int, oInt_int, oInt_bl, oSl_tup, oSl_lst, ends_fz, ends_nw, ends_np, ends_nx, ends_br, ends_fzi, ends_nwi, ends_bri, retD_br,
  List.getElem?_cons_zero, List.getElem?_cons_succ, List.set_cons_zero, List.set_cons_succ, List.length_cons, List.length_nil, List.length_map, List.map_cons, List.map_nil, List.length_append, dat_fz, dat_nw, dat_br, dat_np, sto_fz, sto_nw, sto_np, sto_br, stoAll, datAt, Sl.dat, Sl.own, Sl.with, ioSlot, stoBut, if_true, true_and, and_true, reduceCtorEq, Option.some.injEq, PyData.int.injEq, PyData.tuple.injEq, PyData.list.injEq, PyData.bool.injEq,  exists_eq_left', exists_eq_left, Bool.true_eq_false, Bool.false_eq_true, if_false, Bool.true_xor, Bool.false_xor, Bool.not_true, Bool.not_false,
  Nat.reduceAdd, Nat.reduceLeDiff, Nat.reduceEqDiff, Nat.reduceLT, Int.reduceNeg, Int.reduceLE, Int.reduceLT, Nat.zero_le, ne_eq, not_false_eq_true, List.cons_ne_nil, not_true_eq_false])
local macro_rules | `(tactic| walk_at "e") => `(tactic| simp (config := { decide := false }) only [dOp1, dOp2, dTup, dLst, dCons, dNil, dC, dCB, dVar, dVarR, dIfE, dTest, dAnd, dOr, dNot, dAndV, dOrV, dNotV, dChain, dCall, dCallL, dCallIO, dIsi, dSl, dPart, dNoPart, dSeqI, dRng1, dRng2, dDGet2, dDNewK, dDNewT, dRng3, dEnum, dZip, stoAll, itemsD, Option.some.injEq, exists_eq_left', dYes, dIx0, oFdiv, oMod, oPow, oLt, oLe, oGt, oGe, cmpD,
  wipeD, restD, Option.getD_some, Option.getD_none, Int.zero_add, Int.toNat_natCast, isi_lt_lst, isi_lt_tup, isi_lt_non, isi_lt_bl, isi_lt_int, isi_lt_str, isi_int_non, isi_int_bl, isi_int_int, isi_int_str, isi_int_lst, isi_int_tup, isi_bl_non, isi_bl_bl, isi_bl_int, isi_bl_str, isi_bl_lst, isi_bl_tup, isi_tup_non, isi_tup_bl, isi_tup_int, isi_tup_str, isi_tup_lst, isi_tup_tup, oEq_int, oNe_int, oEq_bl, oNe_bl, eq_self, decide_true, ixN_31, ixN_32, atI_0, atI_1, atI_2, atI_3, oIx_tup, oIx_lst, oLen_tup, oLen_lst, oListOf_tup, oListOf_lst, oTupOf_tup, oTupOf_lst, oAdd_int, oAdd_tup, oAdd_lst, oMul_int, oMul_tup, oMul_lst, dI0_int, dI_int, oIs_non, oIs_bl, isN_non, isN_int, isN_tup, isN_lst, isN_bl, oNeg_int, oMin2_int, oMax2_int, oInt_int, oInt_bl, oSl_tup, oSl_lst, ends_fz, ends_nw, ends_np, ends_nx, ends_br, ends_fzi, ends_nwi, ends_bri, retD_br,
  List.getElem?_cons_zero, List.getElem?_cons_succ, List.set_cons_zero, List.set_cons_succ, List.length_cons, List.length_nil, List.length_map, List.map_cons, List.map_nil, List.length_append, dat_fz, dat_nw, dat_br, dat_np, sto_fz, sto_nw, sto_np, sto_br, stoAll, datAt, Sl.dat, Sl.own, Sl.with, ioSlot, stoBut, if_true, true_and, and_true, reduceCtorEq, Option.some.injEq, PyData.int.injEq, PyData.tuple.injEq, PyData.list.injEq, PyData.bool.injEq,  exists_eq_left', exists_eq_left, Bool.true_eq_false, Bool.false_eq_true, if_false, Bool.true_xor, Bool.false_xor, Bool.not_true, Bool.not_false,
  Nat.reduceAdd, Nat.reduceLeDiff, Nat.reduceEqDiff, Nat.reduceLT, Int.reduceNeg, Int.reduceLE, Int.reduceLT, Nat.zero_le, ne_eq, not_false_eq_true, List.cons_ne_nil, not_true_eq_false])
/-! ### statements that leave slot j alone, over data -/
def SimF (j : Nat) (ts : TS) (ds : DS) : Prop := ∀ (H0 : Fx) (B : Av) (σ : L2.St) (H : Hp) (ρ : DEnv) (D : Ends) (N : DEnv → Prop) (x : Option (Option V)), Rel H0 B σ H ρ → σ[j]? = x → ds { nx := N, rt := fun _ _ => False } ρ →
  (∀ σ' H' ρ', Rel H0 B σ' H' ρ' → Stp σ ρ H σ' ρ' H' → σ'[j]? = x → N ρ' → D.nx σ' H') → ts D σ H
def SimH (j : Nat) (tg : TG) (dg : DG) : Prop := ∀ (H0 : Fx) (B : Av) (σ : L2.St) (H : Hp) (ρ : DEnv) (v : V) (d : PyData) (Q : L2.St → Hp → Prop) (QD : DEnv → Prop) (x : Option (Option V)), Rel H0 B σ H ρ → σ[j]? = x → Rp (Al B σ ρ) H v d → dg d ρ QD →
  (∀ σ' H' ρ', Rel H0 B σ' H' ρ' → Stp σ ρ H σ' ρ' H' → σ'[j]? = x → QD ρ' → Q σ' H') → tg v σ H Q
def SimHs (j : Nat) (tg : TGs) (dg : DGs) : Prop := ∀ (H0 : Fx) (B : Av) (σ : L2.St) (H : Hp) (ρ : DEnv) (vs : List V) (ds : List PyData) (Q : L2.St → Hp → Prop) (QD : DEnv → Prop) (x : Option (Option V)), Rel H0 B σ H ρ → σ[j]? = x → RpAll (Al B σ ρ) H vs ds → dg ds ρ QD →
  (∀ σ' H' ρ', Rel H0 B σ' H' ρ' → Stp σ ρ H σ' ρ' H' → σ'[j]? = x → QD ρ' → Q σ' H') → tg vs σ H Q
theorem simH_name {j i : Nat} (n : i ≠ j) : SimH j (gName i) (dgName i) := fun H0 B σ H ρ v d Q QD x R hx h q k => by
  obtain ⟨R', S'⟩ := R.setFz (i := i) h
  exact k _ H _ R' S' (by rw [List.getElem?_set_ne n]; exact hx) q
theorem simHs_nil {j : Nat} : SimHs j gNil dgNil := fun H0 B σ H ρ vs ds Q QD x R hx h q k => by
  obtain ⟨e, q⟩ := q
  subst e
  cases h
  exact ⟨rfl, k σ H ρ R .refl hx q⟩
theorem simHs_cons {j : Nat} {tg : TG} {tgs : TGs} {g : DG} {gs : DGs} (h1 : SimH j tg g) (h2 : SimHs j tgs gs) : SimHs j (gCons tg tgs) (dgCons g gs) := fun H0 B σ H ρ vs ds Q QD x R hx h q k => by
  unfold dgCons at q
  split at q
  · cases h with
    | cons r rr =>
      exact ⟨_, _, rfl, h1 H0 B σ H ρ _ _ _ _ x R hx r q fun σ1 H1 ρ1 R1 S1 x1 q1 => h2 H0 B σ1 H1 ρ1 _ _ _ _ x R1 x1 (RpAll.pass (S1.pass fun _ z => .inl z) _ _ rr) q1 fun σ2 H2 ρ2 R2 S2 x2 q2 => k σ2 H2 ρ2 R2 (S1.trans S2) x2 q2⟩
  · exact q.elim
theorem simH_tup {j : Nat} {K : PySem.W.Frag} {n : Nat} {tgs : TGs} {gs : DGs} (h2 : SimHs j tgs gs) : SimH j (gTup K n tgs) (dgTup n gs) := fun H0 B σ H ρ v d Q QD x R hx h q k => by
  unfold dgTup at q
  split at q
  · cases h with
    | tup e r => exact ⟨_, _, rfl, SqT.of e, r.len.trans q.1, h2 H0 B σ H ρ _ _ _ _ x R hx r q.2 k⟩
  · exact q.elim
section
variable {j : Nat} {t u : TS} {a b : DS}
theorem simF_next : SimF j tNext dNext := fun H0 B σ H ρ D N x R hx q k => k σ H ρ R .refl hx q
theorem simF_seq (ha : SimF j t a) (hb : SimF j u b) : SimF j (tSeq t u) (dSeq a b) := fun H0 B σ H ρ D N x R hx q k =>
  ha H0 B σ H ρ _ _ x R hx q fun σ1 H1 ρ1 R1 S1 x1 q1 => hb H0 B σ1 H1 ρ1 D N x R1 x1 q1 fun σ2 H2 ρ2 R2 S2 x2 q2 => k σ2 H2 ρ2 R2 (S1.trans S2) x2 q2
theorem simF_ret {te : TE} {de : DE} (h : SimE te de) : SimF j (tRet te) (dRet de) := fun H0 B σ H ρ D N x R hx q k => h H0 B σ H ρ _ _ R q fun _ _ _ _ _ _ _ _ z => z.elim
theorem simF_if {tt : TT} {dt : DT} (h : SimT tt dt) (ha : SimF j t a) (hb : SimF j u b) : SimF j (tIfS tt t u) (dIfS dt a b) := fun H0 B σ H ρ D N x R hx q k =>
  h H0 B σ H ρ _ _ R q fun c ρ1 H1 R1 S1 K1 q1 => by
    cases c with
    | true => exact ha H0 B σ H1 ρ1 D N x R1 hx q1 fun σ2 H2 ρ2 R2 S2 x2 q2 => k σ2 H2 ρ2 R2 (S1.trans S2) x2 q2
    | false => exact hb H0 B σ H1 ρ1 D N x R1 hx q1 fun σ2 H2 ρ2 R2 S2 x2 q2 => k σ2 H2 ρ2 R2 (S1.trans S2) x2 q2
theorem simF_asg {te : TE} {tg : TG} {de : DE} {g : DG} (h : SimE te de) (hg : SimH j tg g) : SimF j (tAsg te tg) (dAsg de g) := fun H0 B σ H ρ D N x R hx q k =>
  h H0 B σ H ρ _ _ R q fun r ρ1 v H1 R1 S1 K1 o1 q1 => by
    obtain ⟨d, e, q1⟩ := q1
    exact hg H0 B σ H1 ρ1 v d _ _ x R1 hx (o1.cv.sto e) q1 fun σ2 H2 ρ2 R2 S2 x2 q2 => k σ2 H2 ρ2 R2 (S1.trans S2) x2 q2
theorem simF_par {i l : Nat} {t1 t2 : TE} {d : DS} (h : SimF j (tSeq (tAsg t1 (gName i)) (tAsg t2 (gName l))) d) (hi : Ind t2 i) : SimF j (tPar i l (tCons t1 (tCons t2 tNil))) d := fun H0 B σ H ρ D N x R hx q k => by
  have z := h H0 B σ H ρ D N x R hx q k
  have z : t1 σ H fun x H1 => t2 (σ.set i (some x)) H1 fun y H2 => D.nx ((σ.set i (some x)).set l (some y)) H2 := z
  show t1 σ H fun x H1 => t2 σ H1 fun y H2 => ∃ v w, [x, y] = [v, w] ∧ D.nx ((σ.set i (some v)).set l (some w)) H2
  have e : (fun x H1 => t2 (σ.set i (some x)) H1 fun y H2 => D.nx ((σ.set i (some x)).set l (some y)) H2) = fun x H1 => t2 σ H1 fun y H2 => ∃ v w, [x, y] = [v, w] ∧ D.nx ((σ.set i (some v)).set l (some w)) H2 := by
    funext x H1
    rw [hi]
    congr 1
    funext y H2
    refine propext ⟨fun z => ⟨x, y, rfl, z⟩, ?_⟩
    rintro ⟨v, w, e, z⟩
    cases e
    exact z
  rw [← e]
  exact z
end
theorem tSeq_assoc {a b c : TS} : tSeq (tSeq a b) c = tSeq a (tSeq b c) := rfl
/-! ### the law's state -/
def HN : Fx := ⟨fun _ => none, fun _ => .non⟩
def BP (p q : Addr) : Av := fun b => b = p ∨ b = q
def noIo : DEnv → Bool
  | [] => true
  | some (.io _) :: _ => false
  | _ :: r => noIo r
theorem noIo_at : ∀ {ρ : DEnv} {i : Nat} {d : PyData}, noIo ρ = true → ρ[i]? ≠ some (some (.io d))
  | [], i, d, _, e => by simp at e
  | some (.io _) :: _, _, _, h, _ => by simp [noIo] at h
  | none :: r, 0, d, h, e => by simp at e
  | some (.fz _) :: r, 0, d, h, e => by simp at e
  | some (.ow _) :: r, 0, d, h, e => by simp at e
  | none :: r, i + 1, d, h, e => noIo_at (ρ := r) (by simpa [noIo] using h) (by simpa using e)
  | some (.fz _) :: r, i + 1, d, h, e => noIo_at (ρ := r) (by simpa [noIo] using h) (by simpa using e)
  | some (.ow _) :: r, i + 1, d, h, e => noIo_at (ρ := r) (by simpa [noIo] using h) (by simpa using e)
/-- a station's addresses are nobody's -/
theorem rel_notOw {H0 : Fx} {B : Av} {σ : L2.St} {H : Hp} {ρ : DEnv} {b : Addr} (R : Rel H0 B σ H ρ) (n : noIo ρ = true) (hb : B b) : ¬ Ow σ ρ b := by
  rintro ⟨i, s, h1, h2, h3⟩
  cases s with
  | fz d => cases h2
  | io d => exact noIo_at n h1
  | ow d => exact (R.mine i d b h1 h3).2 hb
/-- slots may be forgotten -/
def SubE : DEnv → DEnv → Prop
  | [], [] => True
  | a :: r, b :: s => (a = b ∨ (a = none ∧ ∀ x, b = some x → x.own = false)) ∧ SubE r s
  | _, _ => False
theorem SubE.len : ∀ {r s : DEnv}, SubE r s → r.length = s.length
  | [], [], _ => rfl
  | a :: r, b :: s, h => by simp [SubE.len h.2]
  | [], _ :: _, h => h.elim
  | _ :: _, [], h => h.elim
theorem SubE.sub : ∀ {r s : DEnv} {i : Nat} {x : Sl}, SubE r s → r[i]? = some (some x) → s[i]? = some (some x)
  | a :: r, b :: s, 0, x, h, e => by
    rcases h.1 with z | ⟨z, _⟩
    · rw [← z]; exact e
    · rw [z] at e; cases e
  | a :: r, b :: s, i + 1, x, h, e => SubE.sub (r := r) (s := s) h.2 e
  | [], [], i, x, _, e => e
  | [], _ :: _, _, _, h, _ => h.elim
  | _ :: _, [], _, _, h, _ => h.elim
theorem SubE.own : ∀ {r s : DEnv} {i : Nat} {x : Sl}, SubE r s → s[i]? = some (some x) → x.own = true → r[i]? = some (some x)
  | a :: r, b :: s, 0, x, h, e, o => by
    rcases h.1 with z | ⟨z, w⟩
    · rw [z]; exact e
    · have e : b = some x := by simpa using e
      rw [w x e] at o; cases o
  | a :: r, b :: s, i + 1, x, h, e, o => SubE.own (r := r) (s := s) h.2 e o
  | [], [], i, x, _, e, _ => e
  | [], _ :: _, _, _, h, _, _ => h.elim
  | _ :: _, [], _, _, h, _, _ => h.elim
theorem Rel.forget {H0 : Fx} {B : Av} {σ : L2.St} {H : Hp} {ρ ρ' : DEnv} (R : Rel H0 B σ H ρ) (h : SubE ρ' ρ) : Rel H0 B σ H ρ' := by
  have eo : ∀ q, Ow σ ρ' q → Ow σ ρ q := fun q ⟨i, s, a, b, c⟩ => ⟨i, s, h.sub a, b, c⟩
  have ps : Pass (Al B σ ρ) (Al B σ ρ') H H := ⟨fun a xs n e => ⟨fun q => n (q.elim .inl fun z => .inr (eo a z)), e⟩, fun _ _ e => e⟩
  exact ⟨R.len.trans h.len.symm, fun i d e => let ⟨v, h1, h2⟩ := R.fz i d (h.sub e); ⟨v, h1, Rp.pass ps _ _ h2⟩, fun i s e o => let ⟨p, h1, h2⟩ := R.own i s (h.sub e) o; ⟨p, h1, h2.pass ps rfl⟩,
    fun i d p e => R.mine i d p (h.sub e), fun i j s t p a b c d => R.ne i j s t p (h.sub a) b (h.sub c) d, R.dom, fun i d e => R.ioa i d (h.sub e), R.bdom⟩
/-- the station's two objects may change -/
theorem Rel.frS {p q : Addr} {σ : L2.St} {H H' : Hp} {ρ : DEnv} (R : Rel HN (BP p q) σ H ρ) (n : noIo ρ = true) (F : FrS p q H H') (hp : H' p ≠ none) (hq : H' q ≠ none) : Rel HN (BP p q) σ H' ρ := by
  have ps : Pass (Al (BP p q) σ ρ) (Al (BP p q) σ ρ) H H' := ⟨fun a xs m e => ⟨m, F.keep a _ e (fun z => m (.inl (.inl z))) fun z => m (.inl (.inr z))⟩, F.tup⟩
  refine ⟨R.len, fun i d e => let ⟨v, h1, h2⟩ := R.fz i d e; ⟨v, h1, Rp.pass ps _ _ h2⟩, fun i s e o => ?_, R.mine, R.ne, fun _ _ => rfl, R.ioa, fun b hb => ?_⟩
  · obtain ⟨a, h1, h2⟩ := R.own i s e o
    obtain ⟨ob, eo, _⟩ := h2.some
    have ow : Ow σ ρ a := ⟨i, s, e, o, h1⟩
    exact ⟨a, h1, h2.pass ps ((F.keep a _ eo (fun z => rel_notOw R n (.inl rfl : BP p q p) (z ▸ ow)) fun z => rel_notOw R n (.inr rfl : BP p q q) (z ▸ ow)).trans eo.symm)⟩
  · rcases hb with rfl | rfl
    · exact hp
    · exact hq
structure LS (C : Addr) (p q : Addr) (r : Row) (cs : List Cal) (σ : L2.St) (H : Hp) (ρ : DEnv) : Prop where
  rel : Rel HN (BP p q) σ H ρ
  st : σ[3]? = some (some (.ref p))
  sf : SF C H p q r cs
  rc : RC r cs
  nio : noIo ρ = true
section
variable {C : Addr} {p q : Addr} {r : Row} {cs : List Cal} {σ : L2.St} {H : Hp} {ρ : DEnv} {K : PySem.W.Frag}
theorem LS.kept (L : LS C p q r cs σ H ρ) {σ' : L2.St} {ρ' : DEnv} {H' : Hp} (R : Rel HN (BP p q) σ' H' ρ') (S : Stp σ ρ H σ' ρ' H') (x : σ'[3]? = some (some (.ref p))) (n : noIo ρ' = true) : LS C p q r cs σ' H' ρ' := by
  obtain ⟨dx, vr, st, xs, h1, h2, h3, h4, h5⟩ := L.sf.ex
  exact ⟨R, x, L.sf.keep S.tup ((S.keep p _ h1 (rel_notOw L.rel L.nio (.inl rfl))).trans h1.symm) ((S.keep q _ h4 (rel_notOw L.rel L.nio (.inr rfl))).trans h4.symm), L.rc, n⟩
theorem LS.grow (L : LS C p q r cs σ H ρ) {H' : Hp} (g : Grow H H') : LS C p q r cs σ H' ρ := ⟨L.rel.grow g, L.st, L.sf.grow g, L.rc, L.nio⟩
/-- statements over data -/
theorem LS.pure {t : TS} {d : DS} (hs : SimF 3 t d) (L : LS C p q r cs σ H ρ) {D : Ends} {N : DEnv → Prop} (w : d { nx := fun ρ' => noIo ρ' = true ∧ N ρ', rt := fun _ _ => False } ρ) (k : ∀ σ' H' ρ', LS C p q r cs σ' H' ρ' → N ρ' → D.nx σ' H') : t D σ H :=
  hs HN (BP p q) σ H ρ D _ _ L.rel L.st w fun σ' H' ρ' R S x ⟨n, w⟩ => k σ' H' ρ' (L.kept R S x n) w
end
/- ['script', 'tape', 'row', 'station', 'calls', 'turn', 'held', 'log', 'now', 'way', 'bound', 'time', 'index', 'told', 'due', 'fresh', 'bad', 'item'] own {'tape'} cells set() -/
def t_p0 (K : PySem.W.Frag) : TS := (tSeq (tAsg (tCall (spD ct_now) [] E0 (tCons (tVar 2) (tCons (tVar 4) tNil))) (gTup K 2 (gCons (gName 6) (gCons (gName 7) gNil))))
  (tSeq (tAsg (tIf (tTest (tOp (rNeD K) (tVar 4) (tLst tNil))) (tOp (rIx K) (tOp (rIx K) (tVar 4) (tUn (rU fun i => .int (-i)) (tC (.int 1)))) (tC (.int 1))) (tC (.int 0))) (gName 8))
  (tSeq (tPar 9 10 (tCons (tCall (spD ct_draw) [] E0 (tCons (tVar 1) (tCons (tC (.int 4)) tNil))) (tCons (tCB (rLenU K) (tCons (tOp (rIx K) (tVar 2) (tC (.int 1))) tNil)) tNil)))
  (tSeq (tIfS (tTest (tOp (rEqD K) (tVar 9) (tC (.int 2)))) (tAsg (tCB (rLenU K) (tCons (tOp (rIx K) (tVar 2) (tC (.int 0))) tNil)) (gName 10)) tNext)
  (tSeq (tAsg (tOp (rIx K) (tLst (tCons (tVar 8) (tCons (tOp (rAddU K) (tVar 8) (tC (.int 1))) (tCons (tOp (rAddU K) (tVar 8) (tCall (spD ct_draw) [] E0 (tCons (tVar 1) (tCons (tC (.int 9)) tNil)))) (tCons (tOp (rI0 fun i j => .int (i - j)) (tVar 8) (tC (.int 1))) (tCons (tC .non) (tCons (tOp (rAddU K) (tOp (rI CPow fun i j => .int (i ^ j.toNat)) (tC (.int 10)) (tC (.int 9))) (tC (.int 1))) (tCons (tC (.bl true)) tNil)))))))) (tCall (spD ct_draw) [] E0 (tCons (tVar 1) (tCons (tC (.int 7)) tNil)))) (gName 11))
  (tAsg (tOp (rIx K) (tLst (tCons (tC (.int 0)) (tCons (tCall (spD ct_draw) [] E0 (tCons (tVar 1) (tCons (tOp (rAddU K) (tVar 10) (tC (.int 1))) tNil))) (tCons (tVar 10) (tCons (tUn (rU fun i => .int (-i)) (tC (.int 1))) (tCons (tC (.bl true)) (tCons (tC (.str "0")) tNil))))))) (tCB rMax2 (tCons (tC (.int 0)) (tCons (tOp (rI0 fun i j => .int (i - j)) (tCall (spD ct_draw) [] E0 (tCons (tVar 1) (tCons (tC (.int 9)) tNil))) (tC (.int 3))) tNil)))) (gName 12)))))))
def d_p0 : DS := (dSeq (dAsg (dCall ct_now (dCons (dVar 2) (dCons (dVar 4) dNil))) (dgTup 2 (dgCons (dgName 6) (dgCons (dgName 7) dgNil))))
  (dSeq (dAsg (dIfE (dTest (dOp2 oNe (dVar 4) (dLst dNil))) (dOp2 oIx (dOp2 oIx (dVar 4) (dOp1 oNeg (dC (.int 1)))) (dC (.int 1))) (dC (.int 0))) (dgName 8))
  (dSeq (dSeq (dAsg (dCallIO ct_draw 0 (dCons (dVar 1) (dCons (dC (.int 4)) dNil))) (dgName 9)) (dAsg (dCB oLen (dCons (dOp2 oIx (dVar 2) (dC (.int 1))) dNil)) (dgName 10)))
  (dSeq (dIfS (dTest (dOp2 oEq (dVar 9) (dC (.int 2)))) (dAsg (dCB oLen (dCons (dOp2 oIx (dVar 2) (dC (.int 0))) dNil)) (dgName 10)) dNext)
  (dSeq (dAsg (dOp2 oIx (dLst (dCons (dVar 8) (dCons (dOp2 oAdd (dVar 8) (dC (.int 1))) (dCons (dOp2 oAdd (dVar 8) (dCallIO ct_draw 0 (dCons (dVar 1) (dCons (dC (.int 9)) dNil)))) (dCons (dOp2 (dI0 fun i j => .int (i - j)) (dVar 8) (dC (.int 1))) (dCons (dC .none) (dCons (dOp2 oAdd (dOp2 oPow (dC (.int 10)) (dC (.int 9))) (dC (.int 1))) (dCons (dC (.bool true)) dNil)))))))) (dCallIO ct_draw 0 (dCons (dVar 1) (dCons (dC (.int 7)) dNil)))) (dgName 11))
  (dAsg (dOp2 oIx (dLst (dCons (dC (.int 0)) (dCons (dCallIO ct_draw 0 (dCons (dVar 1) (dCons (dOp2 oAdd (dVar 10) (dC (.int 1))) dNil))) (dCons (dVar 10) (dCons (dOp1 oNeg (dC (.int 1))) (dCons (dC (.bool true)) (dCons (dC (.str "0")) dNil))))))) (dCB oMax2 (dCons (dC (.int 0)) (dCons (dOp2 (dI0 fun i j => .int (i - j)) (dCallIO ct_draw 0 (dCons (dVar 1) (dCons (dC (.int 9)) dNil))) (dC (.int 3))) dNil)))) (dgName 12)))))))
theorem sim_p0 {K : PySem.W.Frag} : SimF 3 (t_p0 K) d_p0 := (simF_seq (simF_asg (simE_call rfl (simA_cons simE_var (simA_cons simE_var simA_nil))) (simH_tup (simHs_cons (simH_name (by decide)) (simHs_cons (simH_name (by decide)) simHs_nil))))
  (simF_seq (simF_asg (simE_if (simT_test (simE_op2 simR2_ne simE_var (simE_lst simA_nil))) (simE_op2 simR2_ix (simE_op2 simR2_ix simE_var (simE_op1 simR1_neg (simE_c fun _ _ => .int _))) (simE_c fun _ _ => .int _)) (simE_c fun _ _ => .int _)) (simH_name (by decide)))
  (simF_seq (simF_par (simF_seq (simF_asg (simE_callIO (k := 0) rfl (simA_cons simE_var (simA_cons (simE_c fun _ _ => .int _) simA_nil))) (simH_name (by decide))) (simF_asg (simE_cb simRN_len (simA_cons (simE_op2 simR2_ix simE_var (simE_c fun _ _ => .int _)) simA_nil)) (simH_name (by decide)))) (ind_cb (ind_cons (ind_op (ind_var (by decide)) ind_c) ind_nil)))
  (simF_seq (simF_if (simT_test (simE_op2 simR2_eq simE_var (simE_c fun _ _ => .int _))) (simF_asg (simE_cb simRN_len (simA_cons (simE_op2 simR2_ix simE_var (simE_c fun _ _ => .int _)) simA_nil)) (simH_name (by decide))) simF_next)
  (simF_seq (simF_asg (simE_op2 simR2_ix (simE_lst (simA_cons simE_var (simA_cons (simE_op2 simR2_add simE_var (simE_c fun _ _ => .int _)) (simA_cons (simE_op2 simR2_add simE_var (simE_callIO (k := 0) rfl (simA_cons simE_var (simA_cons (simE_c fun _ _ => .int _) simA_nil)))) (simA_cons (simE_op2 simR2_sub simE_var (simE_c fun _ _ => .int _)) (simA_cons (simE_c fun _ _ => .non) (simA_cons (simE_op2 simR2_add (simE_op2 simR2_pow (simE_c fun _ _ => .int _) (simE_c fun _ _ => .int _)) (simE_c fun _ _ => .int _)) (simA_cons (simE_c fun _ _ => .bl _) simA_nil)))))))) (simE_callIO (k := 0) rfl (simA_cons simE_var (simA_cons (simE_c fun _ _ => .int _) simA_nil)))) (simH_name (by decide)))
  (simF_asg (simE_op2 simR2_ix (simE_lst (simA_cons (simE_c fun _ _ => .int _) (simA_cons (simE_callIO (k := 0) rfl (simA_cons simE_var (simA_cons (simE_op2 simR2_add simE_var (simE_c fun _ _ => .int _)) simA_nil))) (simA_cons simE_var (simA_cons (simE_op1 simR1_neg (simE_c fun _ _ => .int _)) (simA_cons (simE_c fun _ _ => .bl _) (simA_cons (simE_c fun _ _ => .str _) simA_nil))))))) (simE_cb simRN_max2 (simA_cons (simE_c fun _ _ => .int _) (simA_cons (simE_op2 simR2_sub (simE_callIO (k := 0) rfl (simA_cons simE_var (simA_cons (simE_c fun _ _ => .int _) simA_nil))) (simE_c fun _ _ => .int _)) simA_nil)))) (simH_name (by decide))))))))

def t_r0 (K : PySem.W.Frag) (C Cr : Addr) : TS := (tAsg (tCall (sp_call C) [] E0 (tCons (tVar 3) (tCons (tVar 9) (tCons (tVar 11) (tCons (tVar 12) tNil))))) (gName 13))

def t_p1 (K : PySem.W.Frag) : TS := (tSeq (tIfS (tTest (tOp (rEqD K) (tVar 9) (tC (.int 3)))) (tSeq (tAsg (tIf (tTest (tOp (rEqD K) (tVar 4) (tLst tNil))) (tC (.str "nothing")) (tC .non)) (gName 14))
  (tAsg (tSl (rSlU K) (tVar 4) tNoPart (tPart (tUn (rU fun i => .int (-i)) (tC (.int 1))))) (gName 4))) (tIfS (tOr (tNot (tB (tCall (spD ct_within) [] E0 (tCons (tVar 11) (tCons (tVar 8) (tCons (tOp (rI CPow fun i j => .int (i ^ j.toNat)) (tC (.int 10)) (tC (.int 9))) tNil)))))) (tNot (tB (tCall (spD ct_within) [] E0 (tCons (tVar 12) (tCons (tC (.int 0)) (tCons (tOp (rI0 fun i j => .int (i - j)) (tVar 10) (tC (.int 1))) tNil))))))) (tAsg (tIf (tTest (tOp (rEqD K) (tVar 9) (tC (.int 2)))) (tC (.str "purge")) (tC (.str "read"))) (gName 14)) (tSeq (tAsg (tOp (rAddU K) (tVar 4) (tLst (tCons (tTup (tCons (tVar 9) (tCons (tVar 11) (tCons (tVar 12) tNil)))) tNil))) (gName 4))
  (tAsg (tIf (tTest (tOp (rEqD K) (tVar 9) (tC (.int 2)))) (tOp (rIx K) (tVar 6) (tVar 12)) (tOp (rIx K) (tOp (rIx K) (tOp (rIx K) (tCall (spD ct_now) [] E0 (tCons (tVar 2) (tCons (tVar 4) tNil))) (tC (.int 1))) (tUn (rU fun i => .int (-i)) (tC (.int 1)))) (tC (.int 2)))) (gName 14)))))
  (tIfS (tNot (tB (tCall (spD (ct_like2 4)) [] E0 (tCons (tVar 13) (tCons (tVar 14) tNil))))) (tRet (tC (.bl false))) tNext))
def d_p1 : DS := (dSeq (dIfS (dTest (dOp2 oEq (dVar 9) (dC (.int 3)))) (dSeq (dAsg (dIfE (dTest (dOp2 oEq (dVar 4) (dLst dNil))) (dC (.str "nothing")) (dC .none)) (dgName 14))
  (dAsg (dSl (dVar 4) dNoPart (dPart (dOp1 oNeg (dC (.int 1))))) (dgName 4))) (dIfS (dOr (dNot (dTest (dCall ct_within (dCons (dVar 11) (dCons (dVar 8) (dCons (dOp2 oPow (dC (.int 10)) (dC (.int 9))) dNil)))))) (dNot (dTest (dCall ct_within (dCons (dVar 12) (dCons (dC (.int 0)) (dCons (dOp2 (dI0 fun i j => .int (i - j)) (dVar 10) (dC (.int 1))) dNil))))))) (dAsg (dIfE (dTest (dOp2 oEq (dVar 9) (dC (.int 2)))) (dC (.str "purge")) (dC (.str "read"))) (dgName 14)) (dSeq (dAsg (dOp2 oAdd (dVar 4) (dLst (dCons (dTup (dCons (dVar 9) (dCons (dVar 11) (dCons (dVar 12) dNil)))) dNil))) (dgName 4))
  (dAsg (dIfE (dTest (dOp2 oEq (dVar 9) (dC (.int 2)))) (dOp2 oIx (dVar 6) (dVar 12)) (dOp2 oIx (dOp2 oIx (dOp2 oIx (dCall ct_now (dCons (dVar 2) (dCons (dVar 4) dNil))) (dC (.int 1))) (dOp1 oNeg (dC (.int 1)))) (dC (.int 2)))) (dgName 14)))))
  (dIfS (dNot (dTest (dCall (ct_like2 4) (dCons (dVar 13) (dCons (dVar 14) dNil))))) (dRet (dC (.bool false))) dNext))
theorem sim_p1 {K : PySem.W.Frag} : SimF 3 (t_p1 K) d_p1 := (simF_seq (simF_if (simT_test (simE_op2 simR2_eq simE_var (simE_c fun _ _ => .int _))) (simF_seq (simF_asg (simE_if (simT_test (simE_op2 simR2_eq simE_var (simE_lst simA_nil))) (simE_c fun _ _ => .str _) (simE_c fun _ _ => .non)) (simH_name (by decide)))
  (simF_asg (simE_sl simE_var simO_none (simO_some (simE_op1 simR1_neg (simE_c fun _ _ => .int _)))) (simH_name (by decide)))) (simF_if (simT_or (simT_not (simT_B (simE_call rfl (simA_cons simE_var (simA_cons simE_var (simA_cons (simE_op2 simR2_pow (simE_c fun _ _ => .int _) (simE_c fun _ _ => .int _)) simA_nil)))))) (simT_not (simT_B (simE_call rfl (simA_cons simE_var (simA_cons (simE_c fun _ _ => .int _) (simA_cons (simE_op2 simR2_sub simE_var (simE_c fun _ _ => .int _)) simA_nil))))))) (simF_asg (simE_if (simT_test (simE_op2 simR2_eq simE_var (simE_c fun _ _ => .int _))) (simE_c fun _ _ => .str _) (simE_c fun _ _ => .str _)) (simH_name (by decide))) (simF_seq (simF_asg (simE_op2 simR2_add simE_var (simE_lst (simA_cons (simE_tup (simA_cons simE_var (simA_cons simE_var (simA_cons simE_var simA_nil)))) simA_nil))) (simH_name (by decide)))
  (simF_asg (simE_if (simT_test (simE_op2 simR2_eq simE_var (simE_c fun _ _ => .int _))) (simE_op2 simR2_ix simE_var simE_var) (simE_op2 simR2_ix (simE_op2 simR2_ix (simE_op2 simR2_ix (simE_call rfl (simA_cons simE_var (simA_cons simE_var simA_nil))) (simE_c fun _ _ => .int _)) (simE_op1 simR1_neg (simE_c fun _ _ => .int _))) (simE_c fun _ _ => .int _))) (simH_name (by decide))))))
  (simF_if (simT_not (simT_B (simE_call rfl (simA_cons simE_var (simA_cons simE_var simA_nil))))) (simF_ret (simE_c fun _ _ => .bl _)) simF_next))

def t_p2 (K : PySem.W.Frag) : TS := (tAsg (tCall (spD ct_now) [] E0 (tCons (tVar 2) (tCons (tVar 4) tNil))) (gTup K 2 (gCons (gName 6) (gCons (gName 7) gNil))))
def d_p2 : DS := (dAsg (dCall ct_now (dCons (dVar 2) (dCons (dVar 4) dNil))) (dgTup 2 (dgCons (dgName 6) (dgCons (dgName 7) dgNil))))
theorem sim_p2 {K : PySem.W.Frag} : SimF 3 (t_p2 K) d_p2 := (simF_asg (simE_call rfl (simA_cons simE_var (simA_cons simE_var simA_nil))) (simH_tup (simHs_cons (simH_name (by decide)) (simHs_cons (simH_name (by decide)) simHs_nil))))

def t_r1 (K : PySem.W.Frag) (C Cr : Addr) : TS := (tIfS (tOr (tNot (tB (tCall (spD (ct_like2 4)) [] E0 (tCons (tMeth C "entries" (sp_entries C) [] E0 (tVar 3) tNil) (tCons (tVar 6) tNil))))) (tNot (tB (tCall (spD (ct_like2 4)) [] E0 (tCons (tMeth C "log" (sp_log C) [] E0 (tVar 3) tNil) (tCons (tVar 7) tNil)))))) (tRet (tC (.bl false))) tNext)

def t_r2 (K : PySem.W.Frag) (C Cr : Addr) : TS := (tIfS (tTest (tOp (rNeD K) (tCB (L2W.rLenO C (sp_len C)) (tCons (tVar 3) tNil)) (tCB (rLenU K) (tCons (tVar 7) tNil)))) (tRet (tC (.bl false))) tNext)

def t_p3 (K : PySem.W.Frag) : TS := (tAsg (tAndV (tOp (rEqD K) (tVar 7) (tLst tNil)) (tOp (rEqD K) (tVar 6) (tOp (rMulU K) (tLst (tCons (tC .non) tNil)) (tCB (rLenU K) (tCons (tVar 6) tNil))))) (gName 15))
def d_p3 : DS := (dAsg (dAndV (dOp2 oEq (dVar 7) (dLst dNil)) (dOp2 oEq (dVar 6) (dOp2 oMul (dLst (dCons (dC .none) dNil)) (dCB oLen (dCons (dVar 6) dNil))))) (dgName 15))
theorem sim_p3 {K : PySem.W.Frag} : SimF 3 (t_p3 K) d_p3 := (simF_asg (simE_andV (simE_op2 simR2_eq simE_var (simE_lst simA_nil)) (simE_op2 simR2_eq simE_var (simE_op2 simR2_mul (simE_lst (simA_cons (simE_c fun _ _ => .non) simA_nil)) (simE_cb simRN_len (simA_cons simE_var simA_nil))))) (simH_name (by decide)))

def t_r3 (K : PySem.W.Frag) (C Cr : Addr) : TS := (tIfS (tOr (tTest (tOp (L2W.rNeO C (sp_eq C)) (tVar 3) (tVar 3))) (tOr (tTest (tOp (L2W.rEqO C (sp_eq C)) (tVar 3) (tVar 2))) (tTest (tOp (rNeD K) (tOp (L2W.rEqO C (sp_eq C)) (tVar 3) (L2W.tMakeE C (sp_init C Cr) (fun _ => E0) (tCons (tVar 2) tNil))) (tVar 15))))) (tRet (tC (.bl false))) tNext)

def t_turn (K : PySem.W.Frag) (C Cr : Addr) : TS := (tSeq (tAsg (tCall (spD ct_now) [] E0 (tCons (tVar 2) (tCons (tVar 4) tNil))) (gTup K 2 (gCons (gName 6) (gCons (gName 7) gNil))))
  (tSeq (tAsg (tIf (tTest (tOp (rNeD K) (tVar 4) (tLst tNil))) (tOp (rIx K) (tOp (rIx K) (tVar 4) (tUn (rU fun i => .int (-i)) (tC (.int 1)))) (tC (.int 1))) (tC (.int 0))) (gName 8))
  (tSeq (tPar 9 10 (tCons (tCall (spD ct_draw) [] E0 (tCons (tVar 1) (tCons (tC (.int 4)) tNil))) (tCons (tCB (rLenU K) (tCons (tOp (rIx K) (tVar 2) (tC (.int 1))) tNil)) tNil)))
  (tSeq (tIfS (tTest (tOp (rEqD K) (tVar 9) (tC (.int 2)))) (tAsg (tCB (rLenU K) (tCons (tOp (rIx K) (tVar 2) (tC (.int 0))) tNil)) (gName 10)) tNext)
  (tSeq (tAsg (tOp (rIx K) (tLst (tCons (tVar 8) (tCons (tOp (rAddU K) (tVar 8) (tC (.int 1))) (tCons (tOp (rAddU K) (tVar 8) (tCall (spD ct_draw) [] E0 (tCons (tVar 1) (tCons (tC (.int 9)) tNil)))) (tCons (tOp (rI0 fun i j => .int (i - j)) (tVar 8) (tC (.int 1))) (tCons (tC .non) (tCons (tOp (rAddU K) (tOp (rI CPow fun i j => .int (i ^ j.toNat)) (tC (.int 10)) (tC (.int 9))) (tC (.int 1))) (tCons (tC (.bl true)) tNil)))))))) (tCall (spD ct_draw) [] E0 (tCons (tVar 1) (tCons (tC (.int 7)) tNil)))) (gName 11))
  (tSeq (tAsg (tOp (rIx K) (tLst (tCons (tC (.int 0)) (tCons (tCall (spD ct_draw) [] E0 (tCons (tVar 1) (tCons (tOp (rAddU K) (tVar 10) (tC (.int 1))) tNil))) (tCons (tVar 10) (tCons (tUn (rU fun i => .int (-i)) (tC (.int 1))) (tCons (tC (.bl true)) (tCons (tC (.str "0")) tNil))))))) (tCB rMax2 (tCons (tC (.int 0)) (tCons (tOp (rI0 fun i j => .int (i - j)) (tCall (spD ct_draw) [] E0 (tCons (tVar 1) (tCons (tC (.int 9)) tNil))) (tC (.int 3))) tNil)))) (gName 12))
  (tSeq (tAsg (tCall (sp_call C) [] E0 (tCons (tVar 3) (tCons (tVar 9) (tCons (tVar 11) (tCons (tVar 12) tNil))))) (gName 13))
  (tSeq (tIfS (tTest (tOp (rEqD K) (tVar 9) (tC (.int 3)))) (tSeq (tAsg (tIf (tTest (tOp (rEqD K) (tVar 4) (tLst tNil))) (tC (.str "nothing")) (tC .non)) (gName 14))
  (tAsg (tSl (rSlU K) (tVar 4) tNoPart (tPart (tUn (rU fun i => .int (-i)) (tC (.int 1))))) (gName 4))) (tIfS (tOr (tNot (tB (tCall (spD ct_within) [] E0 (tCons (tVar 11) (tCons (tVar 8) (tCons (tOp (rI CPow fun i j => .int (i ^ j.toNat)) (tC (.int 10)) (tC (.int 9))) tNil)))))) (tNot (tB (tCall (spD ct_within) [] E0 (tCons (tVar 12) (tCons (tC (.int 0)) (tCons (tOp (rI0 fun i j => .int (i - j)) (tVar 10) (tC (.int 1))) tNil))))))) (tAsg (tIf (tTest (tOp (rEqD K) (tVar 9) (tC (.int 2)))) (tC (.str "purge")) (tC (.str "read"))) (gName 14)) (tSeq (tAsg (tOp (rAddU K) (tVar 4) (tLst (tCons (tTup (tCons (tVar 9) (tCons (tVar 11) (tCons (tVar 12) tNil)))) tNil))) (gName 4))
  (tAsg (tIf (tTest (tOp (rEqD K) (tVar 9) (tC (.int 2)))) (tOp (rIx K) (tVar 6) (tVar 12)) (tOp (rIx K) (tOp (rIx K) (tOp (rIx K) (tCall (spD ct_now) [] E0 (tCons (tVar 2) (tCons (tVar 4) tNil))) (tC (.int 1))) (tUn (rU fun i => .int (-i)) (tC (.int 1)))) (tC (.int 2)))) (gName 14)))))
  (tSeq (tIfS (tNot (tB (tCall (spD (ct_like2 4)) [] E0 (tCons (tVar 13) (tCons (tVar 14) tNil))))) (tRet (tC (.bl false))) tNext)
  (tSeq (tAsg (tCall (spD ct_now) [] E0 (tCons (tVar 2) (tCons (tVar 4) tNil))) (gTup K 2 (gCons (gName 6) (gCons (gName 7) gNil))))
  (tSeq (tIfS (tOr (tNot (tB (tCall (spD (ct_like2 4)) [] E0 (tCons (tMeth C "entries" (sp_entries C) [] E0 (tVar 3) tNil) (tCons (tVar 6) tNil))))) (tNot (tB (tCall (spD (ct_like2 4)) [] E0 (tCons (tMeth C "log" (sp_log C) [] E0 (tVar 3) tNil) (tCons (tVar 7) tNil)))))) (tRet (tC (.bl false))) tNext)
  (tSeq (tIfS (tTest (tOp (rNeD K) (tCB (L2W.rLenO C (sp_len C)) (tCons (tVar 3) tNil)) (tCB (rLenU K) (tCons (tVar 7) tNil)))) (tRet (tC (.bl false))) tNext)
  (tSeq (tAsg (tAndV (tOp (rEqD K) (tVar 7) (tLst tNil)) (tOp (rEqD K) (tVar 6) (tOp (rMulU K) (tLst (tCons (tC .non) tNil)) (tCB (rLenU K) (tCons (tVar 6) tNil))))) (gName 15))
  (tIfS (tOr (tTest (tOp (L2W.rNeO C (sp_eq C)) (tVar 3) (tVar 3))) (tOr (tTest (tOp (L2W.rEqO C (sp_eq C)) (tVar 3) (tVar 2))) (tTest (tOp (rNeD K) (tOp (L2W.rEqO C (sp_eq C)) (tVar 3) (L2W.tMakeE C (sp_init C Cr) (fun _ => E0) (tCons (tVar 2) tNil))) (tVar 15))))) (tRet (tC (.bl false))) tNext))))))))))))))
theorem t_turn_eq {K : PySem.W.Frag} {C Cr : Addr} : t_turn K C Cr = (tSeq (t_p0 K) (tSeq (t_r0 K C Cr) (tSeq (t_p1 K) (tSeq (t_p2 K) (tSeq (t_r1 K C Cr) (tSeq (t_r2 K C Cr) (tSeq (t_p3 K) (t_r3 K C Cr)))))))) := by
  unfold t_turn t_p0 t_r0 t_p1 t_p2 t_r1 t_r2 t_p3 t_r3
  simp only [tSeq_assoc]

def t_q0 (K : PySem.W.Frag) : TS := (tAsg (tCall (spD ct_row) [] E0 (tCons (tVar 1) (tCons (tC (.int 6)) (tCons (tC (.int 9)) (tCons (tC (.int 4)) tNil))))) (gName 2))
def d_q0 : DS := (dAsg (dCallIO ct_row 0 (dCons (dVar 1) (dCons (dC (.int 6)) (dCons (dC (.int 9)) (dCons (dC (.int 4)) dNil))))) (dgName 2))
theorem sim_q0 {K : PySem.W.Frag} : SimF 3 (t_q0 K) d_q0 := (simF_asg (simE_callIO (k := 0) rfl (simA_cons simE_var (simA_cons (simE_c fun _ _ => .int _) (simA_cons (simE_c fun _ _ => .int _) (simA_cons (simE_c fun _ _ => .int _) simA_nil))))) (simH_name (by decide)))

def t_q1 (K : PySem.W.Frag) (C Cr : Addr) : TS := (tPar 3 4 (tCons (L2W.tMakeE C (sp_init C Cr) (fun _ => E0) (tCons (tVar 2) tNil)) (tCons (tLst tNil) tNil)))

def t_end (K : PySem.W.Frag) : TS := (tSeq (tAsg (tLst (tCons (tC .non) (tCons (tTup tNil) (tCons (tTup (tCons (tTup (tCons (tC (.int 0)) tNil)) (tCons (tTup (tCons (tC (.int 0)) tNil)) tNil))) (tCons (tTup (tCons (tTup (tCons (tC (.int 1)) tNil)) (tCons (tTup tNil) tNil))) (tCons (tLst (tCons (tTup (tCons (tC (.int 1)) tNil)) (tCons (tTup (tCons (tC (.int 0)) tNil)) tNil))) tNil)))))) (gName 16))
  (tRet (tAndV (tOp (rEqD K) (tLc (iSeq K (tVar 16)) (gName 17) tYes (tCall (spD ct_made) [] E0 (tCons (tVar 17) tNil)) [17]) (tOp (rMulU K) (tLst (tCons (tC (.str "row")) tNil)) (tC (.int 5)))) (tOp (rEqD K) (tCall (spD ct_made) [] E0 (tCons (tTup (tCons (tTup tNil) (tCons (tTup (tCons (tC (.int 0)) tNil)) tNil))) tNil)) (tC (.str "made"))))))
def d_end : DS := (dSeq (dAsg (dLst (dCons (dC .none) (dCons (dTup dNil) (dCons (dTup (dCons (dTup (dCons (dC (.int 0)) dNil)) (dCons (dTup (dCons (dC (.int 0)) dNil)) dNil))) (dCons (dTup (dCons (dTup (dCons (dC (.int 1)) dNil)) (dCons (dTup dNil) dNil))) (dCons (dLst (dCons (dTup (dCons (dC (.int 1)) dNil)) (dCons (dTup (dCons (dC (.int 0)) dNil)) dNil))) dNil)))))) (dgName 16))
  (dRet (dAndV (dOp2 oEq (dLc (dSeqI (dVar 16)) (dgName 17) dYes (dCall ct_made (dCons (dVar 17) dNil)) [17]) (dOp2 oMul (dLst (dCons (dC (.str "row")) dNil)) (dC (.int 5)))) (dOp2 oEq (dCall ct_made (dCons (dTup (dCons (dTup dNil) (dCons (dTup (dCons (dC (.int 0)) dNil)) dNil))) dNil)) (dC (.str "made"))))))
theorem sim_end {K : PySem.W.Frag} : SimS (t_end K) d_end := (simS_seq (simS_asg (simE_lst (simA_cons (simE_c fun _ _ => .non) (simA_cons (simE_tup simA_nil) (simA_cons (simE_tup (simA_cons (simE_tup (simA_cons (simE_c fun _ _ => .int _) simA_nil)) (simA_cons (simE_tup (simA_cons (simE_c fun _ _ => .int _) simA_nil)) simA_nil))) (simA_cons (simE_tup (simA_cons (simE_tup (simA_cons (simE_c fun _ _ => .int _) simA_nil)) (simA_cons (simE_tup simA_nil) simA_nil))) (simA_cons (simE_lst (simA_cons (simE_tup (simA_cons (simE_c fun _ _ => .int _) simA_nil)) (simA_cons (simE_tup (simA_cons (simE_c fun _ _ => .int _) simA_nil)) simA_nil))) simA_nil)))))) simG_name)
  (simS_ret (simE_andV (simE_op2 simR2_eq (simE_lc (simI_seq simE_var) simG_name (tg_name (by decide)) simT_yes (simE_call rfl (simA_cons simE_var simA_nil))) (simE_op2 simR2_mul (simE_lst (simA_cons (simE_c fun _ _ => .str _) simA_nil)) (simE_c fun _ _ => .int _))) (simE_op2 simR2_eq (simE_call rfl (simA_cons (simE_tup (simA_cons (simE_tup simA_nil) (simA_cons (simE_tup (simA_cons (simE_c fun _ _ => .int _) simA_nil)) simA_nil))) simA_nil)) (simE_c fun _ _ => .str _)))))

def t_law17 (K : PySem.W.Frag) (C Cr : Addr) : TS := (tSeq (t_q0 K)
  (tSeq (t_q1 K C Cr)
  (tSeq (tFor (iRng1 (tCons (tC (.int 40)) tNil)) (gName 5) (t_turn K C Cr))
  (t_end K))))

/-! ### the statements over data -/
structure ArgD (d : PyData) : Prop where
  nl : noL d = true
  any : Any 1 1 d
theorem argD_int (i : Int) : ArgD (.int i) := ⟨rfl, any_int⟩
theorem argD_non : ArgD .none := ⟨rfl, any_non⟩
theorem argD_bl (b : Bool) : ArgD (.bool b) := ⟨rfl, any_bl⟩
def heldD (r : Row) (cs : List Cal) : PyData := .list ((stOf r cs).1.map entD)
def logD (r : Row) (cs : List Cal) : PyData := .list ((stOf r cs).2.1.map rdD)
def calsD (cs : List Cal) : PyData := .list (cs.map calD)
def bnd (r : Row) (w : Int) : Int := if w = 2 then (r.ls.length : Int) else (r.ps.length : Int)
theorem nob_cals (cs : List Cal) : Nob 3 (calsD cs) := by
  unfold calsD
  simp only [Nob]
  intro x hx
  obtain ⟨e, _, rfl⟩ := List.mem_map.mp hx
  simp [calD, Nob]
theorem nob_nil : Nob 3 (.list []) := by
  simp only [Nob]
  intro x hx
  cases hx
theorem cals_nil {cs : List Cal} : calsD cs = .list [] ↔ cs = [] := by
  unfold calsD
  constructor
  · intro h
    injection h with h
    exact List.map_eq_nil_iff.mp h
  · rintro rfl
    rfl
section
variable {r : Row} {cs : List Cal} {tp : PyData} {N : DEnv → Prop}
theorem pre_now {o : PyData → Prop} {Z : Rs → PyData → Prop} (G : RC r cs) (q : Z (.fz (.tuple [heldD r cs, logD r cs])) .none) : ct_now.pre [rowD r, calsD cs] Z :=
  ⟨r, cs, rfl, G.ok, G.few, by have := G.rin.ls; omega, fun p hp => G.rin.inn p hp, q⟩
theorem dat_p0 (T : TapeOk tp) (G : RC r cs) (k : ∀ tp' w dt di, TapeOk tp' → 0 ≤ w → w < 4 → ArgD dt → ArgD di → N [none, some (.ow tp'), some (.fz (rowD r)), none, some (.fz (calsD cs)), none, some (.fz (heldD r cs)), some (.fz (logD r cs)), some (.fz (.int (lastT cs))), some (.fz (.int w)), some (.fz (.int (bnd r w))), some (.fz dt), some (.fz di), none, none, none, none, none]) :
    d_p0 { nx := N, rt := fun _ _ => False } [none, some (.ow tp), some (.fz (rowD r)), none, some (.fz (calsD cs)), none, none, none, none, none, none, none, none, none, none, none, none, none] := by
  have h1 := G.rin.ls
  have h2 := G.rin.p1
  have h3 := List.length_pos_iff.mpr G.rin.p0
  unfold d_p0
  refine dSeq_by (fun ρ => ρ = [none, some (.ow tp), some (.fz (rowD r)), none, some (.fz (calsD cs)), none, some (.fz (heldD r cs)), some (.fz (logD r cs)), none, none, none, none, none, none, none, none, none, none]) (fun W hW => ?_) fun ρ e => ?_
  · walk_at "d"
    refine ⟨rfl, pre_now (o := fun _ => True) G ?_⟩
    walk_at "d"
    exact hW _ rfl
  subst e
  refine dSeq_by (fun ρ => ρ = [none, some (.ow tp), some (.fz (rowD r)), none, some (.fz (calsD cs)), none, some (.fz (heldD r cs)), some (.fz (logD r cs)), some (.fz (.int (lastT cs))), none, none, none, none, none, none, none, none, none]) (fun W hW => ?_) fun ρ e => ?_
  · walk_at "d"
    refine oNe_nob (n := 3) (by decide) (nob_cals cs) nob_nil cals_nil ?_
    walk_at "d"
    by_cases hc : cs = []
    · subst hc
      walk_at "d"
      exact hW _ rfl
    · obtain ⟨ds, c, rfl⟩ := snoc_of hc
      rw [decide_eq_false hc]
      walk_at "d"
      unfold calsD at hW ⊢
      rw [lastT_snoc] at hW
      simp only [List.map_append, List.map_cons, List.map_nil] at hW ⊢
      refine ⟨_, atI_back, ?_⟩
      simp only [calD_mk] at hW ⊢
      walk_at "d"
      exact hW _ rfl
  subst e
  refine dSeq_by (fun ρ => ∃ tp' w, TapeOk tp' ∧ 0 ≤ w ∧ w < 4 ∧ ρ = [none, some (.ow tp'), some (.fz (rowD r)), none, some (.fz (calsD cs)), none, some (.fz (heldD r cs)), some (.fz (logD r cs)), some (.fz (.int (lastT cs))), some (.fz (.int w)), some (.fz (.int (r.ps.length : Int))), none, none, none, none, none, none, none]) (fun W hW => ?_) fun ρ e => ?_
  · walk_at "d"
    refine ⟨rfl, tp, 4, rfl, T, by decide, by decide, fun w tp' w0 w1 T' => ?_⟩
    unfold rowD intsT natsT at hW ⊢
    walk_at "d"
    exact hW _ ⟨tp', w, T', w0, w1, rfl⟩
  obtain ⟨tp1, w, T1, w0, w1, rfl⟩ := e
  refine dSeq_by (fun ρ => ρ = [none, some (.ow tp1), some (.fz (rowD r)), none, some (.fz (calsD cs)), none, some (.fz (heldD r cs)), some (.fz (logD r cs)), some (.fz (.int (lastT cs))), some (.fz (.int w)), some (.fz (.int (bnd r w))), none, none, none, none, none, none, none]) (fun W hW => ?_) fun ρ e => ?_
  · walk_at "d"
    unfold bnd at hW
    by_cases h2 : w = 2
    · rw [decide_eq_true h2]
      rw [if_pos h2] at hW
      unfold rowD intsT natsT at hW ⊢
      walk_at "d"
      exact hW _ rfl
    · rw [decide_eq_false h2]
      rw [if_neg h2] at hW
      walk_at "d"
      exact hW _ rfl
  subst e
  have hb : 0 < bnd r w + 1 ∧ bnd r w + 1 < 2 ^ 60 := by
    unfold bnd
    split <;> omega
  obtain ⟨bd, ebd⟩ : ∃ bd, bd = bnd r w := ⟨_, rfl⟩
  rw [← ebd] at hb ⊢
  refine dSeq_by (fun ρ => ∃ tp' dt, TapeOk tp' ∧ ArgD dt ∧ ρ = [none, some (.ow tp'), some (.fz (rowD r)), none, some (.fz (calsD cs)), none, some (.fz (heldD r cs)), some (.fz (logD r cs)), some (.fz (.int (lastT cs))), some (.fz (.int w)), some (.fz (.int bd)), some (.fz dt), none, none, none, none, none, none]) (fun W hW => ?_) fun ρ e => ?_
  · walk_at "d"
    refine ⟨rfl, tp1, 9, rfl, T1, by decide, by decide, fun i tp2 i0 i1 T2 => ?_⟩
    walk_at "d"
    refine ⟨by decide, rfl, tp2, 7, rfl, T2, by decide, by decide, fun i2 tp3 j0 j1 T3 => ?_⟩
    walk_at "d"
    obtain ⟨m, rfl⟩ := Int.eq_ofNat_of_zero_le j0
    obtain ⟨x, hx⟩ := get_at (l := [PyData.int (lastT cs), .int (lastT cs + 1), .int (lastT cs + i), .int (lastT cs - 1), .none, .int (10 ^ Int.toNat 9 + 1), .bool true]) (k := m) (by show m < 7; omega)
    refine ⟨x, atI_n hx, ?_⟩
    refine hW _ ⟨_, x, T3, ?_, rfl⟩
    have := get_mem hx
    simp only [List.mem_cons, List.not_mem_nil, or_false] at this
    rcases this with rfl | rfl | rfl | rfl | rfl | rfl | rfl
    · exact argD_int _
    · exact argD_int _
    · exact argD_int _
    · exact argD_int _
    · exact argD_non
    · exact argD_int _
    · exact argD_bl _
  obtain ⟨tp2, dt, T2, hdt, rfl⟩ := e
  walk_at "d"
  refine ⟨rfl, tp2, bd + 1, rfl, T2, hb.1, hb.2, fun j tp3 j0 j1 T3 => ?_⟩
  walk_at "d"
  refine ⟨rfl, tp3, 9, rfl, T3, by decide, by decide, fun i tp4 i0 i1 T4 => ?_⟩
  walk_at "d"
  obtain ⟨m, hm⟩ := Int.eq_ofNat_of_zero_le (show 0 ≤ (if i - 3 > 0 then i - 3 else 0) by split <;> omega)
  obtain ⟨x, hx⟩ := get_at (l := [PyData.int 0, .int j, .int bd, .int (-1), .bool true, .str (Str.ofString "0")]) (k := m) (by show m < 6; split at hm <;> omega)
  rw [hm]
  refine ⟨x, atI_n hx, ?_⟩
  rw [ebd]
  refine k tp4 w dt x T4 w0 w1 hdt ?_
  have := get_mem hx
  simp only [List.mem_cons, List.not_mem_nil, or_false] at this
  rcases this with rfl | rfl | rfl | rfl | rfl | rfl
  · exact argD_int _
  · exact argD_int _
  · exact argD_int _
  · exact argD_int _
  · exact argD_bl _
  · exact ⟨rfl, any_str.mpr ⟨by decide +kernel, by decide +kernel⟩⟩

theorem likes_entS (e : Ent) : LikesS 4 (entD e) := by
  cases e with
  | none => simp [entD, LikesS]
  | some y => simp [entD, LikesS]
theorem rc_snoc (G : RC r cs) {w t : Int} {c : Nat} (hf : cs.length < 100) (h1 : w < 2 → c < r.ps.length) (h2 : ¬ w < 2 → c < r.ls.length) (h3 : 0 ≤ t) : RC r (cs ++ [(w, t, c)]) :=
  ⟨G.rin, G.ok.snoc h1 h2 h3, by rw [List.length_append, List.length_singleton]; omega⟩
theorem rc_init (G : RC r cs) : RC r cs.dropLast := ⟨G.rin, G.ok.init, by rw [List.length_dropLast]; have := G.few; omega⟩
theorem calsD_snoc (cs : List Cal) (w t : Int) (c : Nat) : PyData.list (cs.map calD ++ [.tuple [.int w, .int t, .int (c : Int)]]) = calsD (cs ++ [(w, t, c)]) := by
  unfold calsD
  rw [List.map_append]
  rfl
theorem Out.rc {w : Int} {dt di d : PyData} {cs' : List Cal} (G : RC r cs) (hf : cs.length < 100) (h : Out r cs w dt di cs' d) : RC r cs' := by
  have hn := lastT_nn G.ok
  have hl := stOf_len r cs
  rcases h with ⟨_, _, rfl, _⟩ | ⟨_, _, rfl, _⟩ | ⟨hw, t, c, pos, _, _, t0, _, hc, rfl, _⟩ | ⟨hw, t, c, e, _, _, t0, _, hc, rfl, _⟩ | ⟨_, _, rfl, _⟩ | ⟨_, _, rfl, _⟩
  · exact G
  · exact G
  · exact rc_snoc G hf (fun _ => get_lt hc) (fun z => (z hw).elim) (by omega)
  · exact rc_snoc G hf (fun z => by omega) (fun _ => by have := get_lt hc; omega) (by omega)
  · exact G
  · exact rc_init G
theorem Out.len {w : Int} {dt di d : PyData} {cs' : List Cal} (h : Out r cs w dt di cs' d) : cs'.length ≤ cs.length + 1 := by
  rcases h with ⟨_, _, rfl, _⟩ | ⟨_, _, rfl, _⟩ | ⟨hw, t, c, pos, _, _, t0, _, hc, rfl, _⟩ | ⟨hw, t, c, e, _, _, t0, _, hc, rfl, _⟩ | ⟨_, _, rfl, _⟩ | ⟨_, _, rfl, _⟩
  · omega
  · omega
  · simp
  · simp
  · omega
  · rw [List.length_dropLast]; omega
def ρ1 (tp : PyData) (r : Row) (cs cs' : List Cal) (w : Int) (dt di told : PyData) (due : Option Sl) : DEnv := [none, some (.ow tp), some (.fz (rowD r)), none, some (.fz (calsD cs')), none, some (.fz (heldD r cs)), some (.fz (logD r cs)), some (.fz (.int (lastT cs))), some (.fz (.int w)), some (.fz (.int (bnd r w))), some (.fz dt), some (.fz di), some (.fz told), due, none, none, none]
theorem cut_init {α : Type} (l : List α) : cut l none (some (-1)) = l.dropLast := by
  unfold cut
  rw [HT.sIx_none, List.drop_zero, Nat.sub_zero, List.dropLast_eq_take]
  congr 1
  show (if (-1 : Int) < 0 then (-1 + (l.length : Int)).toNat else min (-1 : Int).toNat l.length) = _
  rw [if_pos (by decide)]
  omega
theorem dat_3 {w : Int} {dt di told : PyData} {Q : Bool → DEnv → Prop} (q : Q (decide (w = 3)) (ρ1 tp r cs cs w dt di told none)) : dTest (dOp2 oEq (dVar 9) (dC (.int 3))) (ρ1 tp r cs cs w dt di told none) Q := by
  unfold ρ1 at q ⊢
  walk_at "d"
  exact q
theorem dat_test {w : Int} {dt di told : PyData} {Q : Bool → DEnv → Prop} (At : ArgD dt) (Ai : ArgD di) (q : Q (!goodB (lastT cs) 1000000000 (bnd r w - 1) dt di) (ρ1 tp r cs cs w dt di told none)) :
    dOr (dNot (dTest (dCall ct_within (dCons (dVar 11) (dCons (dVar 8) (dCons (dOp2 oPow (dC (.int 10)) (dC (.int 9))) dNil)))))) (dNot (dTest (dCall ct_within (dCons (dVar 12) (dCons (dC (.int 0)) (dCons (dOp2 (dI0 fun i j => .int (i - j)) (dVar 10) (dC (.int 1))) dNil)))))) (ρ1 tp r cs cs w dt di told none) Q := by
  unfold goodB at q
  unfold ρ1 at q ⊢
  walk_at "d"
  refine ⟨by decide, rfl, dt, _, _, 1, 1, rfl, At.any, ?_⟩
  rw [show ((10 : Int) ^ Int.toNat 9) = 1000000000 from rfl]
  walk_at "d"
  cases h : isIntB (lastT cs) 1000000000 dt with
  | false =>
    rw [h] at q
    exact q
  | true =>
    rw [h] at q
    rw [if_neg (by decide)]
    refine ⟨rfl, di, _, _, 1, 1, rfl, Ai.any, ?_⟩
    walk_at "d"
    exact q
theorem dat_p1 {w : Int} {dt di told : PyData} {cs' : List Cal} (G : RC r cs) (hf : cs.length < 100) (w1 : w < 4) (At : ArgD dt) (Ai : ArgD di) (O : Out r cs w dt di cs' told) (k : N (ρ1 tp r cs cs' w dt di told (some (.fz told)))) :
    d_p1 { nx := N, rt := fun _ _ => False } (ρ1 tp r cs cs w dt di told none) := by
  have h1 := G.rin.ls
  have h2 := G.rin.p1
  have G' := O.rc G hf
  unfold d_p1
  refine dSeq_by (fun ρ => ρ = ρ1 tp r cs cs' w dt di told (some (.fz told)) ∧ LikesS 4 told) (fun W hW => ?_) fun ρ e => ?_
  · refine dat_3 ?_
    show if decide (w = 3) = true then _ else _
    have lkS : ∀ {x : Str}, PyData.strOk x = true → LikesS 4 (.str x) := fun {x} h => h
    by_cases h3 : w = 3
    · rw [decide_eq_true h3, if_pos rfl]
      rcases O with ⟨hw, _⟩ | ⟨hw, _⟩ | ⟨hw, _⟩ | ⟨hw, _⟩ | ⟨hw, hc, rfl, rfl⟩ | ⟨hw, hc, rfl, rfl⟩
      · omega
      · omega
      · omega
      · omega
      · subst hc
        unfold ρ1 at hW ⊢
        walk_at "d"
        refine oEq_nob (n := 3) (by decide) (nob_cals []) nob_nil cals_nil ?_
        unfold calsD at hW ⊢
        walk_at "d"
        exact hW _ ⟨rfl, lkS (by decide +kernel)⟩
      · obtain ⟨ds, c, rfl⟩ := snoc_of hc
        unfold ρ1 at hW ⊢
        walk_at "d"
        refine oEq_nob (n := 3) (by decide) (nob_cals _) nob_nil cals_nil ?_
        rw [decide_eq_false hc]
        unfold calsD at hW ⊢
        walk_at "d"
        rw [cut_init, ← List.map_dropLast]
        exact hW _ ⟨rfl, by simp [LikesS]⟩
    · rw [decide_eq_false h3, if_neg Bool.false_ne_true]
      refine dat_test At Ai ?_
      show if (!goodB (lastT cs) 1000000000 (bnd r w - 1) dt di) = true then _ else _
      unfold bnd
      rcases O with ⟨hw, hb, rfl, rfl⟩ | ⟨hw, hb, rfl, rfl⟩ | ⟨hw, t, c, pos, rfl, rfl, t0, t1, hc, rfl, rfl⟩ | ⟨hw, t, c, e, rfl, rfl, t0, t1, hc, rfl, rfl⟩ | ⟨hw, _⟩ | ⟨hw, _⟩
      · have n2 : ¬ w = 2 := by omega
        rw [if_neg n2, hb, if_pos (show (!false) = true from rfl)]
        unfold ρ1 at hW ⊢
        walk_at "d"
        rw [decide_eq_false n2]
        walk_at "d"
        exact hW _ ⟨rfl, lkS (by decide +kernel)⟩
      · rw [if_pos hw, hb, if_pos (show (!false) = true from rfl)]
        unfold ρ1 at hW ⊢
        walk_at "d"
        rw [decide_eq_true hw]
        walk_at "d"
        exact hW _ ⟨rfl, lkS (by decide +kernel)⟩
      · have n2 : ¬ w = 2 := by omega
        have hcl := get_lt hc
        have hg : goodB (lastT cs) 1000000000 ((r.ps.length : Int) - 1) (.int t) (.int (c : Int)) = true := by
          unfold goodB
          rw [isIntB_int, isIntB_int, decide_eq_true t0, decide_eq_true t1, decide_eq_true (by omega), decide_eq_true (by omega)]
          rfl
        rw [if_neg n2, hg, if_neg (by decide)]
        have ew := calsD_snoc cs w t c
        unfold ρ1 at hW ⊢
        walk_at "d"
        unfold calsD at ew hW ⊢
        walk_at "d"
        refine ⟨by omega, ?_⟩
        rw [decide_eq_false n2]
        walk_at "d"
        rw [ew]
        refine ⟨rfl, pre_now (o := fun _ => True) G' ?_⟩
        walk_at "d"
        unfold logD
        rw [stOf_snoc]
        unfold stepC
        rw [if_pos hw, getD_of hc, List.map_append, List.map_cons, List.map_nil]
        walk_at "d"
        refine ⟨_, atI_back, ?_⟩
        unfold rdD
        walk_at "d"
        exact hW _ ⟨rfl, by simp [LikesS]⟩
      · have hcl := get_lt hc
        have hle := stOf_len r cs
        have hg : goodB (lastT cs) 1000000000 ((r.ls.length : Int) - 1) (.int t) (.int (c : Int)) = true := by
          unfold goodB
          rw [isIntB_int, isIntB_int, decide_eq_true t0, decide_eq_true t1, decide_eq_true (by omega), decide_eq_true (by omega)]
          rfl
        rw [if_pos hw, hg, if_neg (by decide)]
        unfold ρ1 at hW ⊢
        walk_at "d"
        have ew := calsD_snoc cs w t c
        unfold calsD at ew hW ⊢
        walk_at "d"
        refine ⟨by omega, ?_⟩
        rw [decide_eq_true hw, ew]
        unfold heldD at hW ⊢
        walk_at "d"
        exact ⟨_, atI_map hc, hW _ ⟨rfl, likes_entS e⟩⟩
      · omega
      · omega
  obtain ⟨rfl, lk⟩ := e
  unfold ρ1 at k ⊢
  walk_at "d"
  refine ⟨rfl, told, rfl, lk, ?_⟩
  walk_at "d"
  exact k
end
section
variable {r : Row} {cs : List Cal} {tp : PyData} {N : DEnv → Prop}
theorem dat_p2 (G : RC r cs) (k : N [none, some (.ow tp), some (.fz (rowD r)), none, some (.fz (calsD cs)), none, some (.fz (heldD r cs)), some (.fz (logD r cs)), none, none, none, none, none, none, none, none, none, none]) :
    d_p2 { nx := N, rt := fun _ _ => False } [none, some (.ow tp), some (.fz (rowD r)), none, some (.fz (calsD cs)), none, none, none, none, none, none, none, none, none, none, none, none, none] := by
  unfold d_p2
  walk_at "d"
  refine ⟨rfl, pre_now (o := fun _ => True) G ?_⟩
  walk_at "d"
  exact k
theorem nob_held (es : List Ent) : Nob 3 (.list (es.map entD)) := by
  simp only [Nob]
  intro x hx
  obtain ⟨e, _, rfl⟩ := List.mem_map.mp hx
  cases e with
  | none => simp [entD, Nob]
  | some y => simp [entD, Nob]
theorem nob_log (es : List (Int × Int × Int)) : Nob 3 (.list (es.map rdD)) := by
  simp only [Nob]
  intro x hx
  obtain ⟨e, _, rfl⟩ := List.mem_map.mp hx
  simp [rdD, Nob]
def freshB (r : Row) (cs : List Cal) : Bool := decide ((stOf r cs).1 = empt r ∧ (stOf r cs).2.1 = [])
theorem log_nil {rs : List (Int × Int × Int)} : (PyData.list (rs.map rdD) = .list []) ↔ rs = [] := by
  constructor
  · intro h
    injection h with h
    exact List.map_eq_nil_iff.mp h
  · rintro rfl
    rfl
theorem held_rep {es es' : List Ent} : (PyData.list (es.map entD) = .list (es'.map entD)) ↔ es = es' := by
  constructor
  · intro h
    injection h with h
    exact (List.map_inj_right (fun a b e => entD_inj e)).mp h
  · rintro rfl
    rfl
theorem dat_p3 (G : RC r cs) (k : N [none, some (.ow tp), some (.fz (rowD r)), none, some (.fz (calsD cs)), none, some (.fz (heldD r cs)), some (.fz (logD r cs)), none, none, none, none, none, none, none, some (.fz (.bool (freshB r cs))), none, none]) :
    d_p3 { nx := N, rt := fun _ _ => False } [none, some (.ow tp), some (.fz (rowD r)), none, some (.fz (calsD cs)), none, some (.fz (heldD r cs)), some (.fz (logD r cs)), none, none, none, none, none, none, none, none, none, none] := by
  have h1 := G.rin.ls
  have hl := stOf_len r cs
  unfold freshB at k
  unfold d_p3
  walk_at "d"
  unfold logD heldD at k ⊢
  refine oEq_nob (n := 3) (by decide) (nob_log _) nob_nil log_nil ?_
  walk_at "d"
  by_cases hc : (stOf r cs).2.1 = []
  · rw [decide_eq_true hc]
    walk_at "d"
    refine ⟨by omega, by omega, ?_⟩
    rw [rep1, hl, show List.replicate r.ls.length PyData.none = (empt r).map entD by unfold empt; rw [List.map_replicate]; rfl]
    refine oEq_nob (n := 3) (by decide) (nob_held _) (nob_held _) held_rep ?_
    walk_at "d"
    rw [show decide ((stOf r cs).1 = empt r ∧ (stOf r cs).2.1 = []) = decide ((stOf r cs).1 = empt r) by simp [hc]] at k
    exact k
  · rw [decide_eq_false hc]
    rw [show decide ((stOf r cs).1 = empt r ∧ (stOf r cs).2.1 = []) = false by simp [hc]] at k
    exact k
end
section
variable {r : Row} {cs : List Cal} {tp : PyData}
def badD : List PyData := [.none, .tuple [], .tuple [.tuple [.int 0], .tuple [.int 0]], .tuple [.tuple [.int 1], .tuple []], .list [.tuple [.int 1], .tuple [.int 0]]]
theorem bad_any {x : PyData} (h : x ∈ badD) : Any 3 5 x := by
  simp only [badD, List.mem_cons, List.not_mem_nil, or_false] at h
  rcases h with rfl | rfl | rfl | rfl | rfl <;> simp [Any]
theorem bad_not {x : PyData} (h : x ∈ badD) : ¬ RowP x := by
  simp only [badD, List.mem_cons, List.not_mem_nil, or_false] at h
  rintro ⟨ls, ps, e, h8, h1, h2, h3, h4, h5⟩
  rcases h with rfl | rfl | rfl | rfl | rfl
  · cases e
  · cases e
  · injection e with e
    injection e with e1 e
    injection e1 with e1
    cases ls with
    | nil => cases e1
    | cons l ls =>
      rw [List.map_cons] at e1
      injection e1 with e2 e3
      injection e2 with e2
      have := (h1 l List.mem_cons_self).1
      omega
  · injection e with e
    injection e with e1 e
    injection e with e2 e
    injection e2 with e2
    have : ps = [] := List.map_eq_nil_iff.mp e2.symm
    rw [this] at h2
    simp at h2
  · cases e
theorem dat_end : d_end { nx := fun _ => False, rt := fun r _ => r = .fz (.bool true) } [none, some (.ow tp), some (.fz (rowD r)), none, some (.fz (calsD cs)), none, none, none, none, none, none, none, none, none, none, none, none, none] := by
  unfold d_end
  refine dSeq_by (fun ρ => ρ = [none, some (.ow tp), some (.fz (rowD r)), none, some (.fz (calsD cs)), none, none, none, none, none, none, none, none, none, none, none, some (.fz (.list badD)), none]) (fun W hW => ?_) fun ρ e => ?_
  · walk_at "d"
    exact hW _ rfl
  subst e
  walk_at "d"
  unfold dLc
  walk_at "e"
  refine ⟨rfl, by show 5 ≤ 100000; decide, ?_⟩
  refine lcLoop_map (fun _ => .str "row") (fun x hx V hV => ?_) ?_
  · have nr : ¬ RowP x := bad_not hx
    have nd := bad_any hx
    walk_at "d"
    refine ⟨rfl, x, 3, 5, rfl, nd, by decide, by decide, .inl ⟨nr, ?_⟩⟩
    walk_at "d"
    exact hV
  · show oEq (.list [.str "row", .str "row", .str "row", .str "row", .str "row"]) (.list [.str "row", .str "row", .str "row", .str "row", .str "row"]) _
    refine ⟨by decide +kernel, by decide +kernel, ?_⟩
    rw [show PyData.eqv (.list [.str "row", .str "row", .str "row", .str "row", .str "row"]) (.list [.str "row", .str "row", .str "row", .str "row", .str "row"]) = true by decide +kernel]
    walk_at "d"
    refine ⟨rfl, _, 3, 5, rfl, ?_, by decide, by decide, .inr ⟨⟨[], [0]⟩, rfl, ⟨by decide, by simp, by simp, by simp, by decide, by simp, by simp⟩, ?_⟩⟩
    · simp [Any]
    · walk_at "d"
      refine ⟨by decide +kernel, by decide +kernel, ?_⟩
      rw [show PyData.eqv (.str "made") (.str "made") = true by decide +kernel]
end
end St
set_option Elab.async false
set_option linter.all false
set_option maxRecDepth 100000
set_option maxHeartbeats 4000000
namespace St
open PySem L2 Dl
/-! the data reading unfolded as far as it goes -/
local macro_rules | `(tactic| walk_at "d") => `(tactic| simp (config := { decide := false }) only [dSeq, dAsg, dAsgO, dAppS, dApp, dSetS, dSet, dAug, dRet, dRetN, dDrop, dDPut, dDGet2, dDNewK, dDNewT, dIfS, dFor, dNext, dBreak, dCont, dOp1, dOp2, dTup, dLst, dCons, dNil, dC, dCB, dVar, dVarR, dIfE, dTest, dAnd, dOr, dNot, dAndV, dOrV, dNotV, dChain, dCall, dCallL, dCallIO, dIsi, dSl, dPart, dNoPart, dSeqI, dRng1, dRng2, dDGet2, dDNewK, dDNewT, dRng3, dEnum, dZip, stoAll, itemsD, Option.some.injEq, exists_eq_left', dYes, dIx0, dRetT, dgName, dgTup, dgCons, dgNil, oFdiv, oMod, oPow, oLt, oLe, oGt, oGe, cmpD,
  wipeD, restD, Option.getD_some, Option.getD_none, Int.zero_add, Int.toNat_natCast, isi_lt_lst, isi_lt_tup, isi_lt_non, isi_lt_bl, isi_lt_int, isi_lt_str, isi_int_non, isi_int_bl, isi_int_int, isi_int_str, isi_int_lst, isi_int_tup, isi_bl_non, isi_bl_bl, isi_bl_int, isi_bl_str, isi_bl_lst, isi_bl_tup, isi_tup_non, isi_tup_bl, isi_tup_int, isi_tup_str, isi_tup_lst, isi_tup_tup, oEq_int, oNe_int, oEq_bl, oNe_bl, eq_self, decide_true, ixN_31, ixN_32, atI_0, atI_1, atI_2, atI_3, oIx_tup, oIx_lst, oLen_tup, oLen_lst, oListOf_tup, oListOf_lst, oTupOf_tup, oTupOf_lst, oAdd_int, oAdd_tup, oAdd_lst, oMul_int, oMul_tup, oMul_lst, dI0_int, dI_int, oIs_non, oIs_bl, isN_non, isN_int, isN_tup, isN_lst, isN_bl, oNeg_int, oMin2_int, oMax2_int, oInt_int, oInt_bl, oSl_tup, oSl_lst, ends_fz, ends_nw, ends_np, ends_nx, ends_br, ends_fzi, ends_nwi, ends_bri, retD_br,
  List.getElem?_cons_zero, List.getElem?_cons_succ, List.set_cons_zero, List.set_cons_succ, List.length_cons, List.length_nil, List.length_map, List.map_cons, List.map_nil, List.length_append, dat_fz, dat_nw, dat_br, dat_np, sto_fz, sto_nw, sto_np, sto_br, stoAll, datAt, Sl.dat, Sl.own, Sl.with, ioSlot, stoBut, if_true, true_and, and_true, reduceCtorEq, Option.some.injEq, PyData.int.injEq, PyData.tuple.injEq, PyData.list.injEq, PyData.bool.injEq,  exists_eq_left', exists_eq_left, Bool.true_eq_false, Bool.false_eq_true, if_false, Bool.true_xor, Bool.false_xor, Bool.not_true, Bool.not_false,
  Nat.reduceAdd, Nat.reduceLeDiff, Nat.reduceEqDiff, Nat.reduceLT, Int.reduceNeg, Int.reduceLE, Int.reduceLT, Nat.zero_le, ne_eq, not_false_eq_true, List.cons_ne_nil, not_true_eq_false])
local macro_rules | `(tactic| walk_at "e") => `(tactic| simp (config := { decide := false }) only [dOp1, dOp2, dTup, dLst, dCons, dNil, dC, dCB, dVar, dVarR, dIfE, dTest, dAnd, dOr, dNot, dAndV, dOrV, dNotV, dChain, dCall, dCallL, dCallIO, dIsi, dSl, dPart, dNoPart, dSeqI, dRng1, dRng2, dDGet2, dDNewK, dDNewT, dRng3, dEnum, dZip, stoAll, itemsD, Option.some.injEq, exists_eq_left', dYes, dIx0, oFdiv, oMod, oPow, oLt, oLe, oGt, oGe, cmpD,
  wipeD, restD, Option.getD_some, Option.getD_none, Int.zero_add, Int.toNat_natCast, isi_lt_lst, isi_lt_tup, isi_lt_non, isi_lt_bl, isi_lt_int, isi_lt_str, isi_int_non, isi_int_bl, isi_int_int, isi_int_str, isi_int_lst, isi_int_tup, isi_bl_non, isi_bl_bl, isi_bl_int, isi_bl_str, isi_bl_lst, isi_bl_tup, isi_tup_non, isi_tup_bl, isi_tup_int, isi_tup_str, isi_tup_lst, isi_tup_tup, oEq_int, oNe_int, oEq_bl, oNe_bl, eq_self, decide_true, ixN_31, ixN_32, atI_0, atI_1, atI_2, atI_3, oIx_tup, oIx_lst, oLen_tup, oLen_lst, oListOf_tup, oListOf_lst, oTupOf_tup, oTupOf_lst, oAdd_int, oAdd_tup, oAdd_lst, oMul_int, oMul_tup, oMul_lst, dI0_int, dI_int, oIs_non, oIs_bl, isN_non, isN_int, isN_tup, isN_lst, isN_bl, oNeg_int, oMin2_int, oMax2_int, oInt_int, oInt_bl, oSl_tup, oSl_lst, ends_fz, ends_nw, ends_np, ends_nx, ends_br, ends_fzi, ends_nwi, ends_bri, retD_br,
  List.getElem?_cons_zero, List.getElem?_cons_succ, List.set_cons_zero, List.set_cons_succ, List.length_cons, List.length_nil, List.length_map, List.map_cons, List.map_nil, List.length_append, dat_fz, dat_nw, dat_br, dat_np, sto_fz, sto_nw, sto_np, sto_br, stoAll, datAt, Sl.dat, Sl.own, Sl.with, ioSlot, stoBut, if_true, true_and, and_true, reduceCtorEq, Option.some.injEq, PyData.int.injEq, PyData.tuple.injEq, PyData.list.injEq, PyData.bool.injEq,  exists_eq_left', exists_eq_left, Bool.true_eq_false, Bool.false_eq_true, if_false, Bool.true_xor, Bool.false_xor, Bool.not_true, Bool.not_false,
  Nat.reduceAdd, Nat.reduceLeDiff, Nat.reduceEqDiff, Nat.reduceLT, Int.reduceNeg, Int.reduceLE, Int.reduceLT, Nat.zero_le, ne_eq, not_false_eq_true, List.cons_ne_nil, not_true_eq_false])
/-! ### the statements that touch the station -/
theorem rel_setAny {H0 : Fx} {B : Av} {σ : L2.St} {H : Hp} {ρ : DEnv} {i : Nat} {x : Option V} (R : Rel H0 B σ H ρ) (h : ∀ s, ρ[i]? ≠ some (some s)) : Rel H0 B (σ.set i x) H ρ := by
  have ne : ∀ {j s}, ρ[j]? = some (some s) → (σ.set i x)[j]? = σ[j]? := fun {j s} e => List.getElem?_set_ne fun z => h s (by rw [z]; exact e)
  have eo : ∀ q, Ow (σ.set i x) ρ q → Ow σ ρ q := fun q ⟨j, s, a, b, c⟩ => ⟨j, s, a, b, (ne a).symm.trans c⟩
  have ps : Pass (Al B σ ρ) (Al B (σ.set i x) ρ) H H := ⟨fun a xs n e => ⟨fun q => n (q.elim .inl fun z => .inr (eo a z)), e⟩, fun _ _ e => e⟩
  refine ⟨by rw [List.length_set]; exact R.len, fun j d e => ?_, fun j s e o => ?_, fun j d p e e' => R.mine j d p e ((ne e).symm.trans e'), fun j l s t p a b c d e f => R.ne j l s t p a b c d ((ne a).symm.trans e) ((ne c).symm.trans f), R.dom, fun j d e => (ne e).trans (R.ioa j d e), R.bdom⟩
  · obtain ⟨v, h1, h2⟩ := R.fz j d e
    exact ⟨v, (ne e).trans h1, Rp.pass ps _ _ h2⟩
  · obtain ⟨p, h1, h2⟩ := R.own j s e o
    exact ⟨p, (ne e).trans h1, h2.pass ps rfl⟩
/-- two new addresses to be avoided, the entry forgotten -/
theorem rel_toBP {H0 : Fx} {σ : L2.St} {H H' : Hp} {ρ : DEnv} {p q : Addr} (R : Rel H0 (fun _ => False) σ H ρ) (n : noIo ρ = true) (g : Grow H H') (hp : H p = none) (hq : H q = none) (hp' : H' p ≠ none) (hq' : H' q ≠ none) : Rel HN (BP p q) σ H' ρ := by
  have ps : Pass (Al (fun _ => False) σ ρ) (Al (BP p q) σ ρ) H H' := g.pass fun a z => by
    rcases z with (z | z) | z
    · exact .inr (z ▸ hp)
    · exact .inr (z ▸ hq)
    · exact .inl (.inr z)
  refine ⟨R.len, fun i d e => let ⟨v, h1, h2⟩ := R.fz i d e; ⟨v, h1, Rp.pass ps _ _ h2⟩, fun i s e o => ?_, fun i d b e e' => ⟨rfl, fun z => ?_⟩, R.ne, fun _ _ => rfl, fun i d e => (noIo_at n e).elim, fun b hb => ?_⟩
  · obtain ⟨a, h1, h2⟩ := R.own i s e o
    obtain ⟨ob, eo, _⟩ := h2.some
    exact ⟨a, h1, h2.pass ps ((g.keep a _ eo).trans eo.symm)⟩
  · obtain ⟨a, h1, h2⟩ := R.own i _ e rfl
    rw [e'] at h1
    cases h1
    obtain ⟨ob, eo, _⟩ := h2.some
    rcases z with rfl | rfl
    · rw [hp] at eo; cases eo
    · rw [hq] at eo; cases eo
  · rcases hb with rfl | rfl
    · exact hp'
    · exact hq'
section
variable {K : PySem.W.Frag} {C Cr : Addr} {p q : Addr} {r : Row} {cs : List Cal} {σ : L2.St} {H : Hp} {ρ : DEnv} {D : Ends} {tp : PyData}
theorem SF.at {C : Addr} {H : Hp} {p q : Addr} {r : Row} {cs : List Cal} (S : SF C H p q r cs) : ∃ dx vr st xs, H p = some (.ins C dx (fl vr st q)) ∧ H q = some (.lst xs) := by
  obtain ⟨dx, vr, st, xs, h1, h2, h3, h4, h5⟩ := S.ex
  exact ⟨dx, vr, st, xs, h1, h4⟩
theorem LS.forget (L : LS C p q r cs σ H ρ) {ρ' : DEnv} (h : SubE ρ' ρ) (n : noIo ρ' = true) : LS C p q r cs σ H ρ' := ⟨Rel.forget L.rel h, L.st, L.sf, L.rc, n⟩
theorem LS.set (L : LS C p q r cs σ H ρ) {i : Nat} {v : V} {d : PyData} (hi : i ≠ 3) (rv : Rp (Al (BP p q) σ ρ) H v d) (n : noIo (ρ.set i (some (.fz d))) = true) : LS C p q r cs (σ.set i (some v)) H (ρ.set i (some (.fz d))) :=
  ⟨(L.rel.setFz rv).1, by rw [List.getElem?_set_ne hi]; exact L.st, L.sf, L.rc, n⟩
theorem LS.any (L : LS C p q r cs σ H ρ) {i : Nat} {v : Option V} (hi : i ≠ 3) (h : ∀ s, ρ[i]? ≠ some (some s)) : LS C p q r cs (σ.set i v) H ρ :=
  ⟨rel_setAny L.rel h, by rw [List.getElem?_set_ne hi]; exact L.st, L.sf, L.rc, L.nio⟩
theorem LS.int (L : LS C p q r cs σ H ρ) {i : Nat} {n : Int} (h : ρ[i]? = some (some (.fz (.int n)))) : σ[i]? = some (some (.int n)) := by
  obtain ⟨v, h1, h2⟩ := L.rel.fz i _ h
  cases h2
  exact h1
/-- the call -/
theorem w_call {w : Int} {dt di : PyData} (At : ArgD dt) (Ai : ArgD di) (hf : cs.length < 100) (L : LS C p q r cs σ H [none, some (.ow tp), some (.fz (rowD r)), none, some (.fz (calsD cs)), none, some (.fz (heldD r cs)), some (.fz (logD r cs)), some (.fz (.int (lastT cs))), some (.fz (.int w)), some (.fz (.int (bnd r w))), some (.fz dt), some (.fz di), none, none, none, none, none])
    (k : ∀ σ' H' cs' d, Out r cs w dt di cs' d → LS C p q r cs' σ' H' (ρ1 tp r cs cs w dt di d none) → D.nx σ' H') : t_r0 K C Cr D σ H := by
  obtain ⟨vt, ht, rt⟩ := L.rel.fz 11 dt rfl
  obtain ⟨vi, hi, ri⟩ := L.rel.fz 12 di rfl
  refine ⟨_, L.st, _, L.int (i := 9) rfl, vt, ht, vi, hi, ?_⟩
  show sp_call C [.ref p, .int w, vt, vi] H _ E0
  refine ⟨p, q, r, cs, w, vt, vi, dt, di, 1, 1, rfl, L.sf, L.rc, rpTop _ _ rt At.nl, rpTop _ _ ri Ai.nl, At.any, Ai.any, fun H' cs' v d O S F rv => ?_⟩
  obtain ⟨dx, vr, st, xs, h1, h2⟩ := S.at
  have R := Rel.frS L.rel L.nio F (by rw [h1]; exact fun z => nomatch z) (by rw [h2]; exact fun z => nomatch z)
  exact k _ H' cs' d O (LS.set (i := 13) ⟨R, L.st, S, O.rc L.rc hf, L.nio⟩ (by decide) (rpTf rv .refl) rfl)
theorem likes_held (es : List Ent) (h : es.length ≤ 1000) : LikesS 4 (.list (es.map entD)) := by
  refine ⟨by rw [List.length_map]; exact h, fun x hx => ?_⟩
  obtain ⟨e, _, rfl⟩ := List.mem_map.mp hx
  cases e with
  | none => simp [entD, LikesS]
  | some y => simp [entD, LikesS]
theorem likes_log (es : List (Int × Int × Int)) (h : es.length ≤ 1000) : LikesS 4 (.list (es.map rdD)) := by
  refine ⟨by rw [List.length_map]; exact h, fun x hx => ?_⟩
  obtain ⟨e, _, rfl⟩ := List.mem_map.mp hx
  simp [rdD, LikesS]
/-- like(a new list, what slot i holds) -/
theorem w_like {i : Nat} {ds : List PyData} {l : Addr} {xs : List V} {Q : VK} (L : LS C p q r cs σ H ρ) (hl : H l = none) (hx : RpAll AllA H xs ds) (h : ρ[i]? = some (some (.fz (.list ds)))) (lk : LikesS 4 (.list ds)) (k : ∀ H', Grow H H' → Q (.bl true) H') :
    tCons (tVar i) tNil σ (upd H l (.lst xs)) fun vs H2 => spD (ct_like2 4) ((.ref l :: vs) ++ []) H2 Q E0 := by
  obtain ⟨v, h1, h2⟩ := L.rel.fz i _ h
  have g := Grow.new (o := .lst xs) hl
  refine ⟨v, h1, ?_⟩
  show spD (ct_like2 4) [.ref l, v] (upd H l (.lst xs)) Q E0
  refine raw_callA (A := Al (BP p q) σ ρ) (ds := [.list ds, .list ds]) rfl (L.grow g).rel.adom rfl (.cons (.lst (fun z => L.rel.adom l z hl) upd_same (rpTfA hx (TF.new hl))) (.cons (Rp.pass (g.pass fun _ z => .inl z) _ _ h2) .nil)) ⟨_, rfl, lk, _, rfl, rfl, fun v H' g' rv => ?_⟩
  cases rv
  exact k H' (g.trans g')
def ρ2 (tp : PyData) (r : Row) (cs : List Cal) (f : Option Sl) : DEnv := [none, some (.ow tp), some (.fz (rowD r)), none, some (.fz (calsD cs)), none, some (.fz (heldD r cs)), some (.fz (logD r cs)), none, none, none, none, none, none, none, f, none, none]
theorem w_likes (L : LS C p q r cs σ H (ρ2 tp r cs none)) (k : ∀ H', LS C p q r cs σ H' (ρ2 tp r cs none) → D.nx σ H') : t_r1 K C Cr D σ H := by
  obtain ⟨dx, vr, st, xs, h1, h2⟩ := L.sf.at
  have hl := stOf_len r cs
  have hg := stOf_log r cs
  have hf := L.rc.few
  have h8 := L.rc.rin.ls
  refine ⟨_, L.st, p, dx, _, rfl, h1, fl_no (by decide +kernel) (by decide +kernel) (by decide +kernel), p, q, r, cs, rfl, L.sf, fun l xs hl0 rx => ?_⟩
  refine w_like L hl0 rx (i := 6) rfl (likes_held _ (by omega)) fun H1 g1 => ⟨true, rfl, ?_⟩
  have L1 := L.grow g1
  have h1' := g1.keep p _ h1
  refine ⟨_, L.st, p, dx, _, rfl, h1', fl_no (by decide +kernel) (by decide +kernel) (by decide +kernel), p, q, r, cs, rfl, L1.sf, fun l xs hl0 rx => ?_⟩
  refine w_like L1 hl0 rx (i := 7) rfl (likes_log _ (by omega)) fun H2 g2 => ⟨true, rfl, ?_⟩
  exact k H2 (L1.grow g2)
theorem w_len (L : LS C p q r cs σ H (ρ2 tp r cs none)) (k : D.nx σ H) : t_r2 K C Cr D σ H := by
  obtain ⟨dx, vr, st, xs, h1, h2⟩ := L.sf.at
  have hg := stOf_log r cs
  have hf := L.rc.few
  obtain ⟨v, e1, e2⟩ := L.rel.fz 7 (logD r cs) rfl
  cases e2 with
  | @lst a ys _ na ea ra =>
  have hy : ys.length = (stOf r cs).2.1.length := by rw [ra.len, List.length_map]
  refine ⟨_, L.st, p, dx, _, rfl, h1, p, q, r, cs, rfl, L.sf, _, rfl, by omega, _, e1, a, ys, rfl, .inl (SqL.of ea), .int _, .int _, .int _, .int _, rfl, rfl, false, ?_, k⟩
  rw [hy]
  simp [PyData.eqv]
end
section
variable {K : PySem.W.Frag} {C Cr : Addr} {p q : Addr} {r : Row} {cs : List Cal} {σ : L2.St} {H : Hp} {ρ : DEnv} {D : Ends} {tp : PyData}
/-- a station of the row is made -/
theorem w_make {v : V} {Q : VK} (hv : Rp AllA H v (rowD r)) (R : RowIn 8 1000 5 r) (k : ∀ y q2 H', H y = none → H q2 = none → Grow H H' → SF C H' y q2 r [] → Q (.ref y) H') {te : TE} (ht : ∀ Q : VK, Q v H → te σ H Q) :
    L2W.tMakeE C (sp_init C Cr) (fun _ => E0) (tCons te tNil) σ H Q := by
  refine ht _ (fun y dx hy hdx ndx => ?_)
  have g1 : Grow H (upd (upd H dx (.own y)) y (.ins C dx [])) := (Grow.new hdx).trans (.new (by rw [upd_ne ndx.symm]; exact hy))
  exact ⟨y, dx, v, rowD r, fun b => upd (upd H dx (.own y)) y (.ins C dx []) b ≠ none, rfl, upd_same, fun _ h => h, rpTf hv (TF.grow g1), .inl ⟨r, rfl, R, fun H' q2 hq S F => ⟨rfl, k y q2 H' hy (g1.dom q2 hq) ⟨fun b o e => F.keep b o (g1.keep b o e) (ne_of_none e hy) (ne_of_none (g1.keep b o e) hq)⟩ S⟩⟩⟩
theorem w_eq (L : LS C p q r cs σ H (ρ2 tp r cs (some (.fz (.bool (freshB r cs)))))) (k : ∀ H', LS C p q r cs σ H' (ρ2 tp r cs (some (.fz (.bool (freshB r cs))))) → D.nx σ H') : t_r3 K C Cr D σ H := by
  obtain ⟨dx, vr, st, xs, h1, h2⟩ := L.sf.at
  have ins : ∃ dx fs, H p = some (.ins C dx fs) := ⟨_, _, h1⟩
  refine ⟨_, L.st, _, L.st, p, dx, _, rfl, rfl, h1, p, q, p, r, cs, rfl, L.sf, L.rc, .inl ⟨q, cs, L.sf, L.rc, fun H1 g1 => ⟨true, by rw [decide_eq_true ⟨rfl, rfl⟩], false, rfl, ?_⟩⟩⟩
  dsimp only
  rw [if_neg Bool.false_ne_true]
  have L1 := L.grow g1
  obtain ⟨v, e1, e2⟩ := L1.rel.fz 2 (rowD r) rfl
  have e3 := rpTop _ _ e2 (noL_row r)
  obtain ⟨b, ys, rfl, hb, _⟩ := rpTup e2
  have h1' := g1.keep p _ h1
  refine ⟨_, L1.st, _, e1, p, dx, _, b, rfl, rfl, h1', .inr ⟨ys, hb⟩, p, q, b, r, cs, rfl, L1.sf, L1.rc, .inr ⟨ys, hb, false, rfl, false, rfl, ?_⟩⟩
  dsimp only
  rw [if_neg Bool.false_ne_true]
  refine ⟨_, L1.st, w_make (v := .ref b) e3 L1.rc.rin (fun y q2 H2 hy hq g2 S2 => ?_) fun Q z => ⟨_, e1, z⟩⟩
  have L2 := L1.grow g2
  have h1'' := g2.keep p _ h1'
  obtain ⟨dy, vy, sy, xy, h3, h4⟩ := S2.at
  refine ⟨p, dx, _, y, rfl, rfl, h1'', .inl ⟨dy, _, h3⟩, p, q, y, r, cs, rfl, L2.sf, L2.rc, .inl ⟨q2, [], S2, ⟨L2.rc.rin, fun _ h => (nomatch h), Nat.zero_le _⟩, fun H3 g3 => ⟨_, rfl, ?_⟩⟩⟩
  have L3 := L2.grow g3
  obtain ⟨vf, f1, f2⟩ := L3.rel.fz 15 _ rfl
  cases f2
  refine ⟨_, f1, .bool _, .bool _, .bl _, .bl _, rfl, rfl, false, ?_, k H3 L3⟩
  rw [show decide ((stOf r cs).1 = (stOf r []).1 ∧ (stOf r cs).2.1 = (stOf r []).2.1) = freshB r cs from rfl]
  simp [PyData.eqv]
end
section
variable {K : PySem.W.Frag} {C Cr : Addr} {p q : Addr} {r : Row} {cs : List Cal} {σ : L2.St} {H : Hp} {D : Ends} {tp : PyData}
def ρ0 (tp : PyData) (r : Row) (cs : List Cal) : DEnv := [none, some (.ow tp), some (.fz (rowD r)), none, some (.fz (calsD cs)), none, none, none, none, none, none, none, none, none, none, none, none, none]
theorem raw_turn (T : TapeOk tp) (hf : cs.length < 99) (L : LS C p q r cs σ H (ρ0 tp r cs)) (k : ∀ σ' H' cs' tp', TapeOk tp' → cs'.length ≤ cs.length + 1 → LS C p q r cs' σ' H' (ρ0 tp' r cs') → D.nx σ' H') : t_turn K C Cr D σ H := by
  rw [t_turn_eq]
  have G := L.rc
  refine LS.pure (N := fun ρ => ∃ tp' w dt di, TapeOk tp' ∧ w < 4 ∧ ArgD dt ∧ ArgD di ∧ ρ = [none, some (.ow tp'), some (.fz (rowD r)), none, some (.fz (calsD cs)), none, some (.fz (heldD r cs)), some (.fz (logD r cs)), some (.fz (.int (lastT cs))), some (.fz (.int w)), some (.fz (.int (bnd r w))), some (.fz dt), some (.fz di), none, none, none, none, none]) sim_p0 L (dat_p0 T G fun tp' w dt di T' w0 w1 At Ai => ⟨rfl, tp', w, dt, di, T', w1, At, Ai, rfl⟩) ?_
  rintro σ1 H1 _ L1 ⟨tp1, w, dt, di, T1, w1, At, Ai, rfl⟩
  refine w_call (K := K) (Cr := Cr) At Ai (by omega) L1 fun σ2 H2 cs' d O L2 => ?_
  have hl := O.len
  refine LS.pure (N := fun ρ => ρ = ρ1 tp1 r cs cs' w dt di d (some (.fz d))) sim_p1 L2 (dat_p1 G (by omega) w1 At Ai O ⟨rfl, rfl⟩) ?_
  rintro σ3 H3 _ L3 rfl
  have L3' : LS C p q r cs' σ3 H3 (ρ0 tp1 r cs') := L3.forget (by unfold ρ0 ρ1; repeat' (first | exact trivial | refine ⟨.inl rfl, ?_⟩ | refine ⟨.inr ⟨rfl, fun s e => by cases e; rfl⟩, ?_⟩)) rfl
  refine LS.pure (N := fun ρ => ρ = ρ2 tp1 r cs' none) sim_p2 L3' (dat_p2 L3.rc ⟨rfl, rfl⟩) ?_
  rintro σ4 H4 _ L4 rfl
  refine w_likes (K := K) (Cr := Cr) L4 fun H5 L5 => w_len (K := K) (Cr := Cr) L5 ?_
  refine LS.pure (N := fun ρ => ρ = ρ2 tp1 r cs' (some (.fz (.bool (freshB r cs'))))) sim_p3 L5 (dat_p3 L3.rc ⟨rfl, rfl⟩) ?_
  rintro σ6 H6 _ L6 rfl
  exact w_eq L6 fun H7 L7 => k σ6 H7 cs' tp1 T1 hl (L7.forget (by unfold ρ0 ρ2; repeat' (first | exact trivial | refine ⟨.inl rfl, ?_⟩ | refine ⟨.inr ⟨rfl, fun s e => by cases e; rfl⟩, ?_⟩)) rfl)
end
section
variable {K : PySem.W.Frag} {C Cr : Addr} {Q : VK}
theorem dat_q0 {tp : PyData} {N : DEnv → Prop} (T : TapeOk tp) (k : ∀ tp' r, TapeOk tp' → RowIn 6 9 4 r → N [none, some (.ow tp'), some (.fz (rowD r)), none, none, none, none, none, none, none, none, none, none, none, none, none, none, none]) :
    d_q0 { nx := N, rt := fun _ _ => False } [none, some (.ow tp), none, none, none, none, none, none, none, none, none, none, none, none, none, none, none, none] := by
  unfold d_q0
  walk_at "d"
  refine ⟨rfl, tp, 6, 9, 4, rfl, T, by decide, by decide, by decide, by decide, by decide, by decide, fun r tp' R T' => ?_⟩
  walk_at "d"
  exact k tp' r T' R
theorem raw_law17 {σ : L2.St} {H : Hp} {tp : PyData} {H0 : Fx} (R0 : Rel H0 (fun _ => False) σ H [none, some (.ow tp), none, none, none, none, none, none, none, none, none, none, none, none, none, none, none, none]) (h3 : σ[3]? = some none) (T : TapeOk tp) (qq : ∀ H', Q (.bl true) H') :
    t_law17 K C Cr { nx := fun _ H' => Q .non H', rt := Q } σ H := by
  unfold t_law17
  refine sim_q0 H0 _ σ H _ _ (fun ρ => ∃ tp' r, TapeOk tp' ∧ RowIn 6 9 4 r ∧ ρ = [none, some (.ow tp'), some (.fz (rowD r)), none, none, none, none, none, none, none, none, none, none, none, none, none, none, none]) _ R0 h3 (dat_q0 T fun tp' r T' R => ⟨tp', r, T', R, rfl⟩) ?_
  rintro σ1 H1 _ R1 S1 x1 ⟨tp1, r, T1, R, rfl⟩
  have R' : RowIn 8 1000 5 r := ⟨by have := R.ls; omega, R.lo, fun x hx => by have := R.hi x hx; omega, R.p0, by have := R.p1; omega, R.inn, R.up⟩
  obtain ⟨v, e1, e2⟩ := R1.fz 2 (rowD r) rfl
  show t_q1 K C Cr _ σ1 H1
  unfold t_q1
  show L2W.tMakeE C (sp_init C Cr) (fun _ => E0) (tCons (tVar 2) tNil) σ1 H1 (fun x G => tLst tNil σ1 G fun y G2 => ∃ v w, [x, y] = [v, w] ∧ tSeq (tFor (iRng1 (tCons (tC (.int 40)) tNil)) (gName 5) (t_turn K C Cr)) (t_end K) { nx := fun _ H' => Q .non H', rt := Q } ((σ1.set 3 (some v)).set 4 (some w)) G2)
  refine w_make (rpTop _ _ e2 (noL_row r)) R' (fun y q H2 hy hq g2 S2 => ?_) fun Q z => ⟨_, e1, z⟩
  refine ⟨by show 0 ≤ sizeLine; decide, fun l hl => ⟨_, _, rfl, ?_⟩⟩
  obtain ⟨dy, vy, sy, xy, h1, h2⟩ := S2.at
  have R2 := rel_toBP R1 rfl g2 hy hq (by rw [h1]; exact fun z => nomatch z) (by rw [h2]; exact fun z => nomatch z)
  have len : σ1.length = 18 := R2.len
  have g3 := Grow.new (o := .lst []) hl
  have R2' : Rel HN (BP y q) (σ1.set 3 (some (.ref y))) H2 _ := rel_setAny R2 (i := 3) (x := some (.ref y)) fun s e => (nomatch e)
  have L0 : LS C y q r [] (σ1.set 3 (some (.ref y))) (upd H2 l (.lst [])) [none, some (.ow tp1), some (.fz (rowD r)), none, none, none, none, none, none, none, none, none, none, none, none, none, none, none] :=
    ⟨R2'.grow g3, by rw [List.getElem?_set_self (by omega)], SF.grow S2 g3, ⟨R', fun _ h => (nomatch h), Nat.zero_le _⟩, rfl⟩
  have L1 : LS C y q r [] ((σ1.set 3 (some (.ref y))).set 4 (some (.ref l))) (upd H2 l (.lst [])) (ρ0 tp1 r []) := L0.set (i := 4) (d := .list []) (by decide) (.lst (fun z => R2'.adom l z hl) upd_same .nil) rfl
  refine ⟨40, rfl, by decide, by decide, for_range (n := 40) (fun i σ H => ∃ cs tp, TapeOk tp ∧ cs.length ≤ i ∧ LS C y q r cs σ H (ρ0 tp r cs)) ⟨[], tp1, T1, Nat.le_refl _, L1⟩ ?_ ?_⟩
  · rintro i σ H hi ⟨cs, tp, T, hn, L⟩
    show t_turn K C Cr _ (σ.set 5 _) H
    exact raw_turn T (by omega) (L.any (by decide) fun s e => (nomatch e)) fun σ' H' cs' tp' T' h' L' => ⟨cs', tp', T', by omega, L'⟩
  · rintro σ H ⟨cs, tp, T, hn, L⟩
    refine sim_end HN (BP y q) σ H (ρ0 tp r cs) _ { nx := fun _ => False, rt := fun r _ => r = .fz (.bool true) } L.rel dat_end ⟨fun _ _ _ _ _ z => z.elim, fun _ _ _ _ _ z => z.elim, fun _ _ _ _ _ z => z.elim, fun r ρ' v σ' H' _ _ o e => ?_⟩
    subst e
    cases (show Rp _ H' v (.bool true) from o)
    exact qq H'
end
theorem pass0N {X : Cx} : ∀ σ : L2.St, PassesAt (L2N.CX X.prog X.w) X σ E0 := fun _ _ _ _ _ _ _ ⟨_, _, _, _, _, _, _, _, _, _, _, _, z⟩ => z.elim
theorem rel_head {H : Hp} {U l a : Addr} {ns : List Int} (h : H U = some (.lst [.ref l, .int 0, .int 0])) (hl : H l = some (.lst (ns.map V.int))) (ne : l ≠ U) :
    Rel HN (fun _ => False) [some (.ref a), some (.ref U), none, none, none, none, none, none, none, none, none, none, none, none, none, none, none, none] H [none, some (.ow (tapeD ns 0 0)), none, none, none, none, none, none, none, none, none, none, none, none, none, none, none, none] := by
  have one : ∀ {i : Nat} {s : Sl}, ([none, some (.ow (tapeD ns 0 0)), none, none, none, none, none, none, none, none, none, none, none, none, none, none, none, none] : DEnv)[i]? = some (some s) → i = 1 ∧ s = .ow (tapeD ns 0 0) := fun {i s} h => by
    match i, h with
    | 0, h => cases h
    | 1, h => cases h; exact ⟨rfl, rfl⟩
    | i + 2, h =>
      rw [List.getElem?_cons_succ, List.getElem?_cons_succ] at h
      exact absurd h (by
        intro h
        have := List.mem_of_getElem? h
        simp at this)
  have ow : ∀ p, Al (fun _ => False) [some (.ref a), some (.ref U), none, none, none, none, none, none, none, none, none, none, none, none, none, none, none, none] [none, some (.ow (tapeD ns 0 0)), none, none, none, none, none, none, none, none, none, none, none, none, none, none, none, none] p → p = U := fun p z => by
    rcases z with z | ⟨i, s, x1, x2, x3⟩
    · exact z.elim
    · obtain ⟨rfl, _⟩ := one x1
      cases x3
      rfl
  refine ⟨rfl, fun i d e => ?_, fun i s e o => ?_, fun i d p e e' => ⟨rfl, fun z => z.elim⟩, fun i j s t p a1 a2 b1 b2 c d => ?_, fun _ _ => rfl, fun i d e => ?_, fun b z => z.elim⟩
  · cases (one e).2
  · obtain ⟨rfl, rfl⟩ := one e
    exact ⟨U, rfl, _, h, .cons (.lst (fun z => ne (ow l z)) hl (RpAll.ofInts ns)) (.cons (.int 0) (.cons (.int 0) .nil))⟩
  · rw [(one a1).1, (one b1).1]
  · cases (one e).2
theorem isC_of {K : PySem.W.Frag} {C : Addr} (hd : PySem.W.hasDictIn K C = true) (ha : PySem.W.findIn K (.ref C) "__class__" = some (some (.builtin "object.__class__"))) (hn : PySem.W.specialIn K (.builtin "object.__class__") "__get__" = some (some (.builtin "getset_descriptor.__get__")))
    (ht : PySem.W.takesIn K (.builtin "object.__class__") = some true) (hm : PySem.W.mroIn K C (.type "object") = some true) (tC : PySem.W.typeIn K (.ref C) = some (.type "type")) (sT : PySem.W.subIn K (.type "tuple") (.ref C) = some false) : IsC K C := by
  refine ⟨ha, hn, ht, hm, ?_, ?_⟩
  · unfold PySem.W.kitOne
    rw [if_pos (beq_self_eq_true _)]
  · obtain ⟨cd, hc, _⟩ := PySem.W.any_some hd
    have e2 : ((PySem.W.clsIn K C).isSome && PySem.W.typeIn K (.ref C) == some (.type "type")) = true := by rw [hc, tC] <;> rfl
    unfold PySem.W.kitOne
    rw [if_neg (by simp)]
    show (if ((PySem.W.clsIn K C).isSome && PySem.W.typeIn K (.ref C) == some (.type "type")) = true then PySem.W.subIn K (.type "tuple") (.ref C) else none) = some false
    rw [if_pos e2]
    exact sT
theorem raw_top {K : PySem.W.Frag} {C Cr : Addr} {Q : VK} {H : Hp} {a : Addr} {ns : List Int} (hS : SqL K H a (ns.map V.int)) (hl : ns.length ≤ 63) (q : ∀ H', Q (.bl true) H') :
    tSeq (tHead K) (t_law17 K C Cr) { nx := fun _ H' => Q .non H', rt := Q } [some (.ref a), none, none, none, none, none, none, none, none, none, none, none, none, none, none, none, none, none] H := by
  refine ⟨.ref a, rfl, a, _, rfl, .inl hS, fun l hl0 => ?_⟩
  refine ⟨(by show 3 ≤ sizeLine; decide), fun U hU => ?_⟩
  have elU : l ≠ U := fun z => by
    rw [← z, upd_same] at hU
    cases hU
  exact raw_law17 (rel_head (a := a) upd_same (by rw [upd_ne elU, upd_same]) elU) rfl ⟨ns, 0, 0, rfl, by decide, by decide, hl⟩ q
theorem roomS {k : Nat} {A : Around} {x : Option Value} (r : Room k A) : L2H.RoomH k (A.mark x) := ⟨r.dp, r.un⟩
end St
namespace St
open PySem L2 Dl
def topS (i : Nat) : Stmt := PySem.Challenge.pw_staletiers_k17_station_call_by_call.main.body.getD i (.Pass ⟨0, 0, 0, 0⟩)
abbrev s_is_integer : Stmt := topS 15
theorem sc_is_integer : FnScope ["value", "low", "high"] ["value", "low", "high"] (defScope s_is_integer) := ⟨rfl, rfl, rfl, by decide +kernel, rfl, by decide +kernel, by decide +kernel⟩
abbrev s_is_row : Stmt := topS 16
theorem sc_is_row : FnScope ["value", "lifetimes", "positions", "lifetime", "position", "one", "two"] ["value"] (defScope s_is_row) := ⟨rfl, rfl, rfl, by decide +kernel, rfl, by decide +kernel, by decide +kernel⟩
abbrev s_empty : Stmt := topS 9
theorem sc_empty : FnScope ["row"] ["row"] (defScope s_empty) := ⟨rfl, rfl, rfl, by decide +kernel, rfl, by decide +kernel, by decide +kernel⟩
abbrev s_read : Stmt := topS 7
theorem sc_read : FnScope ["row", "entries", "time", "client", "lifetimes", "positions", "source", "answer", "stored"] ["row", "entries", "time", "client"] (defScope s_read) := ⟨rfl, rfl, rfl, by decide +kernel, rfl, by decide +kernel, by decide +kernel⟩
abbrev s_ask : Stmt := topS 25
theorem sc_ask : FnScope ["row", "held", "time", "index", "told"] ["row", "held", "time", "index"] (defScope s_ask) := ⟨rfl, rfl, rfl, by decide +kernel, rfl, by decide +kernel, by decide +kernel⟩
abbrev s_now : Stmt := topS 29
theorem sc_now : FnScope ["row", "calls", "held", "log", "way", "time", "index"] ["row", "calls"] (defScope s_now) := ⟨rfl, rfl, rfl, by decide +kernel, rfl, by decide +kernel, by decide +kernel⟩
abbrev s_draw : Stmt := topS 20
theorem sc_draw : FnScope ["tape", "many", "prime", "cell", "found"] ["tape", "many"] (defScope s_draw) := ⟨rfl, rfl, rfl, by decide +kernel, rfl, by decide +kernel, by decide +kernel⟩
abbrev s_whole : Stmt := topS 21
theorem sc_whole : FnScope ["item"] ["item"] (defScope s_whole) := ⟨rfl, rfl, rfl, by decide +kernel, rfl, by decide +kernel, by decide +kernel⟩
abbrev s_within : Stmt := topS 22
theorem sc_within : FnScope ["item", "low", "high"] ["item", "low", "high"] (defScope s_within) := ⟨rfl, rfl, rfl, by decide +kernel, rfl, by decide +kernel, by decide +kernel⟩
abbrev s_like2 : Stmt := topS 23
theorem sc_like2 : FnScope ["one", "two", "k"] ["one", "two"] (defScope s_like2) := ⟨rfl, rfl, rfl, by decide +kernel, rfl, by decide +kernel, by decide +kernel⟩
abbrev s_row : Stmt := topS 24
theorem sc_row : FnScope ["tape", "caches", "longest", "clients", "wide", "lifetimes", "positions", "k"] ["tape", "caches", "longest", "clients"] (defScope s_row) := ⟨rfl, rfl, rfl, by decide +kernel, rfl, by decide +kernel, by decide +kernel⟩
abbrev s_st_init : Stmt := inClass (topS 18) 0
theorem sc_st_init : FnScope ["self", "row"] ["self", "row"] (defScope s_st_init) := ⟨rfl, rfl, rfl, by decide +kernel, rfl, by decide +kernel, by decide +kernel⟩
abbrev s_st_change : Stmt := inClass (topS 18) 1
theorem sc_st_change : FnScope ["self", "entries", "reads", "time"] ["self", "entries", "reads", "time"] (defScope s_st_change) := ⟨rfl, rfl, rfl, by decide +kernel, rfl, by decide +kernel, by decide +kernel⟩
abbrev s_st_read : Stmt := inClass (topS 18) 2
theorem sc_st_read : FnScope ["self", "time", "client", "entries", "reads", "now", "answer", "source"] ["self", "time", "client"] (defScope s_st_read) := ⟨rfl, rfl, rfl, by decide +kernel, rfl, by decide +kernel, by decide +kernel⟩
abbrev s_st_purge : Stmt := inClass (topS 18) 3
theorem sc_st_purge : FnScope ["self", "time", "cache", "entries", "reads", "now"] ["self", "time", "cache"] (defScope s_st_purge) := ⟨rfl, rfl, rfl, by decide +kernel, rfl, by decide +kernel, by decide +kernel⟩
abbrev s_st_undo : Stmt := inClass (topS 18) 4
theorem sc_st_undo : FnScope ["self"] ["self"] (defScope s_st_undo) := ⟨rfl, rfl, rfl, by decide +kernel, rfl, by decide +kernel, by decide +kernel⟩
abbrev s_st_entries : Stmt := inClass (topS 18) 5
theorem sc_st_entries : FnScope ["self"] ["self"] (defScope s_st_entries) := ⟨rfl, rfl, rfl, by decide +kernel, rfl, by decide +kernel, by decide +kernel⟩
abbrev s_st_log : Stmt := inClass (topS 18) 6
theorem sc_st_log : FnScope ["self"] ["self"] (defScope s_st_log) := ⟨rfl, rfl, rfl, by decide +kernel, rfl, by decide +kernel, by decide +kernel⟩
abbrev s_st_len : Stmt := inClass (topS 18) 7
theorem sc_st_len : FnScope ["self"] ["self"] (defScope s_st_len) := ⟨rfl, rfl, rfl, by decide +kernel, rfl, by decide +kernel, by decide +kernel⟩
abbrev s_st_eq : Stmt := inClass (topS 18) 8
theorem sc_st_eq : FnScope ["self", "other"] ["self", "other"] (defScope s_st_eq) := ⟨rfl, rfl, rfl, by decide +kernel, rfl, by decide +kernel, by decide +kernel⟩
abbrev s_word : Stmt := topS 26
theorem sc_word : FnScope ["e", "some", "word", "good"] ["e"] (defScope s_word) := ⟨rfl, rfl, rfl, by decide +kernel, rfl, by decide +kernel, by decide +kernel⟩
abbrev s_call : Stmt := topS 27
theorem sc_call : FnScope ["station", "way", "time", "index", "e"] ["station", "way", "time", "index"] (defScope s_call) := ⟨rfl, rfl, rfl, by decide +kernel, rfl, by decide +kernel, by decide +kernel⟩
abbrev s_made : Stmt := topS 28
theorem sc_made : FnScope ["item", "e"] ["item"] (defScope s_made) := ⟨rfl, rfl, rfl, by decide +kernel, rfl, by decide +kernel, by decide +kernel⟩
abbrev s_law : Stmt := topS 30
theorem sc_law : FnScope ["script", "tape", "row", "station", "calls", "turn", "held", "log", "now", "way", "bound", "time", "index", "told", "due", "fresh", "bad", "item"] ["script"] (defScope s_law) := ⟨rfl, rfl, rfl, by decide +kernel, rfl, by decide +kernel, by decide +kernel⟩
section
variable {P : Program} {w : World} {K : PySem.W.Frag} {mg : Str → Option Value} {base : Heap}
theorem ok_is_integer {f : Addr} {fd : FuncData} (F : Fun K "is_integer" "is_integer" s_is_integer f fd) (m_isinstance : mg "isinstance" = none) (m_int : mg "int" = none) (m_bool : mg "bool" = none) : FnOk P w K mg base CX0 1 f fd ["value", "low", "high"] (spD ct_is_integer) :=
  okD F sc_is_integer rfl (fun cdv A outer s H E hr => (pss_one (ps_ret (pe_and (pe_callB call_isi (by rfl) m_isinstance (by decide +kernel) (pa_cons (pv 0) (pa_cons (pe_bltn (v := .ty "int") (by rfl) m_int (by decide +kernel) rfl) pa_nil))) (pe_and (pe_not (pe_callB call_isi (by rfl) m_isinstance (by decide +kernel) (pa_cons (pv 0) (pa_cons (pe_bltn (v := .ty "bool") (by rfl) m_bool (by decide +kernel) rfl) pa_nil)))) (pe_one (pe_chain op_le op_le (pv 1) (pv 0) (pv 2)))))))) (sim_is_integer (K := K)) law_is_integer
theorem ok_is_row {f : Addr} {fd : FuncData} (F : Fun K "is_row" "is_row" s_is_row f fd) {f_is_integer : Addr} {fd_is_integer : FuncData} (F_is_integer : Fun K "is_integer" "is_integer" s_is_integer f_is_integer fd_is_integer) (g_is_integer : mg "is_integer" = some (.ref f_is_integer)) (b_is_integer : Binds K fd_is_integer ["value", "low", "high"] []) (G_is_integer : FnOk P w K mg base CX0 1 f_is_integer fd_is_integer ["value", "low", "high"] (spD ct_is_integer)) (m_isinstance : mg "isinstance" = none) (m_tuple : mg "tuple" = none) (m_len : mg "len" = none) (m_all : mg "all" = none) (m_zip : mg "zip" = none) {v_MAX_CACHES : Tok} (m_MAX_CACHES : mg "MAX_CACHES" = some (.int 8 v_MAX_CACHES)) {v_MAX_LIFETIME : Tok} (m_MAX_LIFETIME : mg "MAX_LIFETIME" = some (.int 1000 v_MAX_LIFETIME)) {v_MAX_CLIENTS : Tok} (m_MAX_CLIENTS : mg "MAX_CLIENTS" = some (.int 5 v_MAX_CLIENTS)) : FnOk P w K mg base CX0 2 f fd ["value"] (spD ct_is_row) :=
  okD F sc_is_row rfl (fun cdv A outer s H E hr => (pss_cons (ps_if (PW.pt (pw_or (pt_not (pt_val (pe_callB call_isi (by rfl) m_isinstance (by decide +kernel) (pa_cons (pv 0) (pa_cons (pe_bltn (v := .ty "tuple") (by rfl) m_tuple (by decide +kernel) rfl) pa_nil))))) (pw_or1 (pt_cmpR (op_neD hr.units) (pe_callB call_lenU (by rfl) m_len (by decide +kernel) (pa_cons (pv 0) pa_nil)) pe_int (nomark _))))) (pss_one (ps_ret pe_bl)) pss_nil)
  (pss_cons (ps_asg (pv 0) (pg_tupK (n := 2) rfl (pgs_cons (pg_name (i := 1) sc_is_row.nd rfl (by first | exact .inl rfl | exact .inr rfl)) (pgs_cons (pg_name (i := 2) sc_is_row.nd rfl (by first | exact .inl rfl | exact .inr rfl)) pgs_nil))))
  (pss_cons (ps_if (PW.pt (pw_or (pt_not (pt_val (pe_callB call_isi (by rfl) m_isinstance (by decide +kernel) (pa_cons (pv 1) (pa_cons (pe_bltn (v := .ty "tuple") (by rfl) m_tuple (by decide +kernel) rfl) pa_nil))))) (pw_or1 (pt_cmpR op_gt (pe_callB call_lenU (by rfl) m_len (by decide +kernel) (pa_cons (pv 1) pa_nil)) (pe_glob (v := .int 8) (by rfl) m_MAX_CACHES ⟨_, rfl⟩) (nomark _))))) (pss_one (ps_ret pe_bl)) pss_nil)
  (pss_cons (ps_if (pt_not (pt_val (pe_callB (cr_all rfl) (by rfl) m_all (by decide +kernel) (pa_cons (pe_lc (own := [("lifetime", 3)]) (g := (gName 3)) rfl sc_is_row.nd (pi_seq (pv 1)) (blkOk_by (N := ["value", "lifetimes", "positions", "lifetime", "position", "one", "two"]) (sc := defScope s_is_row) (by decide +kernel)) (fun _ _ _ _ _ => (pg_name (i := 3) sc_is_row.nd rfl (by first | exact .inl rfl | exact .inr rfl))) (fun _ _ _ _ _ => pts_nil) (fun _ _ _ _ _ => (pe_call G_is_integer (hr.mono (by first | decide | (simp only [Nat.add_eq]; omega))) (by rfl) g_is_integer F_is_integer.kp b_is_integer .nil pass0 (pa_cons (pv 3) (pa_cons pe_int (pa_cons (pe_glob (v := .int 1000) (by rfl) m_MAX_LIFETIME ⟨_, rfl⟩) pa_nil)))))) pa_nil)))) (pss_one (ps_ret pe_bl)) pss_nil)
  (pss_cons (ps_if (PW.pt (pw_or (pt_not (pt_val (pe_callB call_isi (by rfl) m_isinstance (by decide +kernel) (pa_cons (pv 2) (pa_cons (pe_bltn (v := .ty "tuple") (by rfl) m_tuple (by decide +kernel) rfl) pa_nil))))) (pw_or1 (pt_not (pt_chain op_le op_le pe_int (pe_callB call_lenU (by rfl) m_len (by decide +kernel) (pa_cons (pv 2) pa_nil)) (pe_glob (v := .int 5) (by rfl) m_MAX_CLIENTS ⟨_, rfl⟩)))))) (pss_one (ps_ret pe_bl)) pss_nil)
  (pss_cons (ps_if (pt_not (pt_val (pe_callB (cr_all rfl) (by rfl) m_all (by decide +kernel) (pa_cons (pe_lc (own := [("position", 4)]) (g := (gName 4)) rfl sc_is_row.nd (pi_seq (pv 2)) (blkOk_by (N := ["value", "lifetimes", "positions", "lifetime", "position", "one", "two"]) (sc := defScope s_is_row) (by decide +kernel)) (fun _ _ _ _ _ => (pg_name (i := 4) sc_is_row.nd rfl (by first | exact .inl rfl | exact .inr rfl))) (fun _ _ _ _ _ => pts_nil) (fun _ _ _ _ _ => (pe_call G_is_integer (hr.mono (by first | decide | (simp only [Nat.add_eq]; omega))) (by rfl) g_is_integer F_is_integer.kp b_is_integer .nil pass0 (pa_cons (pv 4) (pa_cons pe_int (pa_cons (pe_callB call_lenU (by rfl) m_len (by decide +kernel) (pa_cons (pv 1) pa_nil)) pa_nil)))))) pa_nil)))) (pss_one (ps_ret pe_bl)) pss_nil)
  (pss_one (ps_ret (pe_callB (cr_all rfl) (by rfl) m_all (by decide +kernel) (pa_cons (pe_lc (own := [("one", 5), ("two", 6)]) (g := (gTup K 2 (gCons (gName 5) (gCons (gName 6) gNil)))) rfl sc_is_row.nd (pi_zipK (by rfl) m_zip (pa_cons (pv 2) (pa_cons (pe_slice sl_U (pv 2) (po_some pe_int) po_none) pa_nil))) (blkOk_by (N := ["value", "lifetimes", "positions", "lifetime", "position", "one", "two"]) (sc := defScope s_is_row) (by decide +kernel)) (fun _ _ _ _ _ => (pg_tupK (n := 2) rfl (pgs_cons (pg_name (i := 5) sc_is_row.nd rfl (by first | exact .inl rfl | exact .inr rfl)) (pgs_cons (pg_name (i := 6) sc_is_row.nd rfl (by first | exact .inl rfl | exact .inr rfl)) pgs_nil)))) (fun _ _ _ _ _ => pts_nil) (fun _ _ _ _ _ => (pe_cmpR op_le (pv 5) (pv 6) (nomark _)))) pa_nil))))))))))) (sim_is_row (K := K)) law_is_row
theorem ok_empty {f : Addr} {fd : FuncData} (F : Fun K "empty" "empty" s_empty f fd) (m_len : mg "len" = none) : FnOk P w K mg base CX0 1 f fd ["row"] (spD ct_empty) :=
  okD F sc_empty rfl (fun cdv A outer s H E hr => (pss_one (ps_ret (pe_op op_mulU (pe_tup (pa_cons pe_non pa_nil)) (pe_callB call_lenU (by rfl) m_len (by decide +kernel) (pa_cons (pe_ix ix_seq (pv 0) pe_int (fun _ _ => rfl)) pa_nil)))))) (sim_empty (K := K)) law_empty
theorem ok_read {f : Addr} {fd : FuncData} (F : Fun K "read" "read" s_read f fd) (m_len : mg "len" = none) : FnOk P w K mg base CX0 1 f fd ["row", "entries", "time", "client"] (spD ct_read) :=
  okD F sc_read rfl (fun cdv A outer s H E hr => (pss_cons (ps_asg (pv 0) (pg_tupK (n := 2) rfl (pgs_cons (pg_name (i := 4) sc_read.nd rfl (by first | exact .inl rfl | exact .inr rfl)) (pgs_cons (pg_name (i := 5) sc_read.nd rfl (by first | exact .inl rfl | exact .inr rfl)) pgs_nil))))
  (pss_cons (ps_set (i := 6) sc_read.nd rfl (by first | exact .inl rfl | exact .inr rfl) (pe_ix ix_seq (pv 5) (pv 3) (fun _ _ => rfl)))
  (pss_cons (ps_while PassesOwn.never (PW.pt (pw_and (pt_cmpR op_lt (pv 6) (pe_callB call_lenU (by rfl) m_len (by decide +kernel) (pa_cons (pv 4) pa_nil)) (nomark _)) (pw_and1 (PW.pt (pw_or (pt_cmpR op_isU (pe_ix ix_seq (pv 1) (pv 6) (fun _ _ => rfl)) pe_non (nomark _)) (pw_or1 (pt_cmpR op_ge (pe_op op_sub (pv 2) (pe_ix ix_seq (pe_ix ix_seq (pv 1) (pv 6) (fun _ _ => rfl)) pe_int (fun _ _ => rfl))) (pe_ix ix_seq (pv 4) (pv 6) (fun _ _ => rfl)) (nomark _)))))))) (pss_one (ps_aug (i := 6) sc_read.nd rfl (by first | exact .inl rfl | exact .inr rfl) pe_int ip_add)))
  (pss_cons (ps_set (i := 7) sc_read.nd rfl (by first | exact .inl rfl | exact .inr rfl) (pe_ifExp (pt_cmpR op_lt (pv 6) (pe_callB call_lenU (by rfl) m_len (by decide +kernel) (pa_cons (pv 4) pa_nil)) (nomark _)) (pe_ix ix_seq (pe_ix ix_seq (pv 1) (pv 6) (fun _ _ => rfl)) pe_int (fun _ _ => rfl)) (pv 2)))
  (pss_cons (ps_set (i := 8) sc_read.nd rfl (by first | exact .inl rfl | exact .inr rfl) (pe_op op_mulU (pe_tup (pa_cons (pe_tup (pa_cons (pv 7) (pa_cons (pv 2) pa_nil))) pa_nil)) (pe_op op_sub (pv 6) (pe_ix ix_seq (pv 5) (pv 3) (fun _ _ => rfl)))))
  (pss_one (ps_ret (pe_tup (pa_cons (pv 7) (pa_cons (pv 6) (pa_cons (pe_op op_addU (pe_op op_addU (pe_slice sl_U (pv 1) po_none (po_some (pe_ix ix_seq (pv 5) (pv 3) (fun _ _ => rfl)))) (pv 8)) (pe_slice sl_U (pv 1) (po_some (pv 6)) po_none)) pa_nil)))))))))))) (sim_read (K := K)) law_read
theorem ok_ask {f_ask : Addr} {fd_ask : FuncData} (F_ask : Fun K "_law_ask" "_law_ask" s_ask f_ask fd_ask) (g_ask : mg "_law_ask" = some (.ref f_ask)) (b_ask : Binds K fd_ask ["row", "held", "time", "index"] []) (m_len : mg "len" = none) : ∀ n : Nat, FnOk P w K mg base CX0 (0 + n) f_ask fd_ask ["row", "held", "time", "index"] (spD (ct_ask n))
  | 0 => fnOk_no ask_zero
  | n + 1 => by
    have G_ask := ok_ask F_ask g_ask b_ask m_len n
    exact okD F_ask sc_ask rfl (fun cdv A outer s H E hr => (pss_cons (ps_if (pt_cmpR (op_eqD hr.units) (pv 3) (pe_callB call_lenU (by rfl) m_len (by decide +kernel) (pa_cons (pe_ix ix_seq (pv 0) pe_int (fun _ _ => rfl)) pa_nil)) (nomark _)) (pss_one (ps_ret (pe_tup (pa_cons (pv 2) (pa_cons (pv 3) pa_nil))))) pss_nil)
  (pss_cons (ps_if (PW.pt (pw_or (pt_cmpR op_isU (pe_ix ix_seq (pv 1) (pv 3) (fun _ _ => rfl)) pe_non (nomark _)) (pw_or1 (pt_cmpR op_le (pe_op op_addU (pe_ix ix_seq (pe_ix ix_seq (pv 1) (pv 3) (fun _ _ => rfl)) pe_int (fun _ _ => rfl)) (pe_ix ix_seq (pe_ix ix_seq (pv 0) pe_int (fun _ _ => rfl)) (pv 3) (fun _ _ => rfl))) (pv 2) (nomark _))))) (pss_cons (ps_set (i := 4) sc_ask.nd rfl (by first | exact .inl rfl | exact .inr rfl) (pe_call G_ask hr (by rfl) g_ask F_ask.kp b_ask .nil pass0 (pa_cons (pv 0) (pa_cons (pv 1) (pa_cons (pv 2) (pa_cons (pe_op op_addU (pv 3) pe_int) pa_nil))))))
  (pss_cons (ps_asg (pe_tup (pa_cons (pe_ix ix_seq (pv 4) pe_int (fun _ _ => rfl)) (pa_cons (pv 2) pa_nil))) (pg_sub (pv 1) (pv 3) set_list))
  (pss_one (ps_ret (pv 4))))) pss_nil)
  (pss_one (ps_ret (pe_tup (pa_cons (pe_ix ix_seq (pe_ix ix_seq (pv 1) (pv 3) (fun _ _ => rfl)) pe_int (fun _ _ => rfl)) (pa_cons (pv 3) pa_nil)))))))) (sim_ask n) (law_ask n)
theorem ok_now {f : Addr} {fd : FuncData} (F : Fun K "_law_now" "_law_now" s_now f fd) {f_ask : Addr} {fd_ask : FuncData} (F_ask : Fun K "_law_ask" "_law_ask" s_ask f_ask fd_ask) (g_ask : mg "_law_ask" = some (.ref f_ask)) (b_ask : Binds K fd_ask ["row", "held", "time", "index"] []) (G_ask : FnOk P w K mg base CX0 9 f_ask fd_ask ["row", "held", "time", "index"] (spD (ct_ask 9))) (m_len : mg "len" = none) : FnOk P w K mg base CX0 10 f fd ["row", "calls"] (spD ct_now) :=
  okD F sc_now rfl (fun cdv A outer s H E hr => (pss_cons (ps_par (i := 2) (j := 3) rfl sc_now.nd rfl rfl (by decide) rfl rfl (pa_cons (pe_op op_mulU (pe_lst (pa_cons pe_non pa_nil)) (pe_callB call_lenU (by rfl) m_len (by decide +kernel) (pa_cons (pe_ix ix_seq (pv 0) pe_int (fun _ _ => rfl)) pa_nil))) (pa_cons (pe_lst pa_nil) pa_nil)) (by rfl))
  (pss_cons (ps_for PassesOwn.never rfl (pi_seq (pv 1)) (pg_tupK (n := 3) rfl (pgs_cons (pg_name (i := 4) sc_now.nd rfl (by first | exact .inl rfl | exact .inr rfl)) (pgs_cons (pg_name (i := 5) sc_now.nd rfl (by first | exact .inl rfl | exact .inr rfl)) (pgs_cons (pg_name (i := 6) sc_now.nd rfl (by first | exact .inl rfl | exact .inr rfl)) pgs_nil)))) (pss_one (ps_if (pt_cmpR op_lt (pv 4) pe_int (nomark _)) (pss_one (ps_expr (pe_bm PySem.F.plainAttrs_list PySem.F.slot_list_append PySem.F.type_list_append mt_append (pv 3) (pa_cons (pe_tup (pa_cons (pv 5) (pa_cons (pv 6) (pa_cons (pe_ix ix_seq (pe_call G_ask (hr.mono (by first | decide | (simp only [Nat.add_eq]; omega))) (by rfl) g_ask F_ask.kp b_ask .nil pass0 (pa_cons (pv 0) (pa_cons (pv 2) (pa_cons (pv 5) (pa_cons (pe_ix ix_seq (pe_ix ix_seq (pv 0) pe_int (fun _ _ => rfl)) (pv 6) (fun _ _ => rfl)) pa_nil))))) pe_int (fun _ _ => rfl)) pa_nil)))) pa_nil)))) (pss_one (ps_asg pe_non (pg_sub (pv 2) (pv 6) set_list))))))
  (pss_one (ps_ret (pe_tup (pa_cons (pv 2) (pa_cons (pv 3) pa_nil)))))))) (sim_now (K := K)) law_now
theorem ok_draw {f : Addr} {fd : FuncData} (F : Fun K "_law_draw" "_law_draw" s_draw f fd) (m_len : mg "len" = none) : FnOk P w K mg base CX0 1 f fd ["tape", "many"] (spD ct_draw) :=
  okD F sc_draw rfl (fun cdv A outer s H E hr => (pss_cons (ps_set (i := 2) sc_draw.nd rfl (by first | exact .inl rfl | exact .inr rfl) pe_int)
  (pss_cons (ps_if (pt_cmpR op_lt (pe_ix ix_seq (pv 0) pe_int (fun _ _ => rfl)) (pv 1) (nomark _)) (pss_cons (ps_set (i := 3) sc_draw.nd rfl (by first | exact .inl rfl | exact .inr rfl) pe_int)
  (pss_cons (ps_if (pt_cmpR op_gt (pe_callB call_lenU (by rfl) m_len (by decide +kernel) (pa_cons (pe_ix ix_seq (pv 0) pe_int (fun _ _ => rfl)) pa_nil)) pe_int (nomark _)) (pss_one (ps_set (i := 3) sc_draw.nd rfl (by first | exact .inl rfl | exact .inr rfl) (pe_ix ix_seq (pe_ix ix_seq (pv 0) pe_int (fun _ _ => rfl)) (pe_op op_mod (pe_ix ix_seq (pv 0) pe_int (fun _ _ => rfl)) (pe_callB call_lenU (by rfl) m_len (by decide +kernel) (pa_cons (pe_ix ix_seq (pv 0) pe_int (fun _ _ => rfl)) pa_nil))) (fun _ _ => rfl)))) pss_nil)
  (pss_cons (ps_if (PW.pt (pw_or (pt_cmpR op_ge (pe_ix ix_seq (pv 0) pe_int (fun _ _ => rfl)) (pe_callB call_lenU (by rfl) m_len (by decide +kernel) (pa_cons (pe_ix ix_seq (pv 0) pe_int (fun _ _ => rfl)) pa_nil)) (nomark _)) (pw_or1 (pt_cmpR op_lt (pv 3) (pe_op op_pow pe_int pe_int) (nomark _))))) (pss_cons (ps_set (i := 3) sc_draw.nd rfl (by first | exact .inl rfl | exact .inr rfl) (pe_op op_mod (pe_op op_addU (pv 3) (pe_op op_mulU pe_int (pe_ix ix_seq (pv 0) pe_int (fun _ _ => rfl)))) (pv 2)))
  (pss_cons (ps_set (i := 3) sc_draw.nd rfl (by first | exact .inl rfl | exact .inr rfl) (pe_op op_mod (pe_op op_addU (pe_op op_addU (pe_op op_mulU (pv 3) (pv 3)) (pe_op op_mulU pe_int (pv 3))) pe_int) (pv 2)))
  (pss_one (ps_set (i := 3) sc_draw.nd rfl (by first | exact .inl rfl | exact .inr rfl) (pe_op op_mod (pe_op op_addU (pe_op op_mulU (pv 3) (pv 3)) pe_int) (pv 2)))))) pss_nil)
  (pss_cons (ps_asg (pe_op op_addU (pe_ix ix_seq (pv 0) pe_int (fun _ _ => rfl)) pe_int) (pg_sub (pv 0) pe_int set_list))
  (pss_one (ps_asg (pv 3) (pg_sub (pv 0) pe_int set_list))))))) pss_nil)
  (pss_cons (ps_set (i := 4) sc_draw.nd rfl (by first | exact .inl rfl | exact .inr rfl) (pe_op op_mod (pe_ix ix_seq (pv 0) pe_int (fun _ _ => rfl)) (pv 1)))
  (pss_cons (ps_asg (pe_op op_fdivU (pe_ix ix_seq (pv 0) pe_int (fun _ _ => rfl)) (pv 1)) (pg_sub (pv 0) pe_int set_list))
  (pss_one (ps_ret (pv 4)))))))) (sim_draw (K := K)) law_draw
theorem ok_whole {f : Addr} {fd : FuncData} (F : Fun K "_law_whole" "_law_whole" s_whole f fd) (m_isinstance : mg "isinstance" = none) (m_int : mg "int" = none) (m_bool : mg "bool" = none) : FnOk P w K mg base CX0 1 f fd ["item"] (spD ct_whole) :=
  okD F sc_whole rfl (fun cdv A outer s H E hr => (pss_one (ps_ret (pe_and (pe_callB call_isi (by rfl) m_isinstance (by decide +kernel) (pa_cons (pv 0) (pa_cons (pe_bltn (v := .ty "int") (by rfl) m_int (by decide +kernel) rfl) pa_nil))) (pe_one (pe_not (pe_callB call_isi (by rfl) m_isinstance (by decide +kernel) (pa_cons (pv 0) (pa_cons (pe_bltn (v := .ty "bool") (by rfl) m_bool (by decide +kernel) rfl) pa_nil))))))))) (sim_whole (K := K)) law_whole
theorem ok_within {f : Addr} {fd : FuncData} (F : Fun K "_law_within" "_law_within" s_within f fd) {f_whole : Addr} {fd_whole : FuncData} (F_whole : Fun K "_law_whole" "_law_whole" s_whole f_whole fd_whole) (g_whole : mg "_law_whole" = some (.ref f_whole)) (b_whole : Binds K fd_whole ["item"] []) (G_whole : FnOk P w K mg base CX0 1 f_whole fd_whole ["item"] (spD ct_whole)) : FnOk P w K mg base CX0 2 f fd ["item", "low", "high"] (spD ct_within) :=
  okD F sc_within rfl (fun cdv A outer s H E hr => (pss_one (ps_ret (pe_and (pe_call G_whole (hr.mono (by first | decide | (simp only [Nat.add_eq]; omega))) (by rfl) g_whole F_whole.kp b_whole .nil pass0 (pa_cons (pv 0) pa_nil)) (pe_one (pe_chain op_le op_le (pv 1) (pv 0) (pv 2))))))) (sim_within (K := K)) law_within
theorem ok_like2 {f_like2 : Addr} {fd_like2 : FuncData} (F_like2 : Fun K "_law_like" "_law_like" s_like2 f_like2 fd_like2) (g_like2 : mg "_law_like" = some (.ref f_like2)) (b_like2 : Binds K fd_like2 ["one", "two"] []) (m_isinstance : mg "isinstance" = none) (m_list : mg "list" = none) (m_tuple : mg "tuple" = none) (m_len : mg "len" = none) (m_range : mg "range" = none) (m_bool : mg "bool" = none) : ∀ n : Nat, FnOk P w K mg base CX0 (0 + n) f_like2 fd_like2 ["one", "two"] (spD (ct_like2 n))
  | 0 => fnOk_no like2_zero
  | n + 1 => by
    have G_like2 := ok_like2 F_like2 g_like2 b_like2 m_isinstance m_list m_tuple m_len m_range m_bool n
    exact okD F_like2 sc_like2 rfl (fun cdv A outer s H E hr => (pss_cons (ps_if (pt_val (pe_callB call_isiT (by rfl) m_isinstance (by decide +kernel) (pa_cons (pv 0) (pa_cons (pe_tup (pa_cons (pe_bltn (v := .ty "list") (by rfl) m_list (by decide +kernel) rfl) (pa_cons (pe_bltn (v := .ty "tuple") (by rfl) m_tuple (by decide +kernel) rfl) pa_nil))) pa_nil)))) (pss_cons (ps_if (PW.pt (pw_or (pt_cmpR (op_neD hr.units) (pe_callB call_isi (by rfl) m_isinstance (by decide +kernel) (pa_cons (pv 0) (pa_cons (pe_bltn (v := .ty "list") (by rfl) m_list (by decide +kernel) rfl) pa_nil))) (pe_callB call_isi (by rfl) m_isinstance (by decide +kernel) (pa_cons (pv 1) (pa_cons (pe_bltn (v := .ty "list") (by rfl) m_list (by decide +kernel) rfl) pa_nil))) (nomark _)) (pw_or1 (pt_cmpR (op_neD hr.units) (pe_callB call_isi (by rfl) m_isinstance (by decide +kernel) (pa_cons (pv 0) (pa_cons (pe_bltn (v := .ty "tuple") (by rfl) m_tuple (by decide +kernel) rfl) pa_nil))) (pe_callB call_isi (by rfl) m_isinstance (by decide +kernel) (pa_cons (pv 1) (pa_cons (pe_bltn (v := .ty "tuple") (by rfl) m_tuple (by decide +kernel) rfl) pa_nil))) (nomark _))))) (pss_one (ps_ret pe_bl)) pss_nil)
  (pss_cons (ps_if (pt_cmpR (op_neD hr.units) (pe_callB call_lenU (by rfl) m_len (by decide +kernel) (pa_cons (pv 0) pa_nil)) (pe_callB call_lenU (by rfl) m_len (by decide +kernel) (pa_cons (pv 1) pa_nil)) (nomark _)) (pss_one (ps_ret pe_bl)) pss_nil)
  (pss_one (ps_ret (pe_cmpR (op_eqD hr.units) (pe_lc (own := [("k", 2)]) (g := (gName 2)) rfl sc_like2.nd (pi_range1 (by rfl) m_range (pa_cons (pe_callB call_lenU (by rfl) m_len (by decide +kernel) (pa_cons (pv 0) pa_nil)) pa_nil)) (blkOk_by (N := ["one", "two", "k"]) (sc := defScope s_like2) (by decide +kernel)) (fun _ _ _ _ _ => (pg_name (i := 2) sc_like2.nd rfl (by first | exact .inl rfl | exact .inr rfl))) (fun _ _ _ _ _ => (pts_one (pt_not (pt_val (pe_call G_like2 hr (by rfl) g_like2 F_like2.kp b_like2 .nil pass0 (pa_cons (pe_ix ix_seq (pv 0) (pv 2) (fun _ _ => rfl)) (pa_cons (pe_ix ix_seq (pv 1) (pv 2) (fun _ _ => rfl)) pa_nil))))))) (fun _ _ _ _ _ => (pv 2))) (pe_lst pa_nil) (nomark _)))))) pss_nil)
  (pss_cons (ps_if (pt_val (pe_callB call_isiT (by rfl) m_isinstance (by decide +kernel) (pa_cons (pv 1) (pa_cons (pe_tup (pa_cons (pe_bltn (v := .ty "list") (by rfl) m_list (by decide +kernel) rfl) (pa_cons (pe_bltn (v := .ty "tuple") (by rfl) m_tuple (by decide +kernel) rfl) pa_nil))) pa_nil)))) (pss_one (ps_ret pe_bl)) pss_nil)
  (pss_one (ps_ret (pe_and (pe_cmpR (op_eqD hr.units) (pe_callB call_isi (by rfl) m_isinstance (by decide +kernel) (pa_cons (pv 0) (pa_cons (pe_bltn (v := .ty "bool") (by rfl) m_bool (by decide +kernel) rfl) pa_nil))) (pe_callB call_isi (by rfl) m_isinstance (by decide +kernel) (pa_cons (pv 1) (pa_cons (pe_bltn (v := .ty "bool") (by rfl) m_bool (by decide +kernel) rfl) pa_nil))) (nomark _)) (pe_one (pe_cmpR (op_eqD hr.units) (pv 0) (pv 1) (nomark _))))))))) (sim_like2 n) (law_like2 n)
theorem ok_row {f : Addr} {fd : FuncData} (F : Fun K "_law_row" "_law_row" s_row f fd) {f_draw : Addr} {fd_draw : FuncData} (F_draw : Fun K "_law_draw" "_law_draw" s_draw f_draw fd_draw) (g_draw : mg "_law_draw" = some (.ref f_draw)) (b_draw : Binds K fd_draw ["tape", "many"] []) (G_draw : FnOk P w K mg base CX0 1 f_draw fd_draw ["tape", "many"] (spD ct_draw)) (m_tuple : mg "tuple" = none) (m_range : mg "range" = none) (m_min : mg "min" = none) (m_len : mg "len" = none) (m_sorted : mg "sorted" = none) : FnOk P w K mg base CX0 2 f fd ["tape", "caches", "longest", "clients"] (spD ct_row) :=
  okD F sc_row rfl (fun cdv A outer s H E hr => (pss_cons (ps_set (i := 4) sc_row.nd rfl (by first | exact .inl rfl | exact .inr rfl) (pe_ix ix_seq (pe_lst (pa_cons pe_int (pa_cons pe_int (pa_cons (pv 2) pa_nil)))) (pe_call G_draw (hr.mono (by first | decide | (simp only [Nat.add_eq]; omega))) (by rfl) g_draw F_draw.kp b_draw .nil pass0 (pa_cons (pv 0) (pa_cons pe_int pa_nil))) (fun _ _ => rfl)))
  (pss_cons (ps_set (i := 5) sc_row.nd rfl (by first | exact .inl rfl | exact .inr rfl) (pe_callTy call_tupOf (by rfl) m_tuple (by decide +kernel) (pa_cons (pe_lc (own := [("k", 7)]) (g := (gName 7)) rfl sc_row.nd (pi_range1 (by rfl) m_range (pa_cons (pe_call G_draw (hr.mono (by first | decide | (simp only [Nat.add_eq]; omega))) (by rfl) g_draw F_draw.kp b_draw .nil pass0 (pa_cons (pv 0) (pa_cons (pe_op op_addU (pv 1) pe_int) pa_nil))) pa_nil)) (blkOk_by (N := ["tape", "caches", "longest", "clients", "wide", "lifetimes", "positions", "k"]) (sc := defScope s_row) (by decide +kernel)) (fun _ _ _ _ _ => (pg_name (i := 7) sc_row.nd rfl (by first | exact .inl rfl | exact .inr rfl))) (fun _ _ _ _ _ => pts_nil) (fun _ _ _ _ _ => (pe_op op_addU pe_int (pe_call G_draw (hr.mono (by first | decide | (simp only [Nat.add_eq]; omega))) (by rfl) g_draw F_draw.kp b_draw .nil pass0 (pa_cons (pv 0) (pa_cons (pe_callB (call_min2 rfl) (by rfl) m_min (by decide +kernel) (pa_cons (pv 4) (pa_cons (pv 2) pa_nil))) pa_nil)))))) pa_nil)))
  (pss_cons (ps_set (i := 6) sc_row.nd rfl (by first | exact .inl rfl | exact .inr rfl) (pe_lst pa_nil))
  (pss_cons (ps_for PassesOwn.never rfl (pi_range1 (by rfl) m_range (pa_cons (pe_op op_addU pe_int (pe_call G_draw (hr.mono (by first | decide | (simp only [Nat.add_eq]; omega))) (by rfl) g_draw F_draw.kp b_draw .nil pass0 (pa_cons (pv 0) (pa_cons (pv 3) pa_nil)))) pa_nil)) (pg_name (i := 7) sc_row.nd rfl (by first | exact .inl rfl | exact .inr rfl)) (pss_one (ps_expr (pe_bm PySem.F.plainAttrs_list PySem.F.slot_list_append PySem.F.type_list_append mt_append (pv 6) (pa_cons (pe_ix ix_seq (pe_lst (pa_cons pe_int (pa_cons (pe_call G_draw (hr.mono (by first | decide | (simp only [Nat.add_eq]; omega))) (by rfl) g_draw F_draw.kp b_draw .nil pass0 (pa_cons (pv 0) (pa_cons (pe_op op_addU (pe_callB call_lenU (by rfl) m_len (by decide +kernel) (pa_cons (pv 5) pa_nil)) pe_int) pa_nil))) pa_nil))) (pe_callB (call_min2 rfl) (by rfl) m_min (by decide +kernel) (pa_cons pe_int (pa_cons (pe_call G_draw (hr.mono (by first | decide | (simp only [Nat.add_eq]; omega))) (by rfl) g_draw F_draw.kp b_draw .nil pass0 (pa_cons (pv 0) (pa_cons pe_int pa_nil))) pa_nil))) (fun _ _ => rfl)) pa_nil)))))
  (pss_one (ps_ret (pe_tup (pa_cons (pv 5) (pa_cons (pe_callTy call_tupOf (by rfl) m_tuple (by decide +kernel) (pa_cons (pe_callB cr_sortedI (by rfl) m_sorted (by decide +kernel) (pa_cons (pv 6) pa_nil)) pa_nil)) pa_nil)))))))))) (sim_row (K := K)) law_row
theorem okm_entries {f C : Addr} {fd : FuncData} (F : Fun K "entries" "Station.entries" s_st_entries f fd) (T0 : Txt K mg C)  (m_list : mg "list" = none) : FnOk P w K mg base CX0 1 f fd ["self"] (sp_entries C) := by
  refine F.ok sc_st_entries (fun vs H Q E h => ?_) (fun cdv A outer s H vs Q E hr h => ?_)
  · obtain ⟨p, q, r, cs, rfl, _⟩ := h
    rfl
  · exact ⟨t_st_entries K C, (pss_one (ps_ret (pe_callTy call_listOf (by rfl) m_list (by decide +kernel) (pa_cons (pe_ix ix_seq (pe_fld (pv 0) rfl) pe_int (fun _ _ => rfl)) pa_nil)))), raw_entries T0 h⟩
theorem okm_log {f C : Addr} {fd : FuncData} (F : Fun K "log" "Station.log" s_st_log f fd) (T0 : Txt K mg C)  (m_list : mg "list" = none) : FnOk P w K mg base CX0 1 f fd ["self"] (sp_log C) := by
  refine F.ok sc_st_log (fun vs H Q E h => ?_) (fun cdv A outer s H vs Q E hr h => ?_)
  · obtain ⟨p, q, r, cs, rfl, _⟩ := h
    rfl
  · exact ⟨t_st_log K C, (pss_one (ps_ret (pe_callTy call_listOf (by rfl) m_list (by decide +kernel) (pa_cons (pe_ix ix_seq (pe_fld (pv 0) rfl) pe_int (fun _ _ => rfl)) pa_nil)))), raw_log T0 h⟩
theorem okm_len {f C : Addr} {fd : FuncData} (F : Fun K "__len__" "Station.__len__" s_st_len f fd) (T0 : Txt K mg C)  (m_len : mg "len" = none) : FnOk P w K mg base CX0 1 f fd ["self"] (sp_len C) := by
  refine F.ok sc_st_len (fun vs H Q E h => ?_) (fun cdv A outer s H vs Q E hr h => ?_)
  · obtain ⟨p, q, r, cs, rfl, _⟩ := h
    rfl
  · exact ⟨t_st_len K C, (pss_one (ps_ret (pe_callB call_lenU (by rfl) m_len (by decide +kernel) (pa_cons (pe_ix ix_seq (pe_fld (pv 0) rfl) pe_int (fun _ _ => rfl)) pa_nil)))), raw_len T0 h⟩
theorem okm_eq {f C : Addr} {fd : FuncData} (F : Fun K "__eq__" "Station.__eq__" s_st_eq f fd) (T0 : Txt K mg C) (I : IsC K C) (m_isinstance : mg "isinstance" = none) : FnOk P w K mg base CX0 1 f fd ["self", "other"] (sp_eq C) := by
  refine F.ok sc_st_eq (fun vs H Q E h => ?_) (fun cdv A outer s H vs Q E hr h => ?_)
  · obtain ⟨p, q, b, r, cs, rfl, _⟩ := h
    rfl
  · exact ⟨t_st_eq K C, (pss_one (ps_ret (pe_and (pe_callB call_isi (by rfl) m_isinstance (by decide +kernel) (pa_cons (pv 1) (pa_cons (pe_glob (v := .ref C) (by rfl) T0.mgC rfl) pa_nil))) (pe_and (pe_cmpR (op_eqD hr.units) (pe_fld (pv 0) rfl) (pe_fld (pv 1) rfl) (nomark _)) (pe_one (pe_cmpR (op_eqD hr.units) (pe_slice sl_U (pe_fld (pv 0) rfl) po_none (po_some pe_int)) (pe_slice sl_U (pe_fld (pv 1) rfl) po_none (po_some pe_int)) (nomark _))))))), raw_eq T0 I h⟩
theorem okm_change {f C : Addr} {fd : FuncData} (F : Fun K "change" "Station.change" s_st_change f fd) (T0 : Txt K mg C)   : FnOk P w K mg base CX0 1 f fd ["self", "entries", "reads", "time"] (sp_change C) := by
  refine F.ok sc_st_change (fun vs H Q E h => ?_) (fun cdv A outer s H vs Q E hr h => ?_)
  · obtain ⟨p, q, r, s, ps, ve, vd, t, es, rs, rfl, _⟩ := h
    rfl
  · exact ⟨t_st_change K C, (pss_cons (ps_expr (pe_bm PySem.F.plainAttrs_list PySem.F.slot_list_append PySem.F.type_list_append mt_append (pe_fld (pv 0) rfl) (pa_cons (pe_fld (pv 0) rfl) pa_nil)))
  (pss_one (ps_fld (pv 0) (pe_tup (pa_cons (pv 1) (pa_cons (pv 2) (pa_cons (pv 3) pa_nil)))) rfl))), raw_change T0 h⟩
theorem okm_read {f C : Addr} {fd : FuncData} (F : Fun K "read" "Station.read" s_st_read f fd) (T0 : Txt K mg C) {T Cr Cd Cp Cn : Addr} (XE : Errs K mg T Cr Cd Cp Cn) {f_is_integer : Addr} {fd_is_integer : FuncData} (F_is_integer : Fun K "is_integer" "is_integer" s_is_integer f_is_integer fd_is_integer) (g_is_integer : mg "is_integer" = some (.ref f_is_integer)) (b_is_integer : Binds K fd_is_integer ["value", "low", "high"] []) (G_is_integer : FnOk P w K mg base CX0 1 f_is_integer fd_is_integer ["value", "low", "high"] (spD ct_is_integer)) {f_read : Addr} {fd_read : FuncData} (F_read : Fun K "read" "read" s_read f_read fd_read) (g_read : mg "read_reading" = some (.ref f_read)) (b_read : Binds K fd_read ["row", "entries", "time", "client"] []) (G_read : FnOk P w K mg base CX0 1 f_read fd_read ["row", "entries", "time", "client"] (spD ct_read)) (m_len : mg "len" = none) {v_MAX_TIME : Tok} (m_MAX_TIME : mg "MAX_TIME" = some (.int 1000000000 v_MAX_TIME)) {fm_change : Addr} {fdm_change : FuncData} (bm_change : Binds K fdm_change ["self", "entries", "reads", "time"] []) (GM_change : FnOk P w K mg base CX0 1 fm_change fdm_change ["self", "entries", "reads", "time"] (sp_change C)) (M_change : Meth K C "change" fm_change) : FnOk P w K mg base (L2N.CX P w) 2 f fd ["self", "time", "client"] (sp_read C Cd) := by
  refine okN F sc_st_read (fun vs H Q E h => ?_) (fun cdv A outer s H vs Q E hr h => ?_)
  · obtain ⟨p, q, r, cs, w, vt, vi, dt, di, n, m, rfl, _⟩ := h
    rfl
  · exact ⟨t_st_read K C E Cd, (pss_cons (ps_asg (pe_fld (pv 0) rfl) (pg_tupK (n := 3) rfl (pgs_cons (pg_name (i := 3) sc_st_read.nd rfl (by first | exact .inl rfl | exact .inr rfl)) (pgs_cons (pg_name (i := 4) sc_st_read.nd rfl (by first | exact .inl rfl | exact .inr rfl)) (pgs_cons (pg_name (i := 5) sc_st_read.nd rfl (by first | exact .inl rfl | exact .inr rfl)) pgs_nil)))))
  (pss_cons (ps_if (pt_not (pt_val (pe_call G_is_integer (hr.mono (by first | decide | (simp only [Nat.add_eq]; omega))) (by rfl) g_is_integer F_is_integer.kp b_is_integer .nil pass0 (pa_cons (pv 1) (pa_cons (pv 5) (pa_cons (pe_glob (v := .int 1000000000) (by rfl) m_MAX_TIME ⟨_, rfl⟩) pa_nil)))))) (pss_one (L2N.ps_raise rfl (L2N.takes_of rfl rfl rfl rfl) (L2N.pmk_own PySem.F.excBase_ValueError XE.d.x XE.d.g XE.d.k (raises_own XE.d.b XE.d.t) (by rfl)))) pss_nil)
  (pss_cons (ps_if (pt_not (pt_val (pe_call G_is_integer (hr.mono (by first | decide | (simp only [Nat.add_eq]; omega))) (by rfl) g_is_integer F_is_integer.kp b_is_integer .nil pass0 (pa_cons (pv 2) (pa_cons pe_int (pa_cons (pe_op op_sub (pe_callB call_lenU (by rfl) m_len (by decide +kernel) (pa_cons (pe_ix ix_seq (pe_fld (pv 0) rfl) pe_int (fun _ _ => rfl)) pa_nil)) pe_int) pa_nil)))))) (pss_one (L2N.ps_raise rfl (L2N.takes_of rfl rfl rfl rfl) (L2N.pmk_own PySem.F.excBase_ValueError XE.d.x XE.d.g XE.d.k (raises_own XE.d.b XE.d.t) (by rfl)))) pss_nil)
  (pss_cons (ps_asg (pe_call G_read (hr.mono (by first | decide | (simp only [Nat.add_eq]; omega))) (by rfl) g_read F_read.kp b_read .nil pass0 (pa_cons (pe_fld (pv 0) rfl) (pa_cons (pv 3) (pa_cons (pv 1) (pa_cons (pv 2) pa_nil))))) (pg_tupK (n := 3) rfl (pgs_cons (pg_name (i := 6) sc_st_read.nd rfl (by first | exact .inl rfl | exact .inr rfl)) (pgs_cons (pg_name (i := 7) sc_st_read.nd rfl (by first | exact .inl rfl | exact .inr rfl)) (pgs_cons (pg_name (i := 3) sc_st_read.nd rfl (by first | exact .inl rfl | exact .inr rfl)) pgs_nil)))))
  (pss_cons (ps_expr (pe_meth (pv 0) T0.cl M_change GM_change (hr.mono (by decide)) bm_change .nil pass0 (pa_cons (pv 3) (pa_cons (pe_op op_addU (pv 4) (pe_tup (pa_cons (pe_tup (pa_cons (pv 1) (pa_cons (pv 2) (pa_cons (pv 6) pa_nil)))) pa_nil))) (pa_cons (pv 1) pa_nil)))))
  (pss_one (ps_ret (pv 6)))))))), raw_read T0 h⟩
theorem okm_purge {f C : Addr} {fd : FuncData} (F : Fun K "purge" "Station.purge" s_st_purge f fd) (T0 : Txt K mg C) {T Cr Cd Cp Cn : Addr} (XE : Errs K mg T Cr Cd Cp Cn) {f_is_integer : Addr} {fd_is_integer : FuncData} (F_is_integer : Fun K "is_integer" "is_integer" s_is_integer f_is_integer fd_is_integer) (g_is_integer : mg "is_integer" = some (.ref f_is_integer)) (b_is_integer : Binds K fd_is_integer ["value", "low", "high"] []) (G_is_integer : FnOk P w K mg base CX0 1 f_is_integer fd_is_integer ["value", "low", "high"] (spD ct_is_integer)) (m_len : mg "len" = none) {v_MAX_TIME : Tok} (m_MAX_TIME : mg "MAX_TIME" = some (.int 1000000000 v_MAX_TIME)) {fm_change : Addr} {fdm_change : FuncData} (bm_change : Binds K fdm_change ["self", "entries", "reads", "time"] []) (GM_change : FnOk P w K mg base CX0 1 fm_change fdm_change ["self", "entries", "reads", "time"] (sp_change C)) (M_change : Meth K C "change" fm_change) : FnOk P w K mg base (L2N.CX P w) 2 f fd ["self", "time", "cache"] (sp_purge C Cp) := by
  refine okN F sc_st_purge (fun vs H Q E h => ?_) (fun cdv A outer s H vs Q E hr h => ?_)
  · obtain ⟨p, q, r, cs, vt, vi, dt, di, n, m, rfl, _⟩ := h
    rfl
  · exact ⟨t_st_purge K C E Cp, (pss_cons (ps_asg (pe_fld (pv 0) rfl) (pg_tupK (n := 3) rfl (pgs_cons (pg_name (i := 3) sc_st_purge.nd rfl (by first | exact .inl rfl | exact .inr rfl)) (pgs_cons (pg_name (i := 4) sc_st_purge.nd rfl (by first | exact .inl rfl | exact .inr rfl)) (pgs_cons (pg_name (i := 5) sc_st_purge.nd rfl (by first | exact .inl rfl | exact .inr rfl)) pgs_nil)))))
  (pss_cons (ps_if (pt_not (pt_val (pe_call G_is_integer (hr.mono (by first | decide | (simp only [Nat.add_eq]; omega))) (by rfl) g_is_integer F_is_integer.kp b_is_integer .nil pass0 (pa_cons (pv 1) (pa_cons (pv 5) (pa_cons (pe_glob (v := .int 1000000000) (by rfl) m_MAX_TIME ⟨_, rfl⟩) pa_nil)))))) (pss_one (L2N.ps_raise rfl (L2N.takes_of rfl rfl rfl rfl) (L2N.pmk_own PySem.F.excBase_ValueError XE.p.x XE.p.g XE.p.k (raises_own XE.p.b XE.p.t) (by rfl)))) pss_nil)
  (pss_cons (ps_if (pt_not (pt_val (pe_call G_is_integer (hr.mono (by first | decide | (simp only [Nat.add_eq]; omega))) (by rfl) g_is_integer F_is_integer.kp b_is_integer .nil pass0 (pa_cons (pv 2) (pa_cons pe_int (pa_cons (pe_op op_sub (pe_callB call_lenU (by rfl) m_len (by decide +kernel) (pa_cons (pv 3) pa_nil)) pe_int) pa_nil)))))) (pss_one (L2N.ps_raise rfl (L2N.takes_of rfl rfl rfl rfl) (L2N.pmk_own PySem.F.excBase_ValueError XE.p.x XE.p.g XE.p.k (raises_own XE.p.b XE.p.t) (by rfl)))) pss_nil)
  (pss_cons (ps_expr (pe_meth (pv 0) T0.cl M_change GM_change (hr.mono (by decide)) bm_change .nil pass0 (pa_cons (pe_op op_addU (pe_op op_addU (pe_slice sl_U (pv 3) po_none (po_some (pv 2))) (pe_tup (pa_cons pe_non pa_nil))) (pe_slice sl_U (pv 3) (po_some (pe_op op_addU (pv 2) pe_int)) po_none)) (pa_cons (pv 4) (pa_cons (pv 1) pa_nil)))))
  (pss_one (ps_ret (pe_ix ix_seq (pv 3) (pv 2) (fun _ _ => rfl)))))))), raw_purge T0 h⟩
theorem okm_undo {f C : Addr} {fd : FuncData} (F : Fun K "undo" "Station.undo" s_st_undo f fd) (T0 : Txt K mg C) {T Cr Cd Cp Cn : Addr} (XE : Errs K mg T Cr Cd Cp Cn)  : FnOk P w K mg base (L2N.CX P w) 1 f fd ["self"] (sp_undo C Cn) := by
  refine okN F sc_st_undo (fun vs H Q E h => ?_) (fun cdv A outer s H vs Q E hr h => ?_)
  · obtain ⟨p, q, r, cs, rfl, _⟩ := h
    rfl
  · exact ⟨t_st_undo K C E Cn, (pss_cons (ps_if (pt_cmpR (op_eqD hr.units) (pe_fld (pv 0) rfl) (pe_lst pa_nil) (nomark _)) (pss_one (L2N.ps_raise rfl (L2N.takes_of rfl rfl rfl rfl) (L2N.pmk_own PySem.F.excBase_ValueError XE.n.x XE.n.g XE.n.k (raises_own XE.n.b XE.n.t) (by rfl)))) pss_nil)
  (pss_one (ps_fld (pv 0) (pe_bm0 PySem.F.plainAttrs_list PySem.F.slot_list_pop PySem.F.type_list_pop mt_pop (pe_fld (pv 0) rfl)) rfl))), raw_undo T0 h⟩
theorem okm_init {f C : Addr} {fd : FuncData} (F : Fun K "__init__" "Station.__init__" s_st_init f fd) (T0 : Txt K mg C) {T Cr Cd Cp Cn : Addr} (XE : Errs K mg T Cr Cd Cp Cn) {f_is_row : Addr} {fd_is_row : FuncData} (F_is_row : Fun K "is_row" "is_row" s_is_row f_is_row fd_is_row) (g_is_row : mg "is_row" = some (.ref f_is_row)) (b_is_row : Binds K fd_is_row ["value"] []) (G_is_row : FnOk P w K mg base CX0 2 f_is_row fd_is_row ["value"] (spD ct_is_row)) {f_empty : Addr} {fd_empty : FuncData} (F_empty : Fun K "empty" "empty" s_empty f_empty fd_empty) (g_empty : mg "empty" = some (.ref f_empty)) (b_empty : Binds K fd_empty ["row"] []) (G_empty : FnOk P w K mg base CX0 1 f_empty fd_empty ["row"] (spD ct_empty)) : FnOk P w K mg base (L2N.CX P w) 3 f fd ["self", "row"] (sp_init C Cr) := by
  refine okN F sc_st_init (fun vs H Q E h => ?_) (fun cdv A outer s H vs Q E hr h => ?_)
  · obtain ⟨p, dx, v, d, A, rfl, _⟩ := h
    rfl
  · exact ⟨t_st_init K C E Cr, (pss_cons (ps_if (pt_not (pt_val (pe_call G_is_row (hr.mono (by first | decide | (simp only [Nat.add_eq]; omega))) (by rfl) g_is_row F_is_row.kp b_is_row .nil pass0 (pa_cons (pv 1) pa_nil)))) (pss_one (L2N.ps_raise rfl (L2N.takes_of rfl rfl rfl rfl) (L2N.pmk_own PySem.F.excBase_ValueError XE.r.x XE.r.g XE.r.k (raises_own XE.r.b XE.r.t) (by rfl)))) pss_nil)
  (pss_cons (ps_fld (pv 0) (pv 1) rfl)
  (pss_cons (ps_fld (pv 0) (pe_tup (pa_cons (pe_call G_empty (hr.mono (by first | decide | (simp only [Nat.add_eq]; omega))) (by rfl) g_empty F_empty.kp b_empty .nil pass0 (pa_cons (pv 1) pa_nil)) (pa_cons (pe_tup pa_nil) (pa_cons pe_int pa_nil)))) rfl)
  (pss_one (ps_fld (pv 0) (pe_lst pa_nil) rfl))))), raw_init T0 h⟩
theorem okm_word {f : Addr} {fd : FuncData} (F : Fun K "_law_word" "_law_word" s_word f fd) {T Cr Cd Cp Cn : Addr} (XE : Errs K mg T Cr Cd Cp Cn) (m_isinstance : mg "isinstance" = none) : L2W.FnW P w K mg base 1 f fd ["e"] (sp_word Cr Cd Cp Cn) := by
  refine okW F sc_word (fun p vs H Q E h => ?_) (fun cdv A outer s H vs Q E p ht hr h => ?_)
  · obtain ⟨k, D, rfl, _⟩ := h
    rfl
  · obtain ⟨k, D, rfl, h1, h2, hf, hk, qq⟩ := h
    exact ⟨t_word K D p.1 Cr Cd Cp Cn, (pss_cons (ps_set (i := 1) sc_word.nd rfl (by first | exact .inl rfl | exact .inr rfl) (pe_lst (pa_cons (pe_tup (pa_cons pe_str (pa_cons (pe_callB (L2W.call_isP List.mem_cons_self (XE.exc hk) h1 h2 hf) (by rfl) m_isinstance (by decide +kernel) (pa_cons (pv 0) (pa_cons (pe_glob (v := .ref Cr) (by rfl) XE.r.g rfl) pa_nil))) pa_nil))) (pa_cons (pe_tup (pa_cons pe_str (pa_cons (pe_callB (L2W.call_isP List.mem_cons_self (XE.exc hk) h1 h2 hf) (by rfl) m_isinstance (by decide +kernel) (pa_cons (pv 0) (pa_cons (pe_glob (v := .ref Cd) (by rfl) XE.d.g rfl) pa_nil))) pa_nil))) pa_nil))))
  (pss_cons (ps_set (i := 1) sc_word.nd rfl (by first | exact .inl rfl | exact .inr rfl) (pe_op op_addU (pv 1) (pe_lst (pa_cons (pe_tup (pa_cons pe_str (pa_cons (pe_callB (L2W.call_isP List.mem_cons_self (XE.exc hk) h1 h2 hf) (by rfl) m_isinstance (by decide +kernel) (pa_cons (pv 0) (pa_cons (pe_glob (v := .ref Cp) (by rfl) XE.p.g rfl) pa_nil))) pa_nil))) (pa_cons (pe_tup (pa_cons pe_str (pa_cons (pe_callB (L2W.call_isP List.mem_cons_self (XE.exc hk) h1 h2 hf) (by rfl) m_isinstance (by decide +kernel) (pa_cons (pv 0) (pa_cons (pe_glob (v := .ref Cn) (by rfl) XE.n.g rfl) pa_nil))) pa_nil))) pa_nil)))))
  (pss_one (ps_ret (pe_join pe_str (L2W.pe_lcH (own := [("word", 2), ("good", 3)]) (g := (gTup K 2 (gCons (gName 2) (gCons (gName 3) gNil)))) ⟨p, ht, List.mem_cons_self⟩ sc_word.nd (L2W.pi_listH (pv 1)) (blkOk_by (N := ["e", "some", "word", "good"]) (sc := defScope s_word) (by decide +kernel)) (fun _ _ _ _ _ => L2W.pg_tupH (n := 2) ⟨p, ht, List.mem_cons_self⟩ (pgs_cons (pg_name (i := 2) sc_word.nd rfl (by first | exact .inl rfl | exact .inr rfl)) (pgs_cons (pg_name (i := 3) sc_word.nd rfl (by first | exact .inl rfl | exact .inr rfl)) pgs_nil))) (fun _ _ _ _ _ => pts_one (pt_val (pv 3))) (fun _ _ _ _ _ => (pv 2)))))))), raw_word XE hk qq⟩
theorem okm_call {f C : Addr} {fd : FuncData} (F : Fun K "_law_call" "_law_call" s_call f fd) (T0 : Txt K mg C) {T Cr Cd Cp Cn : Addr} (XE : Errs K mg T Cr Cd Cp Cn) {f_word : Addr} {fd_word : FuncData} (F_word : Fun K "_law_word" "_law_word" s_word f_word fd_word) (g_word : mg "_law_word" = some (.ref f_word)) (b_word : Binds K fd_word ["e"] []) (GW : L2W.FnW P w K mg base 1 f_word fd_word ["e"] (sp_word Cr Cd Cp Cn)) {fm_read : Addr} {fdm_read : FuncData} (bm_read : Binds K fdm_read ["self", "time", "client"] []) (GM_read : FnOk P w K mg base (L2N.CX P w) 2 fm_read fdm_read ["self", "time", "client"] (sp_read C Cd)) (M_read : Meth K C "read" fm_read) {fm_purge : Addr} {fdm_purge : FuncData} (bm_purge : Binds K fdm_purge ["self", "time", "cache"] []) (GM_purge : FnOk P w K mg base (L2N.CX P w) 2 fm_purge fdm_purge ["self", "time", "cache"] (sp_purge C Cp)) (M_purge : Meth K C "purge" fm_purge) {fm_undo : Addr} {fdm_undo : FuncData} (bm_undo : Binds K fdm_undo ["self"] []) (GM_undo : FnOk P w K mg base (L2N.CX P w) 1 fm_undo fdm_undo ["self"] (sp_undo C Cn)) (M_undo : Meth K C "undo" fm_undo) : FnOk P w K mg base CX0 3 f fd ["station", "way", "time", "index"] (sp_call C) := by
  refine F.ok sc_call (fun vs H Q E h => ?_) (fun cdv A outer s H vs Q E hr h => ?_)
  · obtain ⟨p, q, r, cs, w, vt, vi, dt, di, n, m, rfl, _⟩ := h
    rfl
  · exact ⟨t_call K C T Cr Cd Cp Cn, (pss_one (L2N.ps_try_as (i := 4) (tb := fun W => t_call_body K C Cd Cp Cn (WE W)) (ts := fun a cls d => tRet (tSay Cr Cd Cp Cn 4 a cls d)) (Wout := fun _ _ _ _ => False) rfl rfl sc_call.nd rfl rfl ⟨rfl, by decide, .inl XE.g⟩ take0N (fun W pn xe tk po => (pss_cons (ps_if (pt_cmpR op_lt (pv 1) pe_int (nomark _)) (pss_one (ps_ret (L2W.pe_methE (pv 0) T0.cl M_read GM_read (hr.mono (by decide)) bm_read (L2N.passAt tk) (pa_cons (pv 2) (pa_cons (pv 3) pa_nil))))) pss_nil)
  (pss_one (ps_ret (pe_ifExp (pt_cmpR (op_eqD hr.units) (pv 1) pe_int (nomark _)) (L2W.pe_methE (pv 0) T0.cl M_purge GM_purge (hr.mono (by decide)) bm_purge (L2N.passAt tk) (pa_cons (pv 2) (pa_cons (pv 3) pa_nil))) (L2W.pe_methE0 (pv 0) T0.cl M_undo GM_undo (hr.mono (by decide)) bm_undo (L2N.passAt tk))))))) (fun a oe cls d pn hz hf => (pss_one (ps_ret (pe_say hz hf (L2W.pe_callW GW (roomS (hr.mono (by decide))) ⟨rfl, hf.elim fun vs e => ⟨vs, e, hz.2.2 vs e⟩⟩ List.mem_cons_self (by rfl) g_word F_word.kp b_word (pa_cons (pv 4) pa_nil)))))))), raw_call17 T0 XE h⟩
theorem okm_made {f C : Addr} {fd : FuncData} (F : Fun K "_law_made" "_law_made" s_made f fd) (T0 : Txt K mg C) {T Cr Cd Cp Cn : Addr} (XE : Errs K mg T Cr Cd Cp Cn) {f_word : Addr} {fd_word : FuncData} (F_word : Fun K "_law_word" "_law_word" s_word f_word fd_word) (g_word : mg "_law_word" = some (.ref f_word)) (b_word : Binds K fd_word ["e"] []) (GW : L2W.FnW P w K mg base 1 f_word fd_word ["e"] (sp_word Cr Cd Cp Cn)) {fm_init : Addr} {fdm_init : FuncData} (bm_init : Binds K fdm_init ["self", "row"] []) (GM_init : FnOk P w K mg base (L2N.CX P w) 3 fm_init fdm_init ["self", "row"] (sp_init C Cr)) (MK : Mk K C fm_init) : FnOk P w K mg base CX0 5 f fd ["item"] (spD ct_made) := by
  refine F.ok sc_made (fun vs H Q E h => ?_) (fun cdv A outer s H vs Q E hr h => ?_)
  · obtain ⟨B, ds, p, Z, hl, dom, ar, _⟩ := h
    exact ar.len.trans hl
  · exact ⟨t_made K C T Cr Cd Cp Cn, (pss_cons (L2N.ps_try_as (i := 1) (tb := fun W => tDrop (L2W.tMakeE C (sp_init C Cr) (WE W) (tCons (tVar 0) tNil))) (ts := fun a cls d => tRet (tSay Cr Cd Cp Cn 1 a cls d)) (Wout := fun _ _ _ _ => False) rfl rfl sc_made.nd rfl rfl ⟨rfl, by decide, .inl XE.g⟩ take0N (fun W pn xe tk po => (pss_one (ps_expr (L2W.pe_makeE MK GM_init (hr.mono (by decide)) (by rfl) T0.mgC bm_init (L2N.passAt tk) (pa_cons (pv 0) pa_nil))))) (fun a oe cls d pn hz hf => (pss_one (ps_ret (pe_say hz hf (L2W.pe_callW GW (roomS (hr.mono (by decide))) ⟨rfl, hf.elim fun vs e => ⟨vs, e, hz.2.2 vs e⟩⟩ List.mem_cons_self (by rfl) g_word F_word.kp b_word (pa_cons (pv 1) pa_nil)))))))
  (pss_one (ps_ret pe_str))), raw_made XE h⟩
theorem okm_law {f C Cr : Addr} {fd : FuncData} (F : Fun K "law" "law" s_law f fd) (T0 : Txt K mg C) {f_call : Addr} {fd_call : FuncData} (F_call : Fun K "_law_call" "_law_call" s_call f_call fd_call) (g_call : mg "_law_call" = some (.ref f_call)) (b_call : Binds K fd_call ["station", "way", "time", "index"] []) (G_call : FnOk P w K mg base CX0 3 f_call fd_call ["station", "way", "time", "index"] (sp_call C)) {f_now : Addr} {fd_now : FuncData} (F_now : Fun K "_law_now" "_law_now" s_now f_now fd_now) (g_now : mg "_law_now" = some (.ref f_now)) (b_now : Binds K fd_now ["row", "calls"] []) (G_now : FnOk P w K mg base CX0 10 f_now fd_now ["row", "calls"] (spD ct_now)) {f_draw : Addr} {fd_draw : FuncData} (F_draw : Fun K "_law_draw" "_law_draw" s_draw f_draw fd_draw) (g_draw : mg "_law_draw" = some (.ref f_draw)) (b_draw : Binds K fd_draw ["tape", "many"] []) (G_draw : FnOk P w K mg base CX0 1 f_draw fd_draw ["tape", "many"] (spD ct_draw)) {f_within : Addr} {fd_within : FuncData} (F_within : Fun K "_law_within" "_law_within" s_within f_within fd_within) (g_within : mg "_law_within" = some (.ref f_within)) (b_within : Binds K fd_within ["item", "low", "high"] []) (G_within : FnOk P w K mg base CX0 2 f_within fd_within ["item", "low", "high"] (spD ct_within)) {f_like2 : Addr} {fd_like2 : FuncData} (F_like2 : Fun K "_law_like" "_law_like" s_like2 f_like2 fd_like2) (g_like2 : mg "_law_like" = some (.ref f_like2)) (b_like2 : Binds K fd_like2 ["one", "two"] []) (G_like2 : FnOk P w K mg base CX0 4 f_like2 fd_like2 ["one", "two"] (spD (ct_like2 4))) {f_row : Addr} {fd_row : FuncData} (F_row : Fun K "_law_row" "_law_row" s_row f_row fd_row) (g_row : mg "_law_row" = some (.ref f_row)) (b_row : Binds K fd_row ["tape", "caches", "longest", "clients"] []) (G_row : FnOk P w K mg base CX0 2 f_row fd_row ["tape", "caches", "longest", "clients"] (spD ct_row)) {f_made : Addr} {fd_made : FuncData} (F_made : Fun K "_law_made" "_law_made" s_made f_made fd_made) (g_made : mg "_law_made" = some (.ref f_made)) (b_made : Binds K fd_made ["item"] []) (G_made : FnOk P w K mg base CX0 5 f_made fd_made ["item"] (spD ct_made)) (m_len : mg "len" = none) (m_max : mg "max" = none) (m_range : mg "range" = none) {fm_entries : Addr} {fdm_entries : FuncData} (bm_entries : Binds K fdm_entries ["self"] []) (GM_entries : FnOk P w K mg base CX0 1 fm_entries fdm_entries ["self"] (sp_entries C)) (M_entries : Meth K C "entries" fm_entries) {fm_log : Addr} {fdm_log : FuncData} (bm_log : Binds K fdm_log ["self"] []) (GM_log : FnOk P w K mg base CX0 1 fm_log fdm_log ["self"] (sp_log C)) (M_log : Meth K C "log" fm_log) {fm_len : Addr} {fdm_len : FuncData} (bm_len : Binds K fdm_len ["self"] []) (GM_len : FnOk P w K mg base CX0 1 fm_len fdm_len ["self"] (sp_len C)) {fm_eq : Addr} {fdm_eq : FuncData} (bm_eq : Binds K fdm_eq ["self", "other"] []) (GM_eq : FnOk P w K mg base CX0 1 fm_eq fdm_eq ["self", "other"] (sp_eq C)) {fm_init : Addr} {fdm_init : FuncData} (bm_init : Binds K fdm_init ["self", "row"] []) (GM_init : FnOk P w K mg base (L2N.CX P w) 3 fm_init fdm_init ["self", "row"] (sp_init C Cr)) (MK : Mk K C fm_init) (m_list : mg "list" = none) (Q_eq : PySem.W.findIn K (.ref C) "__eq__" = some (some (.ref fm_eq)) ∧ PySem.W.isFn K (.ref fm_eq) = true ∧ PySem.W.subIn K (.type "tuple") (.ref C) = some false) (Q_ne : PySem.W.findIn K (.ref C) "__ne__" = some (some (.builtin "object.__ne__")) ∧ PySem.W.subIn K (.ref C) (.type "object") = some true) (Q_len : PySem.W.findIn K (.ref C) "__len__" = some (some (.ref fm_len)) ∧ PySem.W.isFn K (.ref fm_len) = true) : FnOk P w K mg base CX0 11 f fd ["script"] (spLaw K) := by
  refine F.ok sc_law (fun vs H Q E h => ?_) (fun cdv A outer s H vs Q E hr h => ?_)
  · obtain ⟨a, ns, rfl, _⟩ := h
    rfl
  · obtain ⟨a, ns, rfl, hS, hl, q⟩ := h
    exact ⟨tSeq (tHead K) (t_law17 K C Cr), pss_cons (ps_set (i := 1) sc_law.nd rfl (by first | exact .inl rfl | exact .inr rfl) (pe_lst (pa_cons (pe_callTy call_listOf (by rfl) m_list (by decide +kernel) (pa_cons (pv 0) pa_nil)) (pa_cons pe_int (pa_cons pe_int pa_nil)))))
  (pss_cons (ps_set (i := 2) sc_law.nd rfl (by first | exact .inl rfl | exact .inr rfl) (pe_call G_row (hr.mono (by first | decide | (simp only [Nat.add_eq]; omega))) (by rfl) g_row F_row.kp b_row .nil pass0 (pa_cons (pv 1) (pa_cons pe_int (pa_cons pe_int (pa_cons pe_int pa_nil))))))
  (pss_cons (ps_par (i := 3) (j := 4) rfl sc_law.nd rfl rfl (by decide) rfl rfl (pa_cons (L2W.pe_makeE (E := fun _ => E0) MK GM_init (hr.mono (by decide)) (by rfl) T0.mgC bm_init pass0N (pa_cons (pv 2) pa_nil)) (pa_cons (pe_lst pa_nil) pa_nil)) (by rfl))
  (pss_cons (ps_for PassesOwn.never rfl (pi_range1 (by rfl) m_range (pa_cons pe_int pa_nil)) (pg_name (i := 5) sc_law.nd rfl (by first | exact .inl rfl | exact .inr rfl)) (pss_cons (ps_asg (pe_call G_now (hr.mono (by first | decide | (simp only [Nat.add_eq]; omega))) (by rfl) g_now F_now.kp b_now .nil pass0 (pa_cons (pv 2) (pa_cons (pv 4) pa_nil))) (pg_tupK (n := 2) rfl (pgs_cons (pg_name (i := 6) sc_law.nd rfl (by first | exact .inl rfl | exact .inr rfl)) (pgs_cons (pg_name (i := 7) sc_law.nd rfl (by first | exact .inl rfl | exact .inr rfl)) pgs_nil))))
  (pss_cons (ps_set (i := 8) sc_law.nd rfl (by first | exact .inl rfl | exact .inr rfl) (pe_ifExp (pt_cmpR (op_neD hr.units) (pv 4) (pe_lst pa_nil) (nomark _)) (pe_ix ix_seq (pe_ix ix_seq (pv 4) (pe_un un_neg pe_int) (fun _ _ => rfl)) pe_int (fun _ _ => rfl)) pe_int))
  (pss_cons (ps_par (i := 9) (j := 10) rfl sc_law.nd rfl rfl (by decide) rfl rfl (pa_cons (pe_call G_draw (hr.mono (by first | decide | (simp only [Nat.add_eq]; omega))) (by rfl) g_draw F_draw.kp b_draw .nil pass0 (pa_cons (pv 1) (pa_cons pe_int pa_nil))) (pa_cons (pe_callB call_lenU (by rfl) m_len (by decide +kernel) (pa_cons (pe_ix ix_seq (pv 2) pe_int (fun _ _ => rfl)) pa_nil)) pa_nil)) (by rfl))
  (pss_cons (ps_if (pt_cmpR (op_eqD hr.units) (pv 9) pe_int (nomark _)) (pss_one (ps_set (i := 10) sc_law.nd rfl (by first | exact .inl rfl | exact .inr rfl) (pe_callB call_lenU (by rfl) m_len (by decide +kernel) (pa_cons (pe_ix ix_seq (pv 2) pe_int (fun _ _ => rfl)) pa_nil)))) pss_nil)
  (pss_cons (ps_set (i := 11) sc_law.nd rfl (by first | exact .inl rfl | exact .inr rfl) (pe_ix ix_seq (pe_lst (pa_cons (pv 8) (pa_cons (pe_op op_addU (pv 8) pe_int) (pa_cons (pe_op op_addU (pv 8) (pe_call G_draw (hr.mono (by first | decide | (simp only [Nat.add_eq]; omega))) (by rfl) g_draw F_draw.kp b_draw .nil pass0 (pa_cons (pv 1) (pa_cons pe_int pa_nil)))) (pa_cons (pe_op op_sub (pv 8) pe_int) (pa_cons pe_non (pa_cons (pe_op op_addU (pe_op op_pow pe_int pe_int) pe_int) (pa_cons pe_bl pa_nil)))))))) (pe_call G_draw (hr.mono (by first | decide | (simp only [Nat.add_eq]; omega))) (by rfl) g_draw F_draw.kp b_draw .nil pass0 (pa_cons (pv 1) (pa_cons pe_int pa_nil))) (fun _ _ => rfl)))
  (pss_cons (ps_set (i := 12) sc_law.nd rfl (by first | exact .inl rfl | exact .inr rfl) (pe_ix ix_seq (pe_lst (pa_cons pe_int (pa_cons (pe_call G_draw (hr.mono (by first | decide | (simp only [Nat.add_eq]; omega))) (by rfl) g_draw F_draw.kp b_draw .nil pass0 (pa_cons (pv 1) (pa_cons (pe_op op_addU (pv 10) pe_int) pa_nil))) (pa_cons (pv 10) (pa_cons (pe_un un_neg pe_int) (pa_cons pe_bl (pa_cons pe_str pa_nil))))))) (pe_callB (call_max2 rfl) (by rfl) m_max (by decide +kernel) (pa_cons pe_int (pa_cons (pe_op op_sub (pe_call G_draw (hr.mono (by first | decide | (simp only [Nat.add_eq]; omega))) (by rfl) g_draw F_draw.kp b_draw .nil pass0 (pa_cons (pv 1) (pa_cons pe_int pa_nil))) pe_int) pa_nil))) (fun _ _ => rfl)))
  (pss_cons (ps_set (i := 13) sc_law.nd rfl (by first | exact .inl rfl | exact .inr rfl) (pe_call G_call (hr.mono (by decide)) (by rfl) g_call F_call.kp b_call .nil pass0 (pa_cons (pv 3) (pa_cons (pv 9) (pa_cons (pv 11) (pa_cons (pv 12) pa_nil))))))
  (pss_cons (ps_if (pt_cmpR (op_eqD hr.units) (pv 9) pe_int (nomark _)) (pss_cons (ps_set (i := 14) sc_law.nd rfl (by first | exact .inl rfl | exact .inr rfl) (pe_ifExp (pt_cmpR (op_eqD hr.units) (pv 4) (pe_lst pa_nil) (nomark _)) pe_str pe_non))
  (pss_one (ps_set (i := 4) sc_law.nd rfl (by first | exact .inl rfl | exact .inr rfl) (pe_slice sl_U (pv 4) po_none (po_some (pe_un un_neg pe_int)))))) (pss_one (ps_if (PW.pt (pw_or (pt_not (pt_val (pe_call G_within (hr.mono (by first | decide | (simp only [Nat.add_eq]; omega))) (by rfl) g_within F_within.kp b_within .nil pass0 (pa_cons (pv 11) (pa_cons (pv 8) (pa_cons (pe_op op_pow pe_int pe_int) pa_nil)))))) (pw_or1 (pt_not (pt_val (pe_call G_within (hr.mono (by first | decide | (simp only [Nat.add_eq]; omega))) (by rfl) g_within F_within.kp b_within .nil pass0 (pa_cons (pv 12) (pa_cons pe_int (pa_cons (pe_op op_sub (pv 10) pe_int) pa_nil))))))))) (pss_one (ps_set (i := 14) sc_law.nd rfl (by first | exact .inl rfl | exact .inr rfl) (pe_ifExp (pt_cmpR (op_eqD hr.units) (pv 9) pe_int (nomark _)) pe_str pe_str))) (pss_cons (ps_set (i := 4) sc_law.nd rfl (by first | exact .inl rfl | exact .inr rfl) (pe_op op_addU (pv 4) (pe_lst (pa_cons (pe_tup (pa_cons (pv 9) (pa_cons (pv 11) (pa_cons (pv 12) pa_nil)))) pa_nil))))
  (pss_one (ps_set (i := 14) sc_law.nd rfl (by first | exact .inl rfl | exact .inr rfl) (pe_ifExp (pt_cmpR (op_eqD hr.units) (pv 9) pe_int (nomark _)) (pe_ix ix_seq (pv 6) (pv 12) (fun _ _ => rfl)) (pe_ix ix_seq (pe_ix ix_seq (pe_ix ix_seq (pe_call G_now (hr.mono (by first | decide | (simp only [Nat.add_eq]; omega))) (by rfl) g_now F_now.kp b_now .nil pass0 (pa_cons (pv 2) (pa_cons (pv 4) pa_nil))) pe_int (fun _ _ => rfl)) (pe_un un_neg pe_int) (fun _ _ => rfl)) pe_int (fun _ _ => rfl)))))))))
  (pss_cons (ps_if (pt_not (pt_val (pe_call G_like2 (hr.mono (by first | decide | (simp only [Nat.add_eq]; omega))) (by rfl) g_like2 F_like2.kp b_like2 .nil pass0 (pa_cons (pv 13) (pa_cons (pv 14) pa_nil))))) (pss_one (ps_ret pe_bl)) pss_nil)
  (pss_cons (ps_asg (pe_call G_now (hr.mono (by first | decide | (simp only [Nat.add_eq]; omega))) (by rfl) g_now F_now.kp b_now .nil pass0 (pa_cons (pv 2) (pa_cons (pv 4) pa_nil))) (pg_tupK (n := 2) rfl (pgs_cons (pg_name (i := 6) sc_law.nd rfl (by first | exact .inl rfl | exact .inr rfl)) (pgs_cons (pg_name (i := 7) sc_law.nd rfl (by first | exact .inl rfl | exact .inr rfl)) pgs_nil))))
  (pss_cons (ps_if (PW.pt (pw_or (pt_not (pt_val (pe_call G_like2 (hr.mono (by first | decide | (simp only [Nat.add_eq]; omega))) (by rfl) g_like2 F_like2.kp b_like2 .nil pass0 (pa_cons (pe_meth0 (pv 3) T0.cl M_entries GM_entries (hr.mono (by decide)) bm_entries .nil pass0) (pa_cons (pv 6) pa_nil))))) (pw_or1 (pt_not (pt_val (pe_call G_like2 (hr.mono (by first | decide | (simp only [Nat.add_eq]; omega))) (by rfl) g_like2 F_like2.kp b_like2 .nil pass0 (pa_cons (pe_meth0 (pv 3) T0.cl M_log GM_log (hr.mono (by decide)) bm_log .nil pass0) (pa_cons (pv 7) pa_nil)))))))) (pss_one (ps_ret pe_bl)) pss_nil)
  (pss_cons (ps_if (pt_cmpR (op_neD hr.units) (pe_callB (L2W.call_lenO GM_len (hr.mono (by decide)) Q_len.1 Q_len.2 bm_len) (by rfl) m_len (by decide +kernel) (pa_cons (pv 3) pa_nil)) (pe_callB call_lenU (by rfl) m_len (by decide +kernel) (pa_cons (pv 7) pa_nil)) (nomark _)) (pss_one (ps_ret pe_bl)) pss_nil)
  (pss_cons (ps_set (i := 15) sc_law.nd rfl (by first | exact .inl rfl | exact .inr rfl) (pe_and (pe_cmpR (op_eqD hr.units) (pv 7) (pe_lst pa_nil) (nomark _)) (pe_one (pe_cmpR (op_eqD hr.units) (pv 6) (pe_op op_mulU (pe_lst (pa_cons pe_non pa_nil)) (pe_callB call_lenU (by rfl) m_len (by decide +kernel) (pa_cons (pv 6) pa_nil))) (nomark _)))))
  (pss_one (ps_if (PW.pt (pw_or (pt_cmpR (L2W.op_neO GM_eq (hr.mono (by decide)) Q_eq.1 Q_eq.2.1 bm_eq Q_ne.1 Q_ne.2) (pv 3) (pv 3) (nomark _)) (pw_or (pt_cmpR (L2W.op_eqO GM_eq (hr.mono (by decide)) Q_eq.1 Q_eq.2.1 bm_eq Q_eq.2.2) (pv 3) (pv 2) (nomark _)) (pw_or1 (pt_cmpR (op_neD hr.units) (pe_cmpR (L2W.op_eqO GM_eq (hr.mono (by decide)) Q_eq.1 Q_eq.2.1 bm_eq Q_eq.2.2) (pv 3) (L2W.pe_makeE (E := fun _ => E0) MK GM_init (hr.mono (by decide)) (by rfl) T0.mgC bm_init pass0N (pa_cons (pv 2) pa_nil)) (nomark _)) (pv 15) (nomark _)))))) (pss_one (ps_ret pe_bl)) pss_nil))))))))))))))))
  (pss_cons (ps_set (i := 16) sc_law.nd rfl (by first | exact .inl rfl | exact .inr rfl) (pe_lst (pa_cons pe_non (pa_cons (pe_tup pa_nil) (pa_cons (pe_tup (pa_cons (pe_tup (pa_cons pe_int pa_nil)) (pa_cons (pe_tup (pa_cons pe_int pa_nil)) pa_nil))) (pa_cons (pe_tup (pa_cons (pe_tup (pa_cons pe_int pa_nil)) (pa_cons (pe_tup pa_nil) pa_nil))) (pa_cons (pe_lst (pa_cons (pe_tup (pa_cons pe_int pa_nil)) (pa_cons (pe_tup (pa_cons pe_int pa_nil)) pa_nil))) pa_nil)))))))
  (pss_one (ps_ret (pe_and (pe_cmpR (op_eqD hr.units) (pe_lc (own := [("item", 17)]) (g := (gName 17)) rfl sc_law.nd (pi_seq (pv 16)) (blkOk_by (N := ["script", "tape", "row", "station", "calls", "turn", "held", "log", "now", "way", "bound", "time", "index", "told", "due", "fresh", "bad", "item"]) (sc := defScope s_law) (by decide +kernel)) (fun _ _ _ _ _ => (pg_name (i := 17) sc_law.nd rfl (by first | exact .inl rfl | exact .inr rfl))) (fun _ _ _ _ _ => pts_nil) (fun _ _ _ _ _ => (pe_call G_made (hr.mono (by first | decide | (simp only [Nat.add_eq]; omega))) (by rfl) g_made F_made.kp b_made .nil pass0 (pa_cons (pv 17) pa_nil)))) (pe_op op_mulU (pe_lst (pa_cons pe_str pa_nil)) pe_int) (nomark _)) (pe_one (pe_cmpR (op_eqD hr.units) (pe_call G_made (hr.mono (by first | decide | (simp only [Nat.add_eq]; omega))) (by rfl) g_made F_made.kp b_made .nil pass0 (pa_cons (pe_tup (pa_cons (pe_tup pa_nil) (pa_cons (pe_tup (pa_cons pe_int pa_nil)) pa_nil))) pa_nil)) pe_str (nomark _)))))))))), raw_top hS hl q⟩
end
theorem all_mk {l : PySem.W.OpenLaw} {w : World} {K : PySem.W.Frag} {h : Heap} {mg : Str → Option Value} {fa : Addr} (X : K.In h) (G : h.Ns mainGlobals mg) (hfa : mg "law" = some (.ref fa))
    {f_is_integer : Addr} {od_is_integer an_is_integer : Option Addr} {sl_is_integer : Array (Option Value)} {oc_is_integer kV_is_integer dc_is_integer pm_is_integer cd_is_integer cx_is_integer : Value}
    {f_is_row : Addr} {od_is_row an_is_row : Option Addr} {sl_is_row : Array (Option Value)} {oc_is_row kV_is_row dc_is_row pm_is_row cd_is_row cx_is_row : Value}
    {f_empty : Addr} {od_empty an_empty : Option Addr} {sl_empty : Array (Option Value)} {oc_empty kV_empty dc_empty pm_empty cd_empty cx_empty : Value}
    {f_read : Addr} {od_read an_read : Option Addr} {sl_read : Array (Option Value)} {oc_read kV_read dc_read pm_read cd_read cx_read : Value}
    {f_ask : Addr} {od_ask an_ask : Option Addr} {sl_ask : Array (Option Value)} {oc_ask kV_ask dc_ask pm_ask cd_ask cx_ask : Value}
    {f_now : Addr} {od_now an_now : Option Addr} {sl_now : Array (Option Value)} {oc_now kV_now dc_now pm_now cd_now cx_now : Value}
    {f_draw : Addr} {od_draw an_draw : Option Addr} {sl_draw : Array (Option Value)} {oc_draw kV_draw dc_draw pm_draw cd_draw cx_draw : Value}
    {f_whole : Addr} {od_whole an_whole : Option Addr} {sl_whole : Array (Option Value)} {oc_whole kV_whole dc_whole pm_whole cd_whole cx_whole : Value}
    {f_within : Addr} {od_within an_within : Option Addr} {sl_within : Array (Option Value)} {oc_within kV_within dc_within pm_within cd_within cx_within : Value}
    {f_like2 : Addr} {od_like2 an_like2 : Option Addr} {sl_like2 : Array (Option Value)} {oc_like2 kV_like2 dc_like2 pm_like2 cd_like2 cx_like2 : Value}
    {f_row : Addr} {od_row an_row : Option Addr} {sl_row : Array (Option Value)} {oc_row kV_row dc_row pm_row cd_row cx_row : Value}
    {f_word : Addr} {od_word an_word : Option Addr} {sl_word : Array (Option Value)} {oc_word kV_word dc_word pm_word cd_word cx_word : Value}
    {f_call : Addr} {od_call an_call : Option Addr} {sl_call : Array (Option Value)} {oc_call kV_call dc_call pm_call cd_call cx_call : Value}
    {f_made : Addr} {od_made an_made : Option Addr} {sl_made : Array (Option Value)} {oc_made kV_made dc_made pm_made cd_made cx_made : Value}
    {f_law : Addr} {od_law an_law : Option Addr} {sl_law : Array (Option Value)} {oc_law kV_law dc_law pm_law cd_law cx_law : Value}
    {f_st_init : Addr} {od_st_init an_st_init : Option Addr} {sl_st_init : Array (Option Value)} {oc_st_init kV_st_init dc_st_init pm_st_init cd_st_init cx_st_init : Value}
    {f_st_change : Addr} {od_st_change an_st_change : Option Addr} {sl_st_change : Array (Option Value)} {oc_st_change kV_st_change dc_st_change pm_st_change cd_st_change cx_st_change : Value}
    {f_st_read : Addr} {od_st_read an_st_read : Option Addr} {sl_st_read : Array (Option Value)} {oc_st_read kV_st_read dc_st_read pm_st_read cd_st_read cx_st_read : Value}
    {f_st_purge : Addr} {od_st_purge an_st_purge : Option Addr} {sl_st_purge : Array (Option Value)} {oc_st_purge kV_st_purge dc_st_purge pm_st_purge cd_st_purge cx_st_purge : Value}
    {f_st_undo : Addr} {od_st_undo an_st_undo : Option Addr} {sl_st_undo : Array (Option Value)} {oc_st_undo kV_st_undo dc_st_undo pm_st_undo cd_st_undo cx_st_undo : Value}
    {f_st_entries : Addr} {od_st_entries an_st_entries : Option Addr} {sl_st_entries : Array (Option Value)} {oc_st_entries kV_st_entries dc_st_entries pm_st_entries cd_st_entries cx_st_entries : Value}
    {f_st_log : Addr} {od_st_log an_st_log : Option Addr} {sl_st_log : Array (Option Value)} {oc_st_log kV_st_log dc_st_log pm_st_log cd_st_log cx_st_log : Value}
    {f_st_len : Addr} {od_st_len an_st_len : Option Addr} {sl_st_len : Array (Option Value)} {oc_st_len kV_st_len dc_st_len pm_st_len cd_st_len cx_st_len : Value}
    {f_st_eq : Addr} {od_st_eq an_st_eq : Option Addr} {sl_st_eq : Array (Option Value)} {oc_st_eq kV_st_eq dc_st_eq pm_st_eq cd_st_eq cx_st_eq : Value}
    {C T Cr Cd Cp Cn : Addr}
    (a_is_integer : PySem.W.nsIn K mainGlobals "is_integer" = some (some (.ref f_is_integer))) (l_is_integer : K.lookup f_is_integer = some ⟨oc_is_integer, od_is_integer, .func (PySem.W.fnOf "is_integer" "is_integer" (defArgs s_is_integer) (defBody s_is_integer) (defScope s_is_integer) .none kV_is_integer dc_is_integer pm_is_integer an_is_integer cd_is_integer cx_is_integer), sl_is_integer⟩) (c_is_integer : PySem.W.codeIn K cd_is_integer "is_integer" = true) (k_is_integer : PySem.W.keepIn K (.ref f_is_integer) = true)
    (a_is_row : PySem.W.nsIn K mainGlobals "is_row" = some (some (.ref f_is_row))) (l_is_row : K.lookup f_is_row = some ⟨oc_is_row, od_is_row, .func (PySem.W.fnOf "is_row" "is_row" (defArgs s_is_row) (defBody s_is_row) (defScope s_is_row) .none kV_is_row dc_is_row pm_is_row an_is_row cd_is_row cx_is_row), sl_is_row⟩) (c_is_row : PySem.W.codeIn K cd_is_row "is_row" = true) (k_is_row : PySem.W.keepIn K (.ref f_is_row) = true)
    (a_empty : PySem.W.nsIn K mainGlobals "empty" = some (some (.ref f_empty))) (l_empty : K.lookup f_empty = some ⟨oc_empty, od_empty, .func (PySem.W.fnOf "empty" "empty" (defArgs s_empty) (defBody s_empty) (defScope s_empty) .none kV_empty dc_empty pm_empty an_empty cd_empty cx_empty), sl_empty⟩) (c_empty : PySem.W.codeIn K cd_empty "empty" = true) (k_empty : PySem.W.keepIn K (.ref f_empty) = true)
    (a_read : PySem.W.nsIn K mainGlobals "read_reading" = some (some (.ref f_read))) (l_read : K.lookup f_read = some ⟨oc_read, od_read, .func (PySem.W.fnOf "read" "read" (defArgs s_read) (defBody s_read) (defScope s_read) .none kV_read dc_read pm_read an_read cd_read cx_read), sl_read⟩) (c_read : PySem.W.codeIn K cd_read "read" = true) (k_read : PySem.W.keepIn K (.ref f_read) = true)
    (a_ask : PySem.W.nsIn K mainGlobals "_law_ask" = some (some (.ref f_ask))) (l_ask : K.lookup f_ask = some ⟨oc_ask, od_ask, .func (PySem.W.fnOf "_law_ask" "_law_ask" (defArgs s_ask) (defBody s_ask) (defScope s_ask) .none kV_ask dc_ask pm_ask an_ask cd_ask cx_ask), sl_ask⟩) (c_ask : PySem.W.codeIn K cd_ask "_law_ask" = true) (k_ask : PySem.W.keepIn K (.ref f_ask) = true)
    (a_now : PySem.W.nsIn K mainGlobals "_law_now" = some (some (.ref f_now))) (l_now : K.lookup f_now = some ⟨oc_now, od_now, .func (PySem.W.fnOf "_law_now" "_law_now" (defArgs s_now) (defBody s_now) (defScope s_now) .none kV_now dc_now pm_now an_now cd_now cx_now), sl_now⟩) (c_now : PySem.W.codeIn K cd_now "_law_now" = true) (k_now : PySem.W.keepIn K (.ref f_now) = true)
    (a_draw : PySem.W.nsIn K mainGlobals "_law_draw" = some (some (.ref f_draw))) (l_draw : K.lookup f_draw = some ⟨oc_draw, od_draw, .func (PySem.W.fnOf "_law_draw" "_law_draw" (defArgs s_draw) (defBody s_draw) (defScope s_draw) .none kV_draw dc_draw pm_draw an_draw cd_draw cx_draw), sl_draw⟩) (c_draw : PySem.W.codeIn K cd_draw "_law_draw" = true) (k_draw : PySem.W.keepIn K (.ref f_draw) = true)
    (a_whole : PySem.W.nsIn K mainGlobals "_law_whole" = some (some (.ref f_whole))) (l_whole : K.lookup f_whole = some ⟨oc_whole, od_whole, .func (PySem.W.fnOf "_law_whole" "_law_whole" (defArgs s_whole) (defBody s_whole) (defScope s_whole) .none kV_whole dc_whole pm_whole an_whole cd_whole cx_whole), sl_whole⟩) (c_whole : PySem.W.codeIn K cd_whole "_law_whole" = true) (k_whole : PySem.W.keepIn K (.ref f_whole) = true)
    (a_within : PySem.W.nsIn K mainGlobals "_law_within" = some (some (.ref f_within))) (l_within : K.lookup f_within = some ⟨oc_within, od_within, .func (PySem.W.fnOf "_law_within" "_law_within" (defArgs s_within) (defBody s_within) (defScope s_within) .none kV_within dc_within pm_within an_within cd_within cx_within), sl_within⟩) (c_within : PySem.W.codeIn K cd_within "_law_within" = true) (k_within : PySem.W.keepIn K (.ref f_within) = true)
    (a_like2 : PySem.W.nsIn K mainGlobals "_law_like" = some (some (.ref f_like2))) (l_like2 : K.lookup f_like2 = some ⟨oc_like2, od_like2, .func (PySem.W.fnOf "_law_like" "_law_like" (defArgs s_like2) (defBody s_like2) (defScope s_like2) .none kV_like2 dc_like2 pm_like2 an_like2 cd_like2 cx_like2), sl_like2⟩) (c_like2 : PySem.W.codeIn K cd_like2 "_law_like" = true) (k_like2 : PySem.W.keepIn K (.ref f_like2) = true)
    (a_row : PySem.W.nsIn K mainGlobals "_law_row" = some (some (.ref f_row))) (l_row : K.lookup f_row = some ⟨oc_row, od_row, .func (PySem.W.fnOf "_law_row" "_law_row" (defArgs s_row) (defBody s_row) (defScope s_row) .none kV_row dc_row pm_row an_row cd_row cx_row), sl_row⟩) (c_row : PySem.W.codeIn K cd_row "_law_row" = true) (k_row : PySem.W.keepIn K (.ref f_row) = true)
    (a_word : PySem.W.nsIn K mainGlobals "_law_word" = some (some (.ref f_word))) (l_word : K.lookup f_word = some ⟨oc_word, od_word, .func (PySem.W.fnOf "_law_word" "_law_word" (defArgs s_word) (defBody s_word) (defScope s_word) .none kV_word dc_word pm_word an_word cd_word cx_word), sl_word⟩) (c_word : PySem.W.codeIn K cd_word "_law_word" = true) (k_word : PySem.W.keepIn K (.ref f_word) = true)
    (a_call : PySem.W.nsIn K mainGlobals "_law_call" = some (some (.ref f_call))) (l_call : K.lookup f_call = some ⟨oc_call, od_call, .func (PySem.W.fnOf "_law_call" "_law_call" (defArgs s_call) (defBody s_call) (defScope s_call) .none kV_call dc_call pm_call an_call cd_call cx_call), sl_call⟩) (c_call : PySem.W.codeIn K cd_call "_law_call" = true) (k_call : PySem.W.keepIn K (.ref f_call) = true)
    (a_made : PySem.W.nsIn K mainGlobals "_law_made" = some (some (.ref f_made))) (l_made : K.lookup f_made = some ⟨oc_made, od_made, .func (PySem.W.fnOf "_law_made" "_law_made" (defArgs s_made) (defBody s_made) (defScope s_made) .none kV_made dc_made pm_made an_made cd_made cx_made), sl_made⟩) (c_made : PySem.W.codeIn K cd_made "_law_made" = true) (k_made : PySem.W.keepIn K (.ref f_made) = true)
    (a_law : PySem.W.nsIn K mainGlobals "law" = some (some (.ref f_law))) (l_law : K.lookup f_law = some ⟨oc_law, od_law, .func (PySem.W.fnOf "law" "law" (defArgs s_law) (defBody s_law) (defScope s_law) .none kV_law dc_law pm_law an_law cd_law cx_law), sl_law⟩) (c_law : PySem.W.codeIn K cd_law "law" = true) (k_law : PySem.W.keepIn K (.ref f_law) = true)
    (aC : PySem.W.nsIn K mainGlobals "Station" = some (some (.ref C)))
    (a_st_init : PySem.W.findIn K (.ref C) "__init__" = some (some (.ref f_st_init))) (i_st_init : PySem.W.isFn K (.ref f_st_init) = true) (l_st_init : K.lookup f_st_init = some ⟨oc_st_init, od_st_init, .func (PySem.W.fnOf "__init__" "Station.__init__" (defArgs s_st_init) (defBody s_st_init) (defScope s_st_init) .none kV_st_init dc_st_init pm_st_init an_st_init cd_st_init cx_st_init), sl_st_init⟩) (c_st_init : PySem.W.codeIn K cd_st_init "Station.__init__" = true) (k_st_init : PySem.W.keepIn K (.ref f_st_init) = true)
    (a_st_change : PySem.W.findIn K (.ref C) "change" = some (some (.ref f_st_change))) (i_st_change : PySem.W.isFn K (.ref f_st_change) = true) (l_st_change : K.lookup f_st_change = some ⟨oc_st_change, od_st_change, .func (PySem.W.fnOf "change" "Station.change" (defArgs s_st_change) (defBody s_st_change) (defScope s_st_change) .none kV_st_change dc_st_change pm_st_change an_st_change cd_st_change cx_st_change), sl_st_change⟩) (c_st_change : PySem.W.codeIn K cd_st_change "Station.change" = true) (k_st_change : PySem.W.keepIn K (.ref f_st_change) = true)
    (a_st_read : PySem.W.findIn K (.ref C) "read" = some (some (.ref f_st_read))) (i_st_read : PySem.W.isFn K (.ref f_st_read) = true) (l_st_read : K.lookup f_st_read = some ⟨oc_st_read, od_st_read, .func (PySem.W.fnOf "read" "Station.read" (defArgs s_st_read) (defBody s_st_read) (defScope s_st_read) .none kV_st_read dc_st_read pm_st_read an_st_read cd_st_read cx_st_read), sl_st_read⟩) (c_st_read : PySem.W.codeIn K cd_st_read "Station.read" = true) (k_st_read : PySem.W.keepIn K (.ref f_st_read) = true)
    (a_st_purge : PySem.W.findIn K (.ref C) "purge" = some (some (.ref f_st_purge))) (i_st_purge : PySem.W.isFn K (.ref f_st_purge) = true) (l_st_purge : K.lookup f_st_purge = some ⟨oc_st_purge, od_st_purge, .func (PySem.W.fnOf "purge" "Station.purge" (defArgs s_st_purge) (defBody s_st_purge) (defScope s_st_purge) .none kV_st_purge dc_st_purge pm_st_purge an_st_purge cd_st_purge cx_st_purge), sl_st_purge⟩) (c_st_purge : PySem.W.codeIn K cd_st_purge "Station.purge" = true) (k_st_purge : PySem.W.keepIn K (.ref f_st_purge) = true)
    (a_st_undo : PySem.W.findIn K (.ref C) "undo" = some (some (.ref f_st_undo))) (i_st_undo : PySem.W.isFn K (.ref f_st_undo) = true) (l_st_undo : K.lookup f_st_undo = some ⟨oc_st_undo, od_st_undo, .func (PySem.W.fnOf "undo" "Station.undo" (defArgs s_st_undo) (defBody s_st_undo) (defScope s_st_undo) .none kV_st_undo dc_st_undo pm_st_undo an_st_undo cd_st_undo cx_st_undo), sl_st_undo⟩) (c_st_undo : PySem.W.codeIn K cd_st_undo "Station.undo" = true) (k_st_undo : PySem.W.keepIn K (.ref f_st_undo) = true)
    (a_st_entries : PySem.W.findIn K (.ref C) "entries" = some (some (.ref f_st_entries))) (i_st_entries : PySem.W.isFn K (.ref f_st_entries) = true) (l_st_entries : K.lookup f_st_entries = some ⟨oc_st_entries, od_st_entries, .func (PySem.W.fnOf "entries" "Station.entries" (defArgs s_st_entries) (defBody s_st_entries) (defScope s_st_entries) .none kV_st_entries dc_st_entries pm_st_entries an_st_entries cd_st_entries cx_st_entries), sl_st_entries⟩) (c_st_entries : PySem.W.codeIn K cd_st_entries "Station.entries" = true) (k_st_entries : PySem.W.keepIn K (.ref f_st_entries) = true)
    (a_st_log : PySem.W.findIn K (.ref C) "log" = some (some (.ref f_st_log))) (i_st_log : PySem.W.isFn K (.ref f_st_log) = true) (l_st_log : K.lookup f_st_log = some ⟨oc_st_log, od_st_log, .func (PySem.W.fnOf "log" "Station.log" (defArgs s_st_log) (defBody s_st_log) (defScope s_st_log) .none kV_st_log dc_st_log pm_st_log an_st_log cd_st_log cx_st_log), sl_st_log⟩) (c_st_log : PySem.W.codeIn K cd_st_log "Station.log" = true) (k_st_log : PySem.W.keepIn K (.ref f_st_log) = true)
    (a_st_len : PySem.W.findIn K (.ref C) "__len__" = some (some (.ref f_st_len))) (i_st_len : PySem.W.isFn K (.ref f_st_len) = true) (l_st_len : K.lookup f_st_len = some ⟨oc_st_len, od_st_len, .func (PySem.W.fnOf "__len__" "Station.__len__" (defArgs s_st_len) (defBody s_st_len) (defScope s_st_len) .none kV_st_len dc_st_len pm_st_len an_st_len cd_st_len cx_st_len), sl_st_len⟩) (c_st_len : PySem.W.codeIn K cd_st_len "Station.__len__" = true) (k_st_len : PySem.W.keepIn K (.ref f_st_len) = true)
    (a_st_eq : PySem.W.findIn K (.ref C) "__eq__" = some (some (.ref f_st_eq))) (i_st_eq : PySem.W.isFn K (.ref f_st_eq) = true) (l_st_eq : K.lookup f_st_eq = some ⟨oc_st_eq, od_st_eq, .func (PySem.W.fnOf "__eq__" "Station.__eq__" (defArgs s_st_eq) (defBody s_st_eq) (defScope s_st_eq) .none kV_st_eq dc_st_eq pm_st_eq an_st_eq cd_st_eq cx_st_eq), sl_st_eq⟩) (c_st_eq : PySem.W.codeIn K cd_st_eq "Station.__eq__" = true) (k_st_eq : PySem.W.keepIn K (.ref f_st_eq) = true)
    (pg : PySem.W.plainGet K C Str.empty = true) (hd : PySem.W.hasDictIn K C = true) (po : PySem.W.plainOver K C = true) (sa : PySem.W.findIn K (.ref C) "__setattr__" = some (some (.builtin "object.__setattr__"))) (mk : PySem.W.makesIn K C = true) (kc : PySem.W.keepIn K (.ref C) = true)
    (nR : PySem.W.findIn K (.ref C) "row" = some none) (nS : PySem.W.findIn K (.ref C) "state" = some none) (nE : PySem.W.findIn K (.ref C) "earlier" = some none)
    (haC : PySem.W.findIn K (.ref C) "__class__" = some (some (.builtin "object.__class__"))) (hn : PySem.W.specialIn K (.builtin "object.__class__") "__get__" = some (some (.builtin "getset_descriptor.__get__"))) (ht : PySem.W.takesIn K (.builtin "object.__class__") = some true) (hmC : PySem.W.mroIn K C (.type "object") = some true) (tyC : PySem.W.typeIn K (.ref C) = some (.type "type")) (sT : PySem.W.subIn K (.type "tuple") (.ref C) = some false) (neC : PySem.W.findIn K (.ref C) "__ne__" = some (some (.builtin "object.__ne__"))) (soC : PySem.W.subIn K (.ref C) (.type "object") = some true)
    (aT : PySem.W.nsIn K mainGlobals "TierError" = some (some (.ref T))) (bT : PySem.W.subIn K (.ref T) (.type "BaseException") = some true) (hT : PySem.W.hasDictIn K T = true) (tT : PySem.W.typeIn K (.ref T) = some (.type "type"))
    (aCr : PySem.W.nsIn K mainGlobals "InvalidRow" = some (some (.ref Cr))) (xCr : PySem.W.excIn K Cr [Value.type "ValueError", Value.type "Exception", Value.type "BaseException", Value.type "object"] "ValueError.__new__" = true) (kCr : PySem.W.keepIn K (.ref Cr) = true) (bCr : PySem.W.subIn K (.ref Cr) (.type "BaseException") = some true) (tCr : PySem.W.typeIn K (.ref Cr) = some (.type "type")) (sCr : PySem.W.subIn K (.ref Cr) (.ref T) = some true)
    (hgCr : PySem.W.findIn K (.ref Cr) "__getattribute__" = some (some (.builtin "BaseException.__getattribute__"))) (hkCr : PySem.W.findIn K (.ref Cr) "__getattr__" = some none) (hdCr : PySem.W.hasDictIn K Cr = true) (haCr : PySem.W.findIn K (.ref Cr) "__class__" = some (some (.builtin "object.__class__"))) (hmCr : PySem.W.mroIn K Cr (.type "object") = some true)
    (aCd : PySem.W.nsIn K mainGlobals "InvalidRead" = some (some (.ref Cd))) (xCd : PySem.W.excIn K Cd [Value.type "ValueError", Value.type "Exception", Value.type "BaseException", Value.type "object"] "ValueError.__new__" = true) (kCd : PySem.W.keepIn K (.ref Cd) = true) (bCd : PySem.W.subIn K (.ref Cd) (.type "BaseException") = some true) (tCd : PySem.W.typeIn K (.ref Cd) = some (.type "type")) (sCd : PySem.W.subIn K (.ref Cd) (.ref T) = some true)
    (hgCd : PySem.W.findIn K (.ref Cd) "__getattribute__" = some (some (.builtin "BaseException.__getattribute__"))) (hkCd : PySem.W.findIn K (.ref Cd) "__getattr__" = some none) (hdCd : PySem.W.hasDictIn K Cd = true) (haCd : PySem.W.findIn K (.ref Cd) "__class__" = some (some (.builtin "object.__class__"))) (hmCd : PySem.W.mroIn K Cd (.type "object") = some true)
    (aCp : PySem.W.nsIn K mainGlobals "InvalidPurge" = some (some (.ref Cp))) (xCp : PySem.W.excIn K Cp [Value.type "ValueError", Value.type "Exception", Value.type "BaseException", Value.type "object"] "ValueError.__new__" = true) (kCp : PySem.W.keepIn K (.ref Cp) = true) (bCp : PySem.W.subIn K (.ref Cp) (.type "BaseException") = some true) (tCp : PySem.W.typeIn K (.ref Cp) = some (.type "type")) (sCp : PySem.W.subIn K (.ref Cp) (.ref T) = some true)
    (hgCp : PySem.W.findIn K (.ref Cp) "__getattribute__" = some (some (.builtin "BaseException.__getattribute__"))) (hkCp : PySem.W.findIn K (.ref Cp) "__getattr__" = some none) (hdCp : PySem.W.hasDictIn K Cp = true) (haCp : PySem.W.findIn K (.ref Cp) "__class__" = some (some (.builtin "object.__class__"))) (hmCp : PySem.W.mroIn K Cp (.type "object") = some true)
    (aCn : PySem.W.nsIn K mainGlobals "NothingToUndo" = some (some (.ref Cn))) (xCn : PySem.W.excIn K Cn [Value.type "ValueError", Value.type "Exception", Value.type "BaseException", Value.type "object"] "ValueError.__new__" = true) (kCn : PySem.W.keepIn K (.ref Cn) = true) (bCn : PySem.W.subIn K (.ref Cn) (.type "BaseException") = some true) (tCn : PySem.W.typeIn K (.ref Cn) = some (.type "type")) (sCn : PySem.W.subIn K (.ref Cn) (.ref T) = some true)
    (hgCn : PySem.W.findIn K (.ref Cn) "__getattribute__" = some (some (.builtin "BaseException.__getattribute__"))) (hkCn : PySem.W.findIn K (.ref Cn) "__getattr__" = some none) (hdCn : PySem.W.hasDictIn K Cn = true) (haCn : PySem.W.findIn K (.ref Cn) "__class__" = some (some (.builtin "object.__class__"))) (hmCn : PySem.W.mroIn K Cn (.type "object") = some true)
    (qrd : PySem.W.subIn K (.ref Cr) (.ref Cd) = some false)
    (qrp : PySem.W.subIn K (.ref Cr) (.ref Cp) = some false)
    (qrn : PySem.W.subIn K (.ref Cr) (.ref Cn) = some false)
    (qdr : PySem.W.subIn K (.ref Cd) (.ref Cr) = some false)
    (qdp : PySem.W.subIn K (.ref Cd) (.ref Cp) = some false)
    (qdn : PySem.W.subIn K (.ref Cd) (.ref Cn) = some false)
    (qpr : PySem.W.subIn K (.ref Cp) (.ref Cr) = some false)
    (qpd : PySem.W.subIn K (.ref Cp) (.ref Cd) = some false)
    (qpn : PySem.W.subIn K (.ref Cp) (.ref Cn) = some false)
    (qnr : PySem.W.subIn K (.ref Cn) (.ref Cr) = some false)
    (qnd : PySem.W.subIn K (.ref Cn) (.ref Cd) = some false)
    (qnp : PySem.W.subIn K (.ref Cn) (.ref Cp) = some false)
    (qrr : PySem.W.subIn K (.ref Cr) (.ref Cr) = some true)
    (qdd : PySem.W.subIn K (.ref Cd) (.ref Cd) = some true)
    (qpp : PySem.W.subIn K (.ref Cp) (.ref Cp) = some true)
    (qnn : PySem.W.subIn K (.ref Cn) (.ref Cn) = some true)
    (z_isinstance : PySem.W.nsIn K mainGlobals "isinstance" = some none)
    (z_int : PySem.W.nsIn K mainGlobals "int" = some none)
    (z_bool : PySem.W.nsIn K mainGlobals "bool" = some none)
    (z_tuple : PySem.W.nsIn K mainGlobals "tuple" = some none)
    (z_len : PySem.W.nsIn K mainGlobals "len" = some none)
    (z_all : PySem.W.nsIn K mainGlobals "all" = some none)
    (z_zip : PySem.W.nsIn K mainGlobals "zip" = some none)
    (z_list : PySem.W.nsIn K mainGlobals "list" = some none)
    (z_range : PySem.W.nsIn K mainGlobals "range" = some none)
    (z_min : PySem.W.nsIn K mainGlobals "min" = some none)
    (z_sorted : PySem.W.nsIn K mainGlobals "sorted" = some none)
    (z_max : PySem.W.nsIn K mainGlobals "max" = some none)
    {v_MAX_CACHES : Tok} (z_MAX_CACHES : PySem.W.nsIn K mainGlobals "MAX_CACHES" = some (some (.int 8 v_MAX_CACHES)))
    {v_MAX_LIFETIME : Tok} (z_MAX_LIFETIME : PySem.W.nsIn K mainGlobals "MAX_LIFETIME" = some (some (.int 1000 v_MAX_LIFETIME)))
    {v_MAX_CLIENTS : Tok} (z_MAX_CLIENTS : PySem.W.nsIn K mainGlobals "MAX_CLIENTS" = some (some (.int 5 v_MAX_CLIENTS)))
    {v_MAX_TIME : Tok} (z_MAX_TIME : PySem.W.nsIn K mainGlobals "MAX_TIME" = some (some (.int 1000000000 v_MAX_TIME))) :
    ∃ fd : FuncData, (∀ (s : Shared) (v : Value), BindsTo s fd ⟨[v], []⟩ [("script", v)]) ∧ ∀ base : Heap, K.In base → base.Ns mainGlobals mg → FnOk l.prog w K mg base CX0 11 fa fd ["script"] (spLaw K) := by
  have e := hfa.symm.trans (PySem.W.mg_of X G a_law)
  cases e
  have F_is_integer := fun_mk (st := s_is_integer) l_is_integer c_is_integer k_is_integer
  have b_is_integer := F_is_integer.binds (ps := ["value", "low", "high"]) fun _ _ _ _ _ _ us hl => match us, hl with | [_, _, _], _ => rfl
  have g_is_integer := PySem.W.mg_of X G a_is_integer
  have F_is_row := fun_mk (st := s_is_row) l_is_row c_is_row k_is_row
  have b_is_row := F_is_row.binds (ps := ["value"]) fun _ _ _ _ _ _ us hl => match us, hl with | [_], _ => rfl
  have g_is_row := PySem.W.mg_of X G a_is_row
  have F_empty := fun_mk (st := s_empty) l_empty c_empty k_empty
  have b_empty := F_empty.binds (ps := ["row"]) fun _ _ _ _ _ _ us hl => match us, hl with | [_], _ => rfl
  have g_empty := PySem.W.mg_of X G a_empty
  have F_read := fun_mk (st := s_read) l_read c_read k_read
  have b_read := F_read.binds (ps := ["row", "entries", "time", "client"]) fun _ _ _ _ _ _ us hl => match us, hl with | [_, _, _, _], _ => rfl
  have g_read := PySem.W.mg_of X G a_read
  have F_ask := fun_mk (st := s_ask) l_ask c_ask k_ask
  have b_ask := F_ask.binds (ps := ["row", "held", "time", "index"]) fun _ _ _ _ _ _ us hl => match us, hl with | [_, _, _, _], _ => rfl
  have g_ask := PySem.W.mg_of X G a_ask
  have F_now := fun_mk (st := s_now) l_now c_now k_now
  have b_now := F_now.binds (ps := ["row", "calls"]) fun _ _ _ _ _ _ us hl => match us, hl with | [_, _], _ => rfl
  have g_now := PySem.W.mg_of X G a_now
  have F_draw := fun_mk (st := s_draw) l_draw c_draw k_draw
  have b_draw := F_draw.binds (ps := ["tape", "many"]) fun _ _ _ _ _ _ us hl => match us, hl with | [_, _], _ => rfl
  have g_draw := PySem.W.mg_of X G a_draw
  have F_whole := fun_mk (st := s_whole) l_whole c_whole k_whole
  have b_whole := F_whole.binds (ps := ["item"]) fun _ _ _ _ _ _ us hl => match us, hl with | [_], _ => rfl
  have g_whole := PySem.W.mg_of X G a_whole
  have F_within := fun_mk (st := s_within) l_within c_within k_within
  have b_within := F_within.binds (ps := ["item", "low", "high"]) fun _ _ _ _ _ _ us hl => match us, hl with | [_, _, _], _ => rfl
  have g_within := PySem.W.mg_of X G a_within
  have F_like2 := fun_mk (st := s_like2) l_like2 c_like2 k_like2
  have b_like2 := F_like2.binds (ps := ["one", "two"]) fun _ _ _ _ _ _ us hl => match us, hl with | [_, _], _ => rfl
  have g_like2 := PySem.W.mg_of X G a_like2
  have F_row := fun_mk (st := s_row) l_row c_row k_row
  have b_row := F_row.binds (ps := ["tape", "caches", "longest", "clients"]) fun _ _ _ _ _ _ us hl => match us, hl with | [_, _, _, _], _ => rfl
  have g_row := PySem.W.mg_of X G a_row
  have F_word := fun_mk (st := s_word) l_word c_word k_word
  have b_word := F_word.binds (ps := ["e"]) fun _ _ _ _ _ _ us hl => match us, hl with | [_], _ => rfl
  have g_word := PySem.W.mg_of X G a_word
  have F_call := fun_mk (st := s_call) l_call c_call k_call
  have b_call := F_call.binds (ps := ["station", "way", "time", "index"]) fun _ _ _ _ _ _ us hl => match us, hl with | [_, _, _, _], _ => rfl
  have g_call := PySem.W.mg_of X G a_call
  have F_made := fun_mk (st := s_made) l_made c_made k_made
  have b_made := F_made.binds (ps := ["item"]) fun _ _ _ _ _ _ us hl => match us, hl with | [_], _ => rfl
  have g_made := PySem.W.mg_of X G a_made
  have F_law := fun_mk (st := s_law) l_law c_law k_law
  have F_st_init := fun_mk (st := s_st_init) l_st_init c_st_init k_st_init
  have b_st_init := F_st_init.binds (ps := ["self", "row"]) fun _ _ _ _ _ _ us hl => match us, hl with | [_, _], _ => rfl
  have F_st_change := fun_mk (st := s_st_change) l_st_change c_st_change k_st_change
  have b_st_change := F_st_change.binds (ps := ["self", "entries", "reads", "time"]) fun _ _ _ _ _ _ us hl => match us, hl with | [_, _, _, _], _ => rfl
  have F_st_read := fun_mk (st := s_st_read) l_st_read c_st_read k_st_read
  have b_st_read := F_st_read.binds (ps := ["self", "time", "client"]) fun _ _ _ _ _ _ us hl => match us, hl with | [_, _, _], _ => rfl
  have F_st_purge := fun_mk (st := s_st_purge) l_st_purge c_st_purge k_st_purge
  have b_st_purge := F_st_purge.binds (ps := ["self", "time", "cache"]) fun _ _ _ _ _ _ us hl => match us, hl with | [_, _, _], _ => rfl
  have F_st_undo := fun_mk (st := s_st_undo) l_st_undo c_st_undo k_st_undo
  have b_st_undo := F_st_undo.binds (ps := ["self"]) fun _ _ _ _ _ _ us hl => match us, hl with | [_], _ => rfl
  have F_st_entries := fun_mk (st := s_st_entries) l_st_entries c_st_entries k_st_entries
  have b_st_entries := F_st_entries.binds (ps := ["self"]) fun _ _ _ _ _ _ us hl => match us, hl with | [_], _ => rfl
  have F_st_log := fun_mk (st := s_st_log) l_st_log c_st_log k_st_log
  have b_st_log := F_st_log.binds (ps := ["self"]) fun _ _ _ _ _ _ us hl => match us, hl with | [_], _ => rfl
  have F_st_len := fun_mk (st := s_st_len) l_st_len c_st_len k_st_len
  have b_st_len := F_st_len.binds (ps := ["self"]) fun _ _ _ _ _ _ us hl => match us, hl with | [_], _ => rfl
  have F_st_eq := fun_mk (st := s_st_eq) l_st_eq c_st_eq k_st_eq
  have b_st_eq := F_st_eq.binds (ps := ["self", "other"]) fun _ _ _ _ _ _ us hl => match us, hl with | [_, _], _ => rfl
  have m_isinstance := PySem.W.mg_none_of X G z_isinstance
  have m_int := PySem.W.mg_none_of X G z_int
  have m_bool := PySem.W.mg_none_of X G z_bool
  have m_tuple := PySem.W.mg_none_of X G z_tuple
  have m_len := PySem.W.mg_none_of X G z_len
  have m_all := PySem.W.mg_none_of X G z_all
  have m_zip := PySem.W.mg_none_of X G z_zip
  have m_list := PySem.W.mg_none_of X G z_list
  have m_range := PySem.W.mg_none_of X G z_range
  have m_min := PySem.W.mg_none_of X G z_min
  have m_sorted := PySem.W.mg_none_of X G z_sorted
  have m_max := PySem.W.mg_none_of X G z_max
  have m_MAX_CACHES := PySem.W.mg_of X G z_MAX_CACHES
  have m_MAX_LIFETIME := PySem.W.mg_of X G z_MAX_LIFETIME
  have m_MAX_CLIENTS := PySem.W.mg_of X G z_MAX_CLIENTS
  have m_MAX_TIME := PySem.W.mg_of X G z_MAX_TIME
  have T0 : Txt K mg C := ⟨⟨pg, hd, po, sa⟩, nR, nS, nE, PySem.W.mg_of X G aC⟩
  have I : IsC K C := isC_of hd haC hn ht hmC tyC sT
  have XE : Errs K mg T Cr Cd Cp Cn := {r := ⟨PySem.W.mg_of X G aCr, xCr, kCr, bCr, tCr, ⟨hgCr, hkCr, bCr, hdCr, haCr, hn, ht, hmCr⟩, sCr⟩, d := ⟨PySem.W.mg_of X G aCd, xCd, kCd, bCd, tCd, ⟨hgCd, hkCd, bCd, hdCd, haCd, hn, ht, hmCd⟩, sCd⟩, p := ⟨PySem.W.mg_of X G aCp, xCp, kCp, bCp, tCp, ⟨hgCp, hkCp, bCp, hdCp, haCp, hn, ht, hmCp⟩, sCp⟩, n := ⟨PySem.W.mg_of X G aCn, xCn, kCn, bCn, tCn, ⟨hgCn, hkCn, bCn, hdCn, haCn, hn, ht, hmCn⟩, sCn⟩, g := PySem.W.mg_of X G aT, b := bT, h := hT, t := tT, rd := qrd, rp := qrp, rn := qrn, dr := qdr, dp := qdp, dn := qdn, pr := qpr, pd := qpd, pn := qpn, nr := qnr, nd := qnd, np := qnp, rr := qrr, dd := qdd, pp := qpp, nn := qnn}
  refine ⟨PySem.W.fnOf "law" "law" (defArgs s_law) (defBody s_law) (defScope s_law) .none kV_law dc_law pm_law an_law cd_law cx_law, fun s v => .of_eq rfl, fun base _ _ => ?_⟩
  have G_is_integer : FnOk l.prog w K mg base CX0 1 f_is_integer _ ["value", "low", "high"] (spD ct_is_integer) := ok_is_integer F_is_integer m_isinstance m_int m_bool
  have G_is_row : FnOk l.prog w K mg base CX0 2 f_is_row _ ["value"] (spD ct_is_row) := ok_is_row F_is_row F_is_integer g_is_integer b_is_integer G_is_integer m_isinstance m_tuple m_len m_all m_zip m_MAX_CACHES m_MAX_LIFETIME m_MAX_CLIENTS
  have G_empty : FnOk l.prog w K mg base CX0 1 f_empty _ ["row"] (spD ct_empty) := ok_empty F_empty m_len
  have G_read : FnOk l.prog w K mg base CX0 1 f_read _ ["row", "entries", "time", "client"] (spD ct_read) := ok_read F_read m_len
  have G_ask : FnOk l.prog w K mg base CX0 9 f_ask _ ["row", "held", "time", "index"] (spD (ct_ask 9)) := ok_ask F_ask g_ask b_ask m_len 9
  have G_now : FnOk l.prog w K mg base CX0 10 f_now _ ["row", "calls"] (spD ct_now) := ok_now F_now F_ask g_ask b_ask G_ask m_len
  have G_draw : FnOk l.prog w K mg base CX0 1 f_draw _ ["tape", "many"] (spD ct_draw) := ok_draw F_draw m_len
  have G_whole : FnOk l.prog w K mg base CX0 1 f_whole _ ["item"] (spD ct_whole) := ok_whole F_whole m_isinstance m_int m_bool
  have G_within : FnOk l.prog w K mg base CX0 2 f_within _ ["item", "low", "high"] (spD ct_within) := ok_within F_within F_whole g_whole b_whole G_whole
  have G_like2 : FnOk l.prog w K mg base CX0 4 f_like2 _ ["one", "two"] (spD (ct_like2 4)) := ok_like2 F_like2 g_like2 b_like2 m_isinstance m_list m_tuple m_len m_range m_bool 4
  have G_row : FnOk l.prog w K mg base CX0 2 f_row _ ["tape", "caches", "longest", "clients"] (spD ct_row) := ok_row F_row F_draw g_draw b_draw G_draw m_tuple m_range m_min m_len m_sorted
  have GM_entries : FnOk l.prog w K mg base CX0 1 f_st_entries _ ["self"] (sp_entries C) := okm_entries F_st_entries T0  m_list
  have GM_log : FnOk l.prog w K mg base CX0 1 f_st_log _ ["self"] (sp_log C) := okm_log F_st_log T0  m_list
  have GM_len : FnOk l.prog w K mg base CX0 1 f_st_len _ ["self"] (sp_len C) := okm_len F_st_len T0  m_len
  have GM_eq : FnOk l.prog w K mg base CX0 1 f_st_eq _ ["self", "other"] (sp_eq C) := okm_eq F_st_eq T0 I m_isinstance
  have GM_change : FnOk l.prog w K mg base CX0 1 f_st_change _ ["self", "entries", "reads", "time"] (sp_change C) := okm_change F_st_change T0  
  have GM_read : FnOk l.prog w K mg base (L2N.CX l.prog w) 2 f_st_read _ ["self", "time", "client"] (sp_read C Cd) := okm_read F_st_read T0 XE F_is_integer g_is_integer b_is_integer G_is_integer F_read g_read b_read G_read m_len m_MAX_TIME b_st_change GM_change ⟨a_st_change, i_st_change, k_st_change⟩
  have GM_purge : FnOk l.prog w K mg base (L2N.CX l.prog w) 2 f_st_purge _ ["self", "time", "cache"] (sp_purge C Cp) := okm_purge F_st_purge T0 XE F_is_integer g_is_integer b_is_integer G_is_integer m_len m_MAX_TIME b_st_change GM_change ⟨a_st_change, i_st_change, k_st_change⟩
  have GM_undo : FnOk l.prog w K mg base (L2N.CX l.prog w) 1 f_st_undo _ ["self"] (sp_undo C Cn) := okm_undo F_st_undo T0 XE 
  have GM_init : FnOk l.prog w K mg base (L2N.CX l.prog w) 3 f_st_init _ ["self", "row"] (sp_init C Cr) := okm_init F_st_init T0 XE F_is_row g_is_row b_is_row G_is_row F_empty g_empty b_empty G_empty
  have GW : L2W.FnW l.prog w K mg base 1 f_word _ ["e"] (sp_word Cr Cd Cp Cn) := okm_word F_word XE m_isinstance
  have G_call : FnOk l.prog w K mg base CX0 3 f_call _ ["station", "way", "time", "index"] (sp_call C) := okm_call F_call T0 XE F_word g_word b_word GW b_st_read GM_read ⟨a_st_read, i_st_read, k_st_read⟩ b_st_purge GM_purge ⟨a_st_purge, i_st_purge, k_st_purge⟩ b_st_undo GM_undo ⟨a_st_undo, i_st_undo, k_st_undo⟩
  have G_made : FnOk l.prog w K mg base CX0 5 f_made _ ["item"] (spD ct_made) := okm_made F_made T0 XE F_word g_word b_word GW b_st_init GM_init ⟨mk, a_st_init, i_st_init, kc⟩
  exact okm_law F_law T0 F_call g_call b_call G_call F_now g_now b_now G_now F_draw g_draw b_draw G_draw F_within g_within b_within G_within F_like2 g_like2 b_like2 G_like2 F_row g_row b_row G_row F_made g_made b_made G_made m_len m_max m_range b_st_entries GM_entries ⟨a_st_entries, i_st_entries, k_st_entries⟩ b_st_log GM_log ⟨a_st_log, i_st_log, k_st_log⟩ b_st_len GM_len  b_st_eq GM_eq  b_st_init GM_init ⟨mk, a_st_init, i_st_init, kc⟩ m_list ⟨a_st_eq, i_st_eq, sT⟩ ⟨neC, soC⟩ ⟨a_st_len, i_st_len⟩
end St
open PySem PySem.W PyProof.Rows
set_option maxRecDepth 100000 in
set_option maxHeartbeats 0 in
theorem PySem.Challenge.cw_staletiers_k17_station_call_by_call_holds : PySem.Challenge.rw_staletiers_k17_station_call_by_call.Holds := by
  w_on; o_law; k_head; (case hw => w_witness2)
  k_fill
  refine L2.walk_of (l := PySem.Challenge.rw_staletiers_k17_station_call_by_call) (n := 63) (k := 11) (x := "script") (CX := fun _ => L2.CX0) (sp := fun w => Dl.spLaw _) rfl (by decide) rfl ⟨rfl, by decide, by decide⟩ (fun w h Y => PySem.W.kIn_of Y) ?F (fun _ _ a ns hl _ hS => ⟨a, ns, rfl, hS, hl, fun _ => rfl⟩) (fun _ _ _ _ _ h => h)
  case F =>
    intro w mg fa h KX G hmg
    refine' St.all_mk KX G hmg ?a_is_integer ?l_is_integer ?c_is_integer ?k_is_integer ?a_is_row ?l_is_row ?c_is_row ?k_is_row ?a_empty ?l_empty ?c_empty ?k_empty ?a_read ?l_read ?c_read ?k_read ?a_ask ?l_ask ?c_ask ?k_ask ?a_now ?l_now ?c_now ?k_now ?a_draw ?l_draw ?c_draw ?k_draw ?a_whole ?l_whole ?c_whole ?k_whole ?a_within ?l_within ?c_within ?k_within ?a_like2 ?l_like2 ?c_like2 ?k_like2 ?a_row ?l_row ?c_row ?k_row ?a_word ?l_word ?c_word ?k_word ?a_call ?l_call ?c_call ?k_call ?a_made ?l_made ?c_made ?k_made ?a_law ?l_law ?c_law ?k_law ?aC ?a_st_init ?i_st_init ?l_st_init ?c_st_init ?k_st_init ?a_st_change ?i_st_change ?l_st_change ?c_st_change ?k_st_change ?a_st_read ?i_st_read ?l_st_read ?c_st_read ?k_st_read ?a_st_purge ?i_st_purge ?l_st_purge ?c_st_purge ?k_st_purge ?a_st_undo ?i_st_undo ?l_st_undo ?c_st_undo ?k_st_undo ?a_st_entries ?i_st_entries ?l_st_entries ?c_st_entries ?k_st_entries ?a_st_log ?i_st_log ?l_st_log ?c_st_log ?k_st_log ?a_st_len ?i_st_len ?l_st_len ?c_st_len ?k_st_len ?a_st_eq ?i_st_eq ?l_st_eq ?c_st_eq ?k_st_eq ?pg ?hd ?po ?sa ?mk ?kc ?nR ?nS ?nE ?haC ?hn ?ht ?hmC ?tyC ?sT ?neC ?soC ?aT ?bT ?hT ?tT ?aCr ?xCr ?kCr ?bCr ?tCr ?sCr ?hgCr ?hkCr ?hdCr ?haCr ?hmCr ?aCd ?xCd ?kCd ?bCd ?tCd ?sCd ?hgCd ?hkCd ?hdCd ?haCd ?hmCd ?aCp ?xCp ?kCp ?bCp ?tCp ?sCp ?hgCp ?hkCp ?hdCp ?haCp ?hmCp ?aCn ?xCn ?kCn ?bCn ?tCn ?sCn ?hgCn ?hkCn ?hdCn ?haCn ?hmCn ?qrd ?qrp ?qrn ?qdr ?qdp ?qdn ?qpr ?qpd ?qpn ?qnr ?qnd ?qnp ?qrr ?qdd ?qpp ?qnn ?z_isinstance ?z_int ?z_bool ?z_tuple ?z_len ?z_all ?z_zip ?z_list ?z_range ?z_min ?z_sorted ?z_max ?z_MAX_CACHES ?z_MAX_LIFETIME ?z_MAX_CLIENTS ?z_MAX_TIME
    (case a_is_integer => k_is); (case l_is_integer => k_is); (case c_is_integer => k_is); (case k_is_integer => k_is)
    (case a_is_row => k_is); (case l_is_row => k_is); (case c_is_row => k_is); (case k_is_row => k_is)
    (case a_empty => k_is); (case l_empty => k_is); (case c_empty => k_is); (case k_empty => k_is)
    (case a_read => k_is); (case l_read => k_is); (case c_read => k_is); (case k_read => k_is)
    (case a_ask => k_is); (case l_ask => k_is); (case c_ask => k_is); (case k_ask => k_is)
    (case a_now => k_is); (case l_now => k_is); (case c_now => k_is); (case k_now => k_is)
    (case a_draw => k_is); (case l_draw => k_is); (case c_draw => k_is); (case k_draw => k_is)
    (case a_whole => k_is); (case l_whole => k_is); (case c_whole => k_is); (case k_whole => k_is)
    (case a_within => k_is); (case l_within => k_is); (case c_within => k_is); (case k_within => k_is)
    (case a_like2 => k_is); (case l_like2 => k_is); (case c_like2 => k_is); (case k_like2 => k_is)
    (case a_row => k_is); (case l_row => k_is); (case c_row => k_is); (case k_row => k_is)
    (case a_word => k_is); (case l_word => k_is); (case c_word => k_is); (case k_word => k_is)
    (case a_call => k_is); (case l_call => k_is); (case c_call => k_is); (case k_call => k_is)
    (case a_made => k_is); (case l_made => k_is); (case c_made => k_is); (case k_made => k_is)
    (case a_law => k_is); (case l_law => k_is); (case c_law => k_is); (case k_law => k_is)
    (case aC => k_is); (case a_st_init => k_is); (case i_st_init => k_is); (case l_st_init => k_is)
    (case c_st_init => k_is); (case k_st_init => k_is); (case a_st_change => k_is); (case i_st_change => k_is)
    (case l_st_change => k_is); (case c_st_change => k_is); (case k_st_change => k_is); (case a_st_read => k_is)
    (case i_st_read => k_is); (case l_st_read => k_is); (case c_st_read => k_is); (case k_st_read => k_is)
    (case a_st_purge => k_is); (case i_st_purge => k_is); (case l_st_purge => k_is); (case c_st_purge => k_is)
    (case k_st_purge => k_is); (case a_st_undo => k_is); (case i_st_undo => k_is); (case l_st_undo => k_is)
    (case c_st_undo => k_is); (case k_st_undo => k_is); (case a_st_entries => k_is); (case i_st_entries => k_is)
    (case l_st_entries => k_is); (case c_st_entries => k_is); (case k_st_entries => k_is); (case a_st_log => k_is)
    (case i_st_log => k_is); (case l_st_log => k_is); (case c_st_log => k_is); (case k_st_log => k_is)
    (case a_st_len => k_is); (case i_st_len => k_is); (case l_st_len => k_is); (case c_st_len => k_is)
    (case k_st_len => k_is); (case a_st_eq => k_is); (case i_st_eq => k_is); (case l_st_eq => k_is)
    (case c_st_eq => k_is); (case k_st_eq => k_is); (case pg => k_is); (case hd => k_is)
    (case po => k_is); (case sa => k_is); (case mk => k_is); (case kc => k_is)
    (case nR => k_is); (case nS => k_is); (case nE => k_is); (case haC => k_is)
    (case hn => k_is); (case ht => k_is); (case hmC => k_is); (case tyC => k_is)
    (case sT => k_is); (case neC => k_is); (case soC => k_is); (case aT => k_is)
    (case bT => k_is); (case hT => k_is); (case tT => k_is); (case aCr => k_is)
    (case xCr => k_exc); (case kCr => k_is); (case bCr => k_is); (case tCr => k_is)
    (case sCr => k_is); (case hgCr => k_is); (case hkCr => k_is); (case hdCr => k_is)
    (case haCr => k_is); (case hmCr => k_is); (case aCd => k_is); (case xCd => k_exc)
    (case kCd => k_is); (case bCd => k_is); (case tCd => k_is); (case sCd => k_is)
    (case hgCd => k_is); (case hkCd => k_is); (case hdCd => k_is); (case haCd => k_is)
    (case hmCd => k_is); (case aCp => k_is); (case xCp => k_exc); (case kCp => k_is)
    (case bCp => k_is); (case tCp => k_is); (case sCp => k_is); (case hgCp => k_is)
    (case hkCp => k_is); (case hdCp => k_is); (case haCp => k_is); (case hmCp => k_is)
    (case aCn => k_is); (case xCn => k_exc); (case kCn => k_is); (case bCn => k_is)
    (case tCn => k_is); (case sCn => k_is); (case hgCn => k_is); (case hkCn => k_is)
    (case hdCn => k_is); (case haCn => k_is); (case hmCn => k_is); (case qrd => k_is)
    (case qrp => k_is); (case qrn => k_is); (case qdr => k_is); (case qdp => k_is)
    (case qdn => k_is); (case qpr => k_is); (case qpd => k_is); (case qpn => k_is)
    (case qnr => k_is); (case qnd => k_is); (case qnp => k_is); (case qrr => first | rfl | k_is)
    (case qdd => first | rfl | k_is); (case qpp => first | rfl | k_is); (case qnn => first | rfl | k_is); (case z_isinstance => k_is)
    (case z_int => k_is); (case z_bool => k_is); (case z_tuple => k_is); (case z_len => k_is)
    (case z_all => k_is); (case z_zip => k_is); (case z_list => k_is); (case z_range => k_is)
    (case z_min => k_is); (case z_sorted => k_is); (case z_max => k_is); (case z_MAX_CACHES => k_is)
    (case z_MAX_LIFETIME => k_is); (case z_MAX_CLIENTS => k_is); (case z_MAX_TIME => k_is)
