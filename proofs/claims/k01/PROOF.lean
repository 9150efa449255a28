import PyProof.Rows.All
import HandS.ForMost
import HandS.WordsExc
import HandS.Zip
import KE.SortData
import KE.DataEq
import KE.DataCmp
import KE.DataMinMax
import KE.DataFind
import HandS.HeadEnd
import HandS.TupMul
import HandS.Conv
import HandS.Rev
import KE.KRevSl
import HandS.SortKw
import PyProof.StrLawsRepr
import PyProof.ReprRoads
import HandS.RaiseMore
import HandS.Defaults
import HandS.Iter
import KE.GoesEnum
import HandS.Dict
import HandS.List
import Wide.All
import OpenK.AllK
import Wide.FinOn
import KE.KStateDown
import HandS.More
import HandS.Head0
import HandS.Head1
import HandS.Head2
import HandS.HeadHook1
import HandS.HeadHook2
import PySem.Challenge.RW_stringrooms_k01_whole_letters_of_plans
set_option Elab.async false
set_option linter.all false
set_option maxRecDepth 100000
/-! DL0: data D, stores, results, the representation of data in the abstract heap. -/
namespace DL
open PySem PySem.Spec PyProof.Rows L2

/-- data: immutable trees; ref n: the n-th cell of the store; fn n: a def -/
inductive D where
  | non | bl (b : Bool) | int (i : Int) | str (x : PySem.Str)
  | tup (xs : List D) | lst (xs : List D)
  | ref (n : Nat) | fn (n : Nat)
  | rng (lo hi : Int)

inductive Cell where
  | lst (xs : List D)
  | dct (kvs : List (L2.Key × D))
abbrev Store := List Cell
abbrev Ent := List (Option D)

inductive R (α : Type) where
  | ok (a : α) (st : Store)
  | ex (c : Nat) (xs : List D) (st : Store)
  | no
def R.bind {α β : Type} (r : R α) (k : α → Store → R β) : R β :=
  match r with
  | .ok a st => k a st
  | .ex c xs st => .ex c xs st
  | .no => .no
def R.ofO {α : Type} (o : Option α) (st : Store) : R α :=
  match o with
  | some a => .ok a st
  | none => .no
@[simp] theorem R.bind_ok {α β : Type} (a : α) (st : Store) (k : α → Store → R β) : (R.ok a st).bind k = k a st := rfl
@[simp] theorem R.bind_no {α β : Type} (k : α → Store → R β) : (R.no).bind k = .no := rfl
@[simp] theorem R.ofO_some {α : Type} (a : α) (st : Store) : R.ofO (some a) st = .ok a st := rfl
@[simp] theorem R.ofO_none {α : Type} (st : Store) : R.ofO (none : Option α) st = .no := rfl

/-- mu: which addresses may be written by someone; rho: the cells' addresses -/
structure MW where
  mu : Addr → Prop
  rho : List Addr
structure Wd where
  F : Nat → Addr
  XR : MW → Hp → Nat → List D → Value → Option Addr → Prop

mutual
inductive Rep (W : Wd) (M : MW) (H : Hp) : D → V → Prop
  | non : Rep W M H .non .non
  | bl (b : Bool) : Rep W M H (.bl b) (.bl b)
  | int (i : Int) : Rep W M H (.int i) (.int i)
  | str (x : PySem.Str) : Rep W M H (.str x) (.str x)
  | tup {a : Addr} {vs : List V} {ds : List D} (h : H a = some (.tup vs)) (r : Reps W M H ds vs) : Rep W M H (.tup ds) (.ref a)
  | lst {a : Addr} {vs : List V} {ds : List D} (h : Rd H a (.lst vs)) (m : ¬ M.mu a) (r : Reps W M H ds vs) : Rep W M H (.lst ds) (.ref a)
  | ref {n : Nat} {a : Addr} (h : M.rho[n]? = some a) : Rep W M H (.ref n) (.ref a)
  | fn (n : Nat) : Rep W M H (.fn n) (.ref (W.F n))
  | rng {a : Addr} {lo hi : Int} (h : H a = some (.rng lo hi)) : Rep W M H (.rng lo hi) (.ref a)
inductive Reps (W : Wd) (M : MW) (H : Hp) : List D → List V → Prop
  | nil : Reps W M H [] []
  | cons {d : D} {v : V} {ds : List D} {vs : List V} (h : Rep W M H d v) (r : Reps W M H ds vs) : Reps W M H (d :: ds) (v :: vs)
end

/-- from one state to a later one -/
structure Stp (M : MW) (H : Hp) (M' : MW) (H' : Hp) : Prop where
  keep : ∀ a o, H a = some o → (a ∉ M.rho ∨ ¬ M.mu a ∨ ¬ Mut (some o)) → H' a = some o
  pre : ∃ more, M'.rho = M.rho ++ more
  fresh : ∀ a, a ∈ M'.rho → a ∈ M.rho ∨ H a = none
  mu : ∀ a o, H a = some o → (M'.mu a ↔ M.mu a)
  there : ∀ a o, H a = some o → ∃ o', H' a = some o'

theorem Stp.refl {M : MW} {H : Hp} : Stp M H M H := ⟨fun _ _ h _ => h, ⟨[], by simp⟩, fun _ h => .inl h, fun _ _ _ => Iff.rfl, fun _ _ h => ⟨_, h⟩⟩
theorem Stp.none {M M' : MW} {H H' : Hp} (s : Stp M H M' H') {a : Addr} (h : H' a = none) : H a = none := by
  cases e : H a with
  | none => rfl
  | some o => obtain ⟨o', e'⟩ := s.there a o e; rw [h] at e'; cases e'
theorem Stp.trans {M M1 M2 : MW} {H H1 H2 : Hp} (s : Stp M H M1 H1) (t : Stp M1 H1 M2 H2) : Stp M H M2 H2 := by
  refine ⟨fun a o h c => ?_, ?_, fun a h => ?_, fun a o h => ?_, fun a o h => ?_⟩
  · have h1 := s.keep a o h c
    refine t.keep a o h1 ?_
    rcases c with c | c | c
    · by_cases q : a ∈ M1.rho
      · rcases s.fresh a q with z | z
        · exact absurd z c
        · rw [h] at z; cases z
      · exact .inl q
    · exact .inr (.inl fun z => c ((s.mu a o h).mp z))
    · exact .inr (.inr c)
  · obtain ⟨m1, e1⟩ := s.pre
    obtain ⟨m2, e2⟩ := t.pre
    exact ⟨m1 ++ m2, by rw [e2, e1, List.append_assoc]⟩
  · rcases t.fresh a h with z | z
    · exact s.fresh a z
    · exact .inr (s.none z)
  · obtain ⟨o1, h1⟩ := s.there a o h
    exact (t.mu a o1 h1).trans (s.mu a o h)
  · obtain ⟨o1, h1⟩ := s.there a o h
    exact t.there a o1 h1

theorem notMutTup {vs : List V} : ¬ Mut (some (HO.tup vs)) := fun z => z
theorem notMutFrz {o : Obj} {u : HO} : ¬ Mut (some (HO.frz o u)) := fun z => z
theorem Stp.rd {M M' : MW} {H H' : Hp} (s : Stp M H M' H') {a : Addr} {u : HO} (h : Rd H a u) (m : ¬ M.mu a) : Rd H' a u := by
  rcases h with h | ⟨o, h⟩
  · exact .inl (s.keep a _ h (.inr (.inl m)))
  · exact .inr ⟨o, s.keep a _ h (.inr (.inl m))⟩
theorem Rd.some {H : Hp} {a : Addr} {u : HO} (h : Rd H a u) : ∃ o, H a = some o := by
  rcases h with h | ⟨o, h⟩
  · exact ⟨_, h⟩
  · exact ⟨_, h⟩
section
variable {W : Wd} {M M' : MW} {H H' : Hp}
mutual
theorem Rep.mono (s : Stp M H M' H') : ∀ {d : D} {v : V}, Rep W M H d v → Rep W M' H' d v
  | _, _, .non => .non
  | _, _, .bl b => .bl b
  | _, _, .int b => .int b
  | _, _, .str b => .str b
  | _, _, .tup h r => .tup (s.keep _ _ h (.inr (.inr notMutTup))) (Reps.mono s r)
  | _, _, .lst h m r => .lst (s.rd h m) (by
      obtain ⟨o, e⟩ := Rd.some h
      exact fun z => m ((s.mu _ o e).mp z)) (Reps.mono s r)
  | _, _, .ref h => .ref (by
      obtain ⟨more, e⟩ := s.pre
      rw [e, List.getElem?_append_left (List.getElem?_eq_some_iff.mp h).1]
      exact h)
  | _, _, .fn n => .fn n
  | _, _, .rng h => .rng (s.keep _ _ h (.inr (.inr fun z => z)))
theorem Reps.mono (s : Stp M H M' H') : ∀ {ds : List D} {vs : List V}, Reps W M H ds vs → Reps W M' H' ds vs
  | _, _, .nil => .nil
  | _, _, .cons h r => .cons (Rep.mono s h) (Reps.mono s r)
end
theorem Reps.length : ∀ {ds : List D} {vs : List V}, Reps W M H ds vs → ds.length = vs.length
  | _, _, .nil => rfl
  | _, _, .cons _ r => by rw [List.length_cons, List.length_cons, Reps.length r]
theorem Reps.get : ∀ {ds : List D} {vs : List V} {i : Nat} {d : D}, Reps W M H ds vs → ds[i]? = some d → ∃ v, vs[i]? = some v ∧ Rep W M H d v
  | _, _, _, _, .nil, e => by simp at e
  | _, _, 0, _, .cons h _, e => by simp at e; subst e; exact ⟨_, rfl, h⟩
  | _, _, i + 1, _, .cons _ r, e => by
    obtain ⟨v, h1, h2⟩ := Reps.get (i := i) r (by simpa using e)
    exact ⟨v, by simpa using h1, h2⟩
theorem Reps.getV : ∀ {ds : List D} {vs : List V} {i : Nat} {v : V}, Reps W M H ds vs → vs[i]? = some v → ∃ d, ds[i]? = some d ∧ Rep W M H d v
  | _, _, _, _, .nil, e => by simp at e
  | _, _, 0, _, .cons h _, e => by simp at e; subst e; exact ⟨_, rfl, h⟩
  | _, _, i + 1, _, .cons _ r, e => by
    obtain ⟨v, h1, h2⟩ := Reps.getV (i := i) r (by simpa using e)
    exact ⟨v, by simpa using h1, h2⟩
theorem Reps.append : ∀ {ds es : List D} {vs ws : List V}, Reps W M H ds vs → Reps W M H es ws → Reps W M H (ds ++ es) (vs ++ ws)
  | _, _, _, _, .nil, s => s
  | _, _, _, _, .cons h r, s => .cons h (Reps.append r s)
theorem Reps.take : ∀ {ds : List D} {vs : List V} (n : Nat), Reps W M H ds vs → Reps W M H (ds.take n) (vs.take n)
  | _, _, 0, _ => .nil
  | _, _, _ + 1, .nil => .nil
  | _, _, n + 1, .cons h r => .cons h (Reps.take n r)
theorem Reps.drop : ∀ {ds : List D} {vs : List V} (n : Nat), Reps W M H ds vs → Reps W M H (ds.drop n) (vs.drop n)
  | _, _, 0, r => r
  | _, _, _ + 1, .nil => .nil
  | _, _, n + 1, .cons _ r => Reps.drop n r
theorem Reps.set {d : D} {v : V} (h : Rep W M H d v) : ∀ {ds : List D} {vs : List V} (i : Nat), Reps W M H ds vs → Reps W M H (ds.set i d) (vs.set i v)
  | _, _, _, .nil => .nil
  | _, _, 0, .cons _ r => .cons h r
  | _, _, i + 1, .cons q r => .cons q (Reps.set h i r)
theorem Reps.reverse {ds : List D} {vs : List V} (r : Reps W M H ds vs) : Reps W M H ds.reverse vs.reverse := by
  induction ds generalizing vs with
  | nil => cases r; exact .nil
  | cons d ds ih =>
    cases r with
    | cons h r =>
      rw [List.reverse_cons, List.reverse_cons]
      exact (ih r).append (.cons h .nil)
theorem Reps.dropLast {ds : List D} {vs : List V} (r : Reps W M H ds vs) : Reps W M H ds.dropLast vs.dropLast := by
  rw [List.dropLast_eq_take, List.dropLast_eq_take, r.length]
  exact r.take _
end

/-- a cell's content -/
inductive CellOk (W : Wd) (M : MW) (H : Hp) : Cell → Addr → Prop
  | lst {a : Addr} {ds : List D} {vs : List V} (h : H a = some (.lst vs)) (r : Reps W M H ds vs) : CellOk W M H (.lst ds) a
  | dct {a : Addr} {kds : List (L2.Key × D)} {kvs : List (L2.Key × V)} (h : H a = some (.dK kvs)) (k : kds.map (·.1) = kvs.map (·.1)) (r : Reps W M H (kds.map (·.2)) (kvs.map (·.2))) : CellOk W M H (.dct kds) a

structure SimS (W : Wd) (M : MW) (H : Hp) (st : Store) : Prop where
  len : M.rho.length = st.length
  nd : M.rho.Nodup
  mu : ∀ a, a ∈ M.rho → M.mu a
  cell : ∀ (n : Nat) (c : Cell) (a : Addr), st[n]? = some c → M.rho[n]? = some a → CellOk W M H c a
structure Sim (W : Wd) (M : MW) (σ : L2.St) (H : Hp) (env : Ent) (st : Store) : Prop where
  s : SimS W M H st
  len : env.length = σ.length
  var : ∀ (i : Nat) (d : D), env[i]? = some (some d) → ∃ v, σ[i]? = some (some v) ∧ Rep W M H d v

section
variable {W : Wd} {M M' : MW} {H H' : Hp} {σ : L2.St} {env : Ent} {st : Store}
theorem Sim.step (S : Sim W M σ H env st) (T : Stp M H M' H') {st' : Store} (S' : SimS W M' H' st') : Sim W M' σ H' env st' :=
  ⟨S', S.len, fun i d e => let ⟨v, h, r⟩ := S.var i d e; ⟨v, h, r.mono T⟩⟩
theorem Sim.set (S : Sim W M σ H env st) {i : Nat} {d : D} {v : V} (r : Rep W M H d v) : Sim W M (σ.set i (some v)) H (env.set i (some d)) st := by
  refine ⟨S.s, by simpa using S.len, fun j e h => ?_⟩
  by_cases hj : i = j
  · subst hj
    by_cases hl : i < env.length
    · rw [List.getElem?_set_self hl] at h
      cases h
      exact ⟨v, by rw [List.getElem?_set_self (by rw [← S.len]; exact hl)], r⟩
    · rw [List.getElem?_eq_none (by simpa using hl)] at h; cases h
  · rw [List.getElem?_set_ne hj] at h
    obtain ⟨w, h1, h2⟩ := S.var j e h
    exact ⟨w, by rw [List.getElem?_set_ne hj]; exact h1, h2⟩
theorem Sim.lt (S : Sim W M σ H env st) {i : Nat} (h : i < env.length) : i < σ.length := by rw [← S.len]; exact h
end

/-- what a result wants -/
def Fin {α β : Type} (W : Wd) (E : XK) (rel : MW → Hp → α → β → Prop) (σ : L2.St) (env : Ent) (r : R α) (M : MW) (H : Hp) (Q : β → Hp → Prop) : Prop :=
  match r with
  | .ok a st' => ∀ (M' : MW) (b : β) (H' : Hp), Stp M H M' H' → Sim W M' σ H' env st' → rel M' H' a b → Q b H'
  | .ex c xs st' => ∀ (M' : MW) (H' : Hp) (cls : Value) (dx : Option Addr), Stp M H M' H' → SimS W M' H' st' → W.XR M' H' c xs cls dx → E cls dx H'
  | .no => False
def Lift {α β : Type} (W : Wd) (E : XK) (rel : MW → Hp → α → β → Prop) (f : Ent → Store → R α) : L2.St → Hp → (β → Hp → Prop) → Prop :=
  fun σ H Q => ∃ (M : MW) (env : Ent) (st : Store), Sim W M σ H env st ∧ Fin W E rel σ env (f env st) M H Q
abbrev relD (W : Wd) : MW → Hp → D → V → Prop := fun M H d v => Rep W M H d v
abbrev relDs (W : Wd) : MW → Hp → List D → List V → Prop := fun M H d v => Reps W M H d v
abbrev relB : MW → Hp → Bool → Bool → Prop := fun _ _ a b => a = b
abbrev Ev := Ent → Store → R D
abbrev EvB := Ent → Store → R Bool
abbrev EvL := Ent → Store → R (List D)
abbrev lE (W : Wd) (E : XK) (f : Ev) : TE := Lift W E (relD W) f
abbrev lT (W : Wd) (E : XK) (f : EvB) : TT := Lift W E relB f
abbrev lA (W : Wd) (E : XK) (f : EvL) : TA := Lift W E (relDs W) f

theorem Fin.step {α β : Type} {W : Wd} {E : XK} {rel : MW → Hp → α → β → Prop} {σ : L2.St} {env : Ent} {r : R α} {M M1 : MW} {H H1 : Hp} {Q : β → Hp → Prop} (s : Stp M H M1 H1) (h : Fin W E rel σ env r M H Q) : Fin W E rel σ env r M1 H1 Q := by
  cases r with
  | ok a st' => exact fun M' b H' t => h M' b H' (s.trans t)
  | ex c xs st' => exact fun M' H' cls dx t => h M' H' cls dx (s.trans t)
  | no => exact h
theorem Fin.bind {α β γ δ : Type} {W : Wd} {E : XK} {rel : MW → Hp → α → β → Prop} {rel2 : MW → Hp → γ → δ → Prop} {σ : L2.St} {env : Ent} {r : R α} {k : α → Store → R γ} {M : MW} {H : Hp} {Q : β → Hp → Prop} {Q2 : δ → Hp → Prop}
    (h : Fin W E rel2 σ env (r.bind k) M H Q2)
    (hk : ∀ a st' M' b H', Stp M H M' H' → Sim W M' σ H' env st' → rel M' H' a b → Fin W E rel2 σ env (k a st') M' H' Q2 → Q b H') : Fin W E rel σ env r M H Q := by
  cases r with
  | ok a st' => exact fun M' b H' t S r => hk a st' M' b H' t S r (Fin.step t h)
  | ex c xs st' => exact h
  | no => exact h
theorem PEmono {X : Cx} {e : Expr} {t t' : TE} (h : PE X e t) (m : ∀ σ H Q, t' σ H Q → t σ H Q) : PE X e t' := ⟨fun pins s σ H Q I q => h.run pins s σ H Q I (m σ H Q q)⟩
theorem PTmono {X : Cx} {e : Expr} {t t' : TT} (h : PT X e t) (m : ∀ σ H Q, t' σ H Q → t σ H Q) : PT X e t' := ⟨fun pins s σ H Q I q => h.run pins s σ H Q I (m σ H Q q)⟩
theorem PWmono {X : Cx} {e : Expr} {t t' : TT} (h : PW X e t) (m : ∀ σ H Q, t' σ H Q → t σ H Q) : PW X e t' := ⟨fun wh pins s σ H Q I q => h.run wh pins s σ H Q I (m σ H Q q)⟩
theorem PAmono {X : Cx} {e : List Expr} {t t' : TA} (h : PA X e t) (m : ∀ σ H Q, t' σ H Q → t σ H Q) : PA X e t' := ⟨fun p pins s σ H Q I q => h.run p pins s σ H Q I (m σ H Q q)⟩
theorem PSmono {X : Cx} {e : Stmt} {t t' : TS} (h : PS X e t) (m : ∀ D σ H, t' D σ H → t D σ H) : PS X e t' := ⟨fun pins s σ H D I q => h.run pins s σ H D I (m D σ H q)⟩
theorem PSsmono {X : Cx} {e : List Stmt} {t t' : TS} (h : PSs X e t) (m : ∀ D σ H, t' D σ H → t D σ H) : PSs X e t' := ⟨fun pins s σ H D I q => h.run pins s σ H D I (m D σ H q)⟩
end DL

set_option Elab.async false
set_option linter.all false
set_option maxRecDepth 100000
/-! DL1: expressions. -/
namespace DL
open PySem PySem.Spec PyProof.Rows L2

def DE (X : Cx) (W : Wd) (E : XK) (e : Expr) (f : Ev) : Prop := PE X e (lE W E f)
def DT (X : Cx) (W : Wd) (E : XK) (e : Expr) (f : EvB) : Prop := PT X e (lT W E f)
def DW (X : Cx) (W : Wd) (E : XK) (e : Expr) (f : EvB) : Prop := PW X e (lT W E f)
def DA (X : Cx) (W : Wd) (E : XK) (es : List Expr) (f : EvL) : Prop := PA X es (lA W E f)

section
variable {W : Wd} {M M' : MW} {H H' : Hp} {σ : L2.St} {env : Ent} {st : Store} {E : XK}
/-- the heap grows -/
theorem Stp.grow (k : ∀ a o, H a = some o → H' a = some o) : Stp M H M H' :=
  ⟨fun a o h _ => k a o h, ⟨[], by simp⟩, fun a h => .inl h, fun _ _ _ => Iff.rfl, fun a o h => ⟨o, k a o h⟩⟩
theorem SimS.here (S : SimS W M H st) {a : Addr} (h : a ∈ M.rho) : ∃ o, H a = some o := by
  obtain ⟨n, hn, e⟩ := List.mem_iff_getElem.mp h
  have hs : n < st.length := by rw [← S.len]; exact hn
  have c := S.cell n st[n] a (List.getElem?_eq_getElem hs) (by rw [List.getElem?_eq_getElem hn, e])
  generalize st[n] = q at c
  cases c with
  | lst h _ => exact ⟨_, h⟩
  | dct h _ _ => exact ⟨_, h⟩
theorem CellOk.mono (T : Stp M H M' H') (k : ∀ o, H a = some o → H' a = some o) {c : Cell} (h : CellOk W M H c a) : CellOk W M' H' c a := by
  cases h with
  | lst h r => exact .lst (k _ h) (r.mono T)
  | dct h e r => exact .dct (k _ h) e (r.mono T)
theorem SimS.grow (S : SimS W M H st) (k : ∀ a o, H a = some o → H' a = some o) : SimS W M H' st :=
  ⟨S.len, S.nd, S.mu, fun n c a e1 e2 => (S.cell n c a e1 e2).mono (Stp.grow k) (k a)⟩
theorem updNew {p : Addr} {o : HO} (hp : H p = none) : ∀ a u, H a = some u → upd H p o a = some u := fun a u h => by
  rw [upd_ne (ne_of_none h hp)]; exact h
/-- a new object that nobody writes -/
theorem frozen (S : SimS W M H st) {p : Addr} {o : HO} (hp : H p = none) :
    Stp M H ⟨fun a => M.mu a ∧ a ≠ p, M.rho⟩ (upd H p o) ∧ SimS W ⟨fun a => M.mu a ∧ a ≠ p, M.rho⟩ (upd H p o) st := by
  have T : Stp M H ⟨fun a => M.mu a ∧ a ≠ p, M.rho⟩ (upd H p o) :=
    ⟨fun a u h _ => updNew hp a u h, ⟨[], by simp⟩, fun a h => .inl h, fun a u h => ⟨fun z => z.1, fun z => ⟨z, ne_of_none h hp⟩⟩, fun a u h => ⟨u, updNew hp a u h⟩⟩
  refine ⟨T, S.len, S.nd, fun a h => ⟨S.mu a h, ?_⟩, fun n c a e1 e2 => (S.cell n c a e1 e2).mono T (updNew hp a)⟩
  obtain ⟨u, e⟩ := S.here h
  exact ne_of_none e hp
/-- a new cell -/
theorem celled (S : SimS W M H st) {p : Addr} {o : HO} (hp : H p = none) {c : Cell} (ok : ∀ M', Stp M H M' (upd H p o) → CellOk W M' (upd H p o) c p) :
    Stp M H ⟨fun a => M.mu a ∨ a = p, M.rho ++ [p]⟩ (upd H p o) ∧ SimS W ⟨fun a => M.mu a ∨ a = p, M.rho ++ [p]⟩ (upd H p o) (st ++ [c]) := by
  have T : Stp M H ⟨fun a => M.mu a ∨ a = p, M.rho ++ [p]⟩ (upd H p o) :=
    ⟨fun a u h _ => updNew hp a u h, ⟨[p], rfl⟩, fun a h => by
      rcases List.mem_append.mp h with z | z
      · exact .inl z
      · rw [List.mem_singleton.mp z]; exact .inr hp, fun a u h => ⟨fun z => z.elim id fun e => absurd e (ne_of_none h hp), .inl⟩, fun a u h => ⟨u, updNew hp a u h⟩⟩
  have np : p ∉ M.rho := fun z => by
    obtain ⟨u, e⟩ := S.here z
    rw [hp] at e; cases e
  refine ⟨T, by simp [S.len], ?_, fun a h => ?_, fun n d a e1 e2 => ?_⟩
  · rw [List.nodup_append]
    exact ⟨S.nd, by simp, fun a h b hb => by rw [List.mem_singleton.mp hb]; rintro rfl; exact np h⟩
  · rcases List.mem_append.mp h with z | z
    · exact .inl (S.mu a z)
    · exact .inr (List.mem_singleton.mp z)
  · have e2 : (M.rho ++ [p])[n]? = some a := e2
    by_cases hn : n < st.length
    · rw [List.getElem?_append_left hn] at e1
      rw [List.getElem?_append_left (by rw [S.len]; exact hn)] at e2
      exact (S.cell n d a e1 e2).mono T (updNew hp a)
    · have hn' : n = st.length := by
        have := (List.getElem?_eq_some_iff.mp e1).1
        rw [List.length_append, List.length_singleton] at this
        omega
      subst hn'
      rw [List.getElem?_append_right (Nat.le_refl _)] at e1
      rw [← S.len, List.getElem?_append_right (Nat.le_refl _)] at e2
      simp at e1 e2
      subst e1 e2
      exact ok _ T
/-- a cell is written -/
theorem written (S : SimS W M H st) {n : Nat} {p : Addr} {o : HO} (hn : M.rho[n]? = some p) {c : Cell} (hmu : Mut (H p)) (hmo : Mut (some o)) (ok : Stp M H M (upd H p o) → CellOk W M (upd H p o) c p) :
    Stp M H M (upd H p o) ∧ SimS W M (upd H p o) (st.set n c) := by
  have hm : p ∈ M.rho := List.mem_of_getElem? hn
  have T : Stp M H M (upd H p o) := by
    refine ⟨fun a u h q => ?_, ⟨[], by simp⟩, fun a h => .inl h, fun _ _ _ => Iff.rfl, fun a u h => ?_⟩
    · have : a ≠ p := by
        rintro rfl
        rcases q with q | q | q
        · exact q hm
        · exact q (S.mu a hm)
        · rw [h] at hmu; exact q hmu
      rw [upd_ne this]; exact h
    · by_cases e : a = p
      · subst e; exact ⟨o, upd_same⟩
      · exact ⟨u, by rw [upd_ne e]; exact h⟩
  refine ⟨T, by simpa using S.len, S.nd, S.mu, fun k d a e1 e2 => ?_⟩
  by_cases hk : n = k
  · subst hk
    rw [hn] at e2
    cases e2
    have hl : n < st.length := by
      rw [← S.len]
      exact (List.getElem?_eq_some_iff.mp hn).1
    rw [List.getElem?_set_self hl] at e1
    cases e1
    exact ok T
  · rw [List.getElem?_set_ne hk] at e1
    have ne : a ≠ p := by
      rintro rfl
      have h1 := List.getElem?_eq_some_iff.mp hn
      have h2 := List.getElem?_eq_some_iff.mp e2
      obtain ⟨l1, g1⟩ := h1
      obtain ⟨l2, g2⟩ := h2
      exact hk ((List.getElem_inj S.nd).mp (g1.trans g2.symm))
    exact (S.cell k d a e1 e2).mono T fun u h => by rw [upd_ne ne]; exact h
end

/-! ### variables, constants -/
def eVar (i : Nat) : Ev := fun env st => match env[i]? with
  | some (some d) => .ok d st
  | _ => .no
def eC (d : D) : Ev := fun _ st => .ok d st
section
variable {X : Cx} {W : Wd} {E : XK}
theorem de_var {i : Nat} {x : PySem.Str} {pos : Pos} (hN : X.N[i]? = some x := by rfl) (hv : Vis X.env.scope x := by first | exact Or.inl rfl | exact Or.inr (Or.inl rfl) | exact Or.inr (Or.inr rfl)) (hd : (x == ("__debug__" : PySem.Str)) = false := by decide)
    (hcd : (x == ("__classdict__" : PySem.Str)) = false := by decide) : DE X W E (.Name x pos) (eVar i) := by
  refine PEmono (pe_var hN hv hd hcd) fun σ H Q h => ?_
  obtain ⟨M, env, st, S, h⟩ := h
  unfold eVar at h
  split at h
  · rename_i d e
    obtain ⟨v, e1, r⟩ := S.var i d e
    exact ⟨v, e1, h M v H .refl S r⟩
  · exact h.elim
theorem de_const {e : Expr} {v : V} {d : D} (h : PE X e (tC v)) (r : ∀ M H, Rep W M H d v) : DE X W E e (eC d) :=
  PEmono h fun σ H Q ⟨M, env, st, S, q⟩ => q M v H .refl S (r M H)
theorem de_int {i j pos} : DE X W E (.Constant (.int i) j pos) (eC (.int i)) := de_const pe_int fun _ _ => .int i
theorem de_bl {b j pos} : DE X W E (.Constant (.bool b) j pos) (eC (.bl b)) := de_const pe_bl fun _ _ => .bl b
theorem de_non {j pos} : DE X W E (.Constant .none j pos) (eC .non) := de_const pe_non fun _ _ => .non
theorem de_str {x j pos} : DE X W E (.Constant (.str x) j pos) (eC (.str x)) := de_const pe_str fun _ _ => .str x
/-- a def's name as a value -/
theorem de_fn {n : Nat} {x : PySem.Str} {pos : Pos} (hg : Gl X x) (hm : X.mg x = some (.ref (W.F n))) (hd : (x == ("__debug__" : PySem.Str)) = false := by decide) : DE X W E (.Name x pos) (eC (.fn n)) :=
  de_const (pe_glob (v := .ref (W.F n)) hg hm rfl hd) fun _ _ => .fn n

/-! ### operators by values -/
def eOp (op : Store → D → D → Option D) (f g : Ev) : Ev := fun env st => (f env st).bind fun a st1 => (g env st1).bind fun b st2 => R.ofO (op st2 a b) st2
def eUn (op : Store → D → Option D) (f : Ev) : Ev := fun env st => (f env st).bind fun a st1 => R.ofO (op st1 a) st1
/-- the rule r serves the data operator op -/
def OpD (W : Wd) (r : R2) (op : Store → D → D → Option D) : Prop :=
  ∀ (E : XK) (M : MW) (σ : L2.St) (H : Hp) (env : Ent) (st : Store) (a b : D) (x y : V) (Q : VK), Sim W M σ H env st → Rep W M H a x → Rep W M H b y → Fin W E (relD W) σ env (R.ofO (op st a b) st) M H Q → r x y H Q
def UnD (W : Wd) (r : V → Hp → VK → Prop) (op : Store → D → Option D) : Prop :=
  ∀ (E : XK) (M : MW) (σ : L2.St) (H : Hp) (env : Ent) (st : Store) (a : D) (x : V) (Q : VK), Sim W M σ H env st → Rep W M H a x → Fin W E (relD W) σ env (R.ofO (op st a) st) M H Q → r x H Q
variable {a b c : Expr} {f g k : Ev} {pos : Pos}
theorem lift_bin {r : R2} {op : Store → D → D → Option D} (h : OpD W r op) {σ : L2.St} {H : Hp} {Q : VK} (q : lE W E (eOp op f g) σ H Q) :
    lE W E f σ H fun x H1 => lE W E g σ H1 fun y H2 => r x y H2 Q := by
  obtain ⟨M, env, st, S, q⟩ := q
  refine ⟨M, env, st, S, Fin.bind q fun d1 st1 M1 x H1 T1 S1 r1 q1 => ⟨M1, env, st1, S1, Fin.bind q1 fun d2 st2 M2 y H2 T2 S2 r2 q2 => ?_⟩⟩
  exact h E M2 σ H2 env st2 d1 d2 x y Q S2 (r1.mono T2) r2 q2
theorem lift_un {r : V → Hp → VK → Prop} {op : Store → D → Option D} (h : UnD W r op) {σ : L2.St} {H : Hp} {Q : VK} (q : lE W E (eUn op f) σ H Q) :
    lE W E f σ H fun x H1 => r x H1 Q := by
  obtain ⟨M, env, st, S, q⟩ := q
  exact ⟨M, env, st, S, Fin.bind q fun d1 st1 M1 x H1 T1 S1 r1 q1 => h E M1 σ H1 env st1 d1 x Q S1 r1 q1⟩
theorem de_op {op : Operator} {r : R2} {opD : Store → D → D → Option D} (ho : OpR X (binaryOp op) r) (h : OpD W r opD) (ha : DE X W E a f) (hb : DE X W E b g) : DE X W E (.BinOp a op b pos) (eOp opD f g) :=
  PEmono (pe_op ho ha hb) fun σ H Q q => lift_bin h q
theorem de_un {op : UnaryOp} {r : V → Hp → VK → Prop} {opD : Store → D → Option D} (ho : UnR X (unaryOp op) r) (h : UnD W r opD) (ha : DE X W E a f) : DE X W E (.UnaryOp op a pos) (eUn opD f) :=
  PEmono (pe_un ho ha) fun σ H Q q => lift_un h q
theorem de_cmp {op : CmpOp} {r : R2} {opD : Store → D → D → Option D} (ho : OpR X (compareOp op) r) (h : OpD W r opD) (ha : DE X W E a f) (hb : DE X W E b g) (hm : behindInMarks op b = false := by first | exact nomark _ | rfl) :
    DE X W E (.Compare a [op] [b] pos) (eOp opD f g) :=
  PEmono (pe_cmpR ho ha hb hm) fun σ H Q q => lift_bin h q
/-- a value True or False as a test -/
def tOf (f : Ev) : EvB := fun env st => (f env st).bind fun a st1 => match a with
  | .bl k => .ok k st1
  | _ => .no
theorem lift_tOf {σ : L2.St} {H : Hp} {Q : Bool → Hp → Prop} (q : lT W E (tOf f) σ H Q) : lE W E f σ H fun x H1 => ∃ k, x = .bl k ∧ Q k H1 := by
  obtain ⟨M, env, st, S, q⟩ := q
  refine ⟨M, env, st, S, Fin.bind q fun d st1 M1 x H1 T1 S1 r1 q1 => ?_⟩
  cases d with
  | bl k => cases r1; exact ⟨k, rfl, q1 M1 k H1 .refl S1 rfl⟩
  | _ => exact q1.elim
theorem dt_cmp {op : CmpOp} {r : R2} {opD : Store → D → D → Option D} (ho : OpR X (compareOp op) r) (h : OpD W r opD) (ha : DE X W E a f) (hb : DE X W E b g) (hm : behindInMarks op b = false := by first | exact nomark _ | rfl) :
    DT X W E (.Compare a [op] [b] pos) (tOf (eOp opD f g)) :=
  PTmono (pt_cmpR ho ha hb hm) fun σ H Q q => by
    obtain ⟨M, env, st, S, q⟩ := lift_tOf q
    exact lift_bin h ⟨M, env, st, S, q⟩
theorem dt_val (h : DE X W E a f) (he : ∀ whole, isTrue a X.env whole = (do let v ← whole; standAt a.pos; holding [v] (truthy v)) := by intro _; rfl) : DT X W E a (tOf f) :=
  PTmono (pt_val h he) fun σ H Q q => lift_tOf q
/-- two comparisons: a op b op' c -/
def eChain (op op' : Store → D → D → Option D) (f g k : Ev) : Ev := fun env st => (f env st).bind fun a st1 => (g env st1).bind fun b st2 => (R.ofO (op st2 a b) st2).bind fun z st3 => match z with
  | .bl true => (k env st3).bind fun c st4 => R.ofO (op' st4 b c) st4
  | .bl false => .ok (.bl false) st3
  | _ => .no
theorem lift_chain {r r' : R2} {op op' : Store → D → D → Option D} (h : OpD W r op) (h' : OpD W r' op') {σ : L2.St} {H : Hp} {Q : VK} (q : lE W E (eChain op op' f g k) σ H Q) : tChain r r' (lE W E f) (lE W E g) (lE W E k) σ H Q := by
  obtain ⟨M, env, st, S, q⟩ := q
  refine ⟨M, env, st, S, Fin.bind q fun d1 st1 M1 x H1 T1 S1 r1 q1 => ⟨M1, env, st1, S1, Fin.bind q1 fun d2 st2 M2 y H2 T2 S2 r2 q2 => ?_⟩⟩
  refine h E M2 σ H2 env st2 d1 d2 x y _ S2 (r1.mono T2) r2 (Fin.bind q2 fun z st3 M3 v H3 T3 S3 r3 q3 => ?_)
  cases z with
  | bl b =>
    cases r3
    refine ⟨b, rfl, ?_⟩
    cases b with
    | true =>
      rw [if_pos rfl]
      refine ⟨M3, env, st3, S3, Fin.bind q3 fun d4 st4 M4 w H4 T4 S4 r4 q4 => ?_⟩
      exact h' E M4 σ H4 env st4 d2 d4 y w Q S4 (r2.mono (T3.trans T4)) r4 q4
    | false =>
      rw [if_neg Bool.false_ne_true]
      exact q3 M3 _ H3 .refl S3 (.bl false)
  | _ => exact q3.elim
theorem de_chain {op op' : CmpOp} {r r' : R2} {opD opD' : Store → D → D → Option D} (ho : OpR X (compareOp op) r) (ho' : OpR X (compareOp op') r') (h : OpD W r opD) (h' : OpD W r' opD') (ha : DE X W E a f) (hb : DE X W E b g) (hc : DE X W E c k) (hm : lastMarks [op, op'] [b, c] = false := by rfl) :
    DE X W E (.Compare a [op, op'] [b, c] pos) (eChain opD opD' f g k) :=
  PEmono (pe_chain ho ho' ha hb hc hm) fun σ H Q q => lift_chain h h' q
theorem dt_chain {op op' : CmpOp} {r r' : R2} {opD opD' : Store → D → D → Option D} (ho : OpR X (compareOp op) r) (ho' : OpR X (compareOp op') r') (h : OpD W r opD) (h' : OpD W r' opD') (ha : DE X W E a f) (hb : DE X W E b g) (hc : DE X W E c k) (hm : lastMarks [op, op'] [b, c] = false := by rfl) :
    DT X W E (.Compare a [op, op'] [b, c] pos) (tOf (eChain opD opD' f g k)) :=
  PTmono (pt_chain ho ho' ha hb hc hm) fun σ H Q q => by
    obtain ⟨M, env, st, S, q⟩ := lift_tOf q
    exact lift_chain h h' ⟨M, env, st, S, q⟩

/-! ### and, or, not -/
variable {p q : EvB} {rest : List Expr}
def tAndD (p q : EvB) : EvB := fun env st => (p env st).bind fun k st1 => if k then q env st1 else .ok false st1
def tOrD (p q : EvB) : EvB := fun env st => (p env st).bind fun k st1 => if k then .ok true st1 else q env st1
def tNotD (p : EvB) : EvB := fun env st => (p env st).bind fun k st1 => .ok (!k) st1
theorem dw_pt (h : DW X W E a p) : DT X W E a p := PW.pt h
theorem dw_and1 (h : DT X W E a p) : DW X W E (.BoolOp .And [a] pos) p := pw_and1 h
theorem dw_or1 (h : DT X W E a p) : DW X W E (.BoolOp .Or [a] pos) p := pw_or1 h
theorem dw_and (h : DT X W E a p) (h2 : DW X W E (.BoolOp .And (b :: rest) pos) q) : DW X W E (.BoolOp .And (a :: b :: rest) pos) (tAndD p q) :=
  PWmono (pw_and h h2) fun σ H Q ⟨M, env, st, S, z⟩ => ⟨M, env, st, S, Fin.bind z fun k st1 M1 k' H1 T1 S1 e z1 => by
    subst e
    cases k with
    | true => rw [if_pos rfl]; exact ⟨M1, env, st1, S1, z1⟩
    | false => rw [if_neg Bool.false_ne_true]; exact z1 M1 false H1 .refl S1 rfl⟩
theorem dw_or (h : DT X W E a p) (h2 : DW X W E (.BoolOp .Or (b :: rest) pos) q) : DW X W E (.BoolOp .Or (a :: b :: rest) pos) (tOrD p q) :=
  PWmono (pw_or h h2) fun σ H Q ⟨M, env, st, S, z⟩ => ⟨M, env, st, S, Fin.bind z fun k st1 M1 k' H1 T1 S1 e z1 => by
    subst e
    cases k with
    | true => rw [if_pos rfl]; exact z1 M1 true H1 .refl S1 rfl
    | false => rw [if_neg Bool.false_ne_true]; exact ⟨M1, env, st1, S1, z1⟩⟩
theorem dt_not (h : DT X W E a p) : DT X W E (.UnaryOp .Not a pos) (tNotD p) :=
  PTmono (pt_not h) fun σ H Q ⟨M, env, st, S, z⟩ => ⟨M, env, st, S, Fin.bind z fun k st1 M1 k' H1 T1 S1 e z1 => by
    subst e
    exact z1 M1 _ H1 .refl S1 rfl⟩
/-- as values (bools) -/
def eAndD (f g : Ev) : Ev := fun env st => (f env st).bind fun a st1 => match a with
  | .bl true => g env st1
  | .bl false => .ok (.bl false) st1
  | _ => .no
def eOrD (f g : Ev) : Ev := fun env st => (f env st).bind fun a st1 => match a with
  | .bl true => .ok (.bl true) st1
  | .bl false => g env st1
  | _ => .no
def eNotD (f : Ev) : Ev := fun env st => (f env st).bind fun a st1 => match a with
  | .bl k => .ok (.bl (!k)) st1
  | _ => .no
theorem de_one {op} (h : DE X W E a f) : DE X W E (.BoolOp op [a] pos) f := pe_one h
theorem de_and (h : DE X W E a f) (h2 : DE X W E (.BoolOp .And (b :: rest) pos) g) : DE X W E (.BoolOp .And (a :: b :: rest) pos) (eAndD f g) :=
  PEmono (pe_and h h2) fun σ H Q ⟨M, env, st, S, z⟩ => ⟨M, env, st, S, Fin.bind z fun d st1 M1 x H1 T1 S1 r z1 => by
    cases d with
    | bl k =>
      cases r
      refine ⟨k, rfl, ?_⟩
      cases k with
      | true => rw [if_pos rfl]; exact ⟨M1, env, st1, S1, z1⟩
      | false => rw [if_neg Bool.false_ne_true]; exact z1 M1 _ H1 .refl S1 (.bl false)
    | _ => exact z1.elim⟩
theorem de_or (h : DE X W E a f) (h2 : DE X W E (.BoolOp .Or (b :: rest) pos) g) : DE X W E (.BoolOp .Or (a :: b :: rest) pos) (eOrD f g) :=
  PEmono (pe_or h h2) fun σ H Q ⟨M, env, st, S, z⟩ => ⟨M, env, st, S, Fin.bind z fun d st1 M1 x H1 T1 S1 r z1 => by
    cases d with
    | bl k =>
      cases r
      refine ⟨k, rfl, ?_⟩
      cases k with
      | true => rw [if_pos rfl]; exact z1 M1 _ H1 .refl S1 (.bl true)
      | false => rw [if_neg Bool.false_ne_true]; exact ⟨M1, env, st1, S1, z1⟩
    | _ => exact z1.elim⟩
theorem de_not (h : DE X W E a f) : DE X W E (.UnaryOp .Not a pos) (eNotD f) :=
  PEmono (pe_not h) fun σ H Q ⟨M, env, st, S, z⟩ => ⟨M, env, st, S, Fin.bind z fun d st1 M1 x H1 T1 S1 r z1 => by
    cases d with
    | bl k => cases r; exact ⟨k, rfl, z1 M1 _ H1 .refl S1 (.bl _)⟩
    | _ => exact z1.elim⟩
def eIfE (p : EvB) (f g : Ev) : Ev := fun env st => (p env st).bind fun k st1 => if k then f env st1 else g env st1
theorem de_if (h : DT X W E c p) (ha : DE X W E a f) (hb : DE X W E b g) : DE X W E (.IfExp c a b pos) (eIfE p f g) :=
  PEmono (pe_ifExp h ha hb) fun σ H Q ⟨M, env, st, S, z⟩ => ⟨M, env, st, S, Fin.bind z fun k st1 M1 k' H1 T1 S1 e z1 => by
    subst e
    cases k with
    | true => rw [if_pos rfl]; exact ⟨M1, env, st1, S1, z1⟩
    | false => rw [if_neg Bool.false_ne_true]; exact ⟨M1, env, st1, S1, z1⟩⟩

/-! ### argument lists -/
def aNil : EvL := fun _ st => .ok [] st
def aCons (f : Ev) (g : EvL) : EvL := fun env st => (f env st).bind fun a st1 => (g env st1).bind fun as st2 => .ok (a :: as) st2
variable {e : Expr} {es : List Expr} {fs : EvL}
theorem da_nil : DA X W E [] aNil := PAmono pa_nil fun σ H Q ⟨M, env, st, S, z⟩ => z M [] H .refl S .nil
theorem da_cons (h : DE X W E e f) (hr : DA X W E es fs) (hs : starEach (e :: es) X.env = (false, eval e X.env) :: starEach es X.env := by rfl) : DA X W E (e :: es) (aCons f fs) :=
  PAmono (pa_cons h hr hs) fun σ H Q ⟨M, env, st, S, z⟩ => ⟨M, env, st, S, Fin.bind z fun d st1 M1 x H1 T1 S1 r z1 =>
    ⟨M1, env, st1, S1, Fin.bind z1 fun ds st2 M2 xs H2 T2 S2 rs z2 => z2 M2 _ H2 .refl S2 (.cons (r.mono T2) rs)⟩⟩

/-! ### displays -/
def sOk (n : Nat) : Bool := Nat.ble n 16777216
theorem sOk_le {n : Nat} (h : sOk n = true) : n ≤ sizeLine := by rw [sizeLine_eq]; exact Nat.le_of_ble_eq_true h
theorem sOk_of {n : Nat} (h : n ≤ 16777216) : sOk n = true := Nat.ble_eq_true_of_le h
def eTup (g : EvL) : Ev := fun env st => (g env st).bind fun ds st1 => if sOk ds.length then .ok (.tup ds) st1 else .no
theorem Rep.newTup {M : MW} {H : Hp} {ds : List D} {vs : List V} {p : Addr} (hp : H p = none) (r : Reps W M H ds vs) : Rep W M (upd H p (.tup vs)) (.tup ds) (.ref p) :=
  .tup upd_same (r.mono (Stp.grow (updNew hp)))
theorem Sim.grow {M : MW} {σ : L2.St} {H H' : Hp} {env : Ent} {st : Store} (S : Sim W M σ H env st) (k : ∀ a o, H a = some o → H' a = some o) : Sim W M σ H' env st := S.step (Stp.grow k) (S.s.grow k)
theorem de_tup {x1} (h : DA X W E es fs) : DE X W E (.Tuple es x1 pos) (eTup fs) :=
  PEmono (pe_tup h) fun σ H Q ⟨M, env, st, S, z⟩ => ⟨M, env, st, S, Fin.bind z fun ds st1 M1 xs H1 T1 S1 rs z1 => by
    by_cases hs : sOk ds.length = true
    · rw [if_pos hs] at z1
      refine ⟨by rw [← rs.length]; exact sOk_le hs, fun p hp => ?_⟩
      exact z1 M1 _ _ (Stp.grow (updNew hp)) (S1.grow (updNew hp)) (.newTup hp rs)
    · rw [if_neg hs] at z1; exact z1.elim⟩

/-! ### new lists: EvL as an expression whose value is a new list -/
def FinN (W : Wd) (E : XK) (σ : L2.St) (env : Ent) (r : R (List D)) (M : MW) (H : Hp) (Q : VK) : Prop :=
  Fin W E (relDs W) σ env r M H fun vs H1 => ∀ p, H1 p = none → Q (.ref p) (upd H1 p (.lst vs))
def lN (W : Wd) (E : XK) (f : EvL) : TE := fun σ H Q => ∃ (M : MW) (env : Ent) (st : Store), Sim W M σ H env st ∧ FinN W E σ env (f env st) M H Q
def DN (X : Cx) (W : Wd) (E : XK) (e : Expr) (f : EvL) : Prop := PE X e (lN W E f)
/-- .. as an immutable value, as a cell -/
def eFrz (f : EvL) : Ev := fun env st => (f env st).bind fun ds st1 => .ok (.lst ds) st1
def eNew (f : EvL) : Ev := fun env st => (f env st).bind fun ds st1 => .ok (.ref st1.length) (st1 ++ [.lst ds])
theorem de_frz (h : DN X W E e fs) : DE X W E e (eFrz fs) :=
  PEmono h fun σ H Q ⟨M, env, st, S, z⟩ => ⟨M, env, st, S, Fin.bind z fun ds st1 M1 xs H1 T1 S1 rs z1 => fun p hp => by
    obtain ⟨T, S2⟩ := frozen S1.s (o := .lst xs) hp
    exact z1 _ _ _ T (S1.step T S2) (.lst (.inl upd_same) (fun z => z.2 rfl) (rs.mono T))⟩
theorem de_new (h : DN X W E e fs) : DE X W E e (eNew fs) :=
  PEmono h fun σ H Q ⟨M, env, st, S, z⟩ => ⟨M, env, st, S, Fin.bind z fun ds st1 M1 xs H1 T1 S1 rs z1 => fun p hp => by
    obtain ⟨T, S2⟩ := celled S1.s (o := .lst xs) (c := .lst ds) hp fun M' T => .lst upd_same (rs.mono T)
    refine z1 _ _ _ T (S1.step T S2) (.ref ?_)
    show (M1.rho ++ [p])[st1.length]? = some p
    rw [← S1.s.len, List.getElem?_append_right (Nat.le_refl _)]
    simp⟩
def nLst (g : EvL) : EvL := fun env st => (g env st).bind fun ds st1 => if sOk ds.length then .ok ds st1 else .no
theorem dn_lst (h : DA X W E es fs) : DN X W E (.List es pos) (nLst fs) :=
  PEmono (pe_lst h) fun σ H Q ⟨M, env, st, S, z⟩ => ⟨M, env, st, S, Fin.bind z fun ds st1 M1 xs H1 T1 S1 rs z1 => by
    by_cases hs : sOk ds.length = true
    · rw [if_pos hs] at z1
      exact ⟨by rw [← rs.length]; exact sOk_le hs, fun p hp => z1 M1 xs H1 .refl S1 rs p hp⟩
    · rw [if_neg hs] at z1; exact z1.elim⟩
end
end DL

set_option Elab.async false
set_option linter.all false
set_option maxRecDepth 100000
/-! DL2: data as PyData; comparisons, sorting order. -/
namespace DL
open PySem PySem.Spec PyProof.Rows L2

mutual
def toP : D → PyData
  | .non => .none
  | .bl b => .bool b
  | .int i => .int i
  | .str x => .str x
  | .tup xs => .tuple (toPs xs)
  | .lst xs => .list (toPs xs)
  | .ref _ => .none
  | .fn _ => .none
  | .rng _ _ => .none
def toPs : List D → List PyData
  | [] => []
  | x :: xs => toP x :: toPs xs
end
mutual
/-- no reference within, depth at most n -/
def fit : D → Nat → Bool
  | .non, _ => true
  | .bl _, _ => true
  | .int _, _ => true
  | .str _, _ => true
  | .tup xs, n => match n with
    | 0 => false
    | m + 1 => fits xs m
  | .lst xs, n => match n with
    | 0 => false
    | m + 1 => fits xs m
  | .ref _, _ => false
  | .fn _, _ => false
  | .rng _ _, _ => false
def fits : List D → Nat → Bool
  | [], _ => true
  | x :: xs, n => fit x n && fits xs n
end
mutual
/-- == -/
def same : D → D → Bool
  | .non, y => match y with | .non => true | _ => false
  | .bl a, y => match y with | .bl b => a == b | .int j => (if a then 1 else 0) == j | _ => false
  | .int i, y => match y with | .int j => i == j | .bl b => i == (if b then 1 else 0) | _ => false
  | .str x, y => match y with | .str z => x == z | _ => false
  | .tup xs, y => match y with | .tup ys => sames xs ys | _ => false
  | .lst xs, y => match y with | .lst ys => sames xs ys | _ => false
  | .ref _, _ => false
  | .fn _, _ => false
  | .rng _ _, _ => false
def sames : List D → List D → Bool
  | [], ys => match ys with | [] => true | _ :: _ => false
  | x :: xs, ys => match ys with | [] => false | y :: ys => same x y && sames xs ys
end
mutual
/-- comparable place by place -/
def alk : D → D → Bool
  | .non, y => match y with | .non => true | _ => false
  | .bl _, y => match y with | .bl _ => true | _ => false
  | .int _, y => match y with | .int _ => true | _ => false
  | .str _, y => match y with | .str _ => true | _ => false
  | .tup xs, y => match y with | .tup ys => alks xs ys | _ => false
  | .lst xs, y => match y with | .lst ys => alks xs ys | _ => false
  | .ref _, _ => false
  | .fn _, _ => false
  | .rng _ _, _ => false
def alks : List D → List D → Bool
  | [], _ => true
  | x :: xs, ys => match ys with | [] => true | y :: ys => alk x y && alks xs ys
end
mutual
/-- < of alike data -/
def dlt : D → D → Bool
  | .non, _ => false
  | .bl a, y => match y with | .bl b => !a && b | _ => false
  | .int i, y => match y with | .int j => decide (i < j) | _ => false
  | .str x, y => match y with | .str z => decide (x.cps.toList < z.cps.toList) | _ => false
  | .tup xs, y => match y with | .tup ys => dlts xs ys | _ => false
  | .lst xs, y => match y with | .lst ys => dlts xs ys | _ => false
  | .ref _, _ => false
  | .fn _, _ => false
  | .rng _ _, _ => false
def dlts : List D → List D → Bool
  | [], ys => match ys with | [] => false | _ :: _ => true
  | x :: xs, ys => match ys with | [] => false | y :: ys => if same x y then dlts xs ys else dlt x y
end

section
variable {W : Wd} {M : MW} {H : Hp} {K : PySem.W.Frag}
mutual
theorem Rep.dp : ∀ {d : D} {v : V} {n : Nat}, Rep W M H d v → fit d n = true → Dp K H v (toP d)
  | _, _, _, .non, _ => .non
  | _, _, _, .bl b, _ => .bl b
  | _, _, _, .int i, _ => .int i
  | _, _, _, .str x, _ => .str x
  | _, _, 0, .tup _ _, f => by simp [fit] at f
  | _, _, n + 1, .tup h r, f => .tup (.inl (.inl h)) (Reps.dp (n := n) r (by simpa [fit] using f))
  | _, _, 0, .lst _ _ _, f => by simp [fit] at f
  | _, _, n + 1, .lst h m r, f => .lst (.inl h) (Reps.dp (n := n) r (by simpa [fit] using f))
  | _, _, _, .ref _, f => by simp [fit] at f
  | _, _, _, .fn _, f => by simp [fit] at f
  | _, _, _, .rng _, f => by simp [fit] at f
theorem Reps.dp : ∀ {ds : List D} {vs : List V} {n : Nat}, Reps W M H ds vs → fits ds n = true → DpAll K H vs (toPs ds)
  | _, _, _, .nil, _ => .nil
  | _, _, _, .cons h r, f => by
    simp only [fits, Bool.and_eq_true] at f
    exact .cons (Rep.dp h f.1) (Reps.dp r f.2)
end
end
mutual
theorem plain_toP : ∀ (d : D) (n : Nat), fit d n = true → (toP d).plain = true ∧ (toP d).depth ≤ n
  | .non, _, _ => ⟨rfl, by simp [toP, PyData.depth]⟩
  | .bl _, _, _ => ⟨rfl, by simp [toP, PyData.depth]⟩
  | .int _, _, _ => ⟨rfl, by simp [toP, PyData.depth]⟩
  | .str _, _, _ => ⟨rfl, by simp [toP, PyData.depth]⟩
  | .tup xs, 0, f => by simp [fit] at f
  | .tup xs, n + 1, f => by
    have q := plain_toPs xs n (by simpa [fit] using f)
    simp only [toP, PyData.plain, PyData.depth]
    exact ⟨q.1, by omega⟩
  | .lst xs, 0, f => by simp [fit] at f
  | .lst xs, n + 1, f => by
    have q := plain_toPs xs n (by simpa [fit] using f)
    simp only [toP, PyData.plain, PyData.depth]
    exact ⟨q.1, by omega⟩
  | .ref _, _, f => by simp [fit] at f
  | .fn _, _, f => by simp [fit] at f
  | .rng _ _, _, f => by simp [fit] at f
theorem plain_toPs : ∀ (ds : List D) (n : Nat), fits ds n = true → PyData.plainAll (toPs ds) = true ∧ PyData.depthAll (toPs ds) ≤ n
  | [], _, _ => ⟨rfl, by simp [toPs, PyData.depthAll]⟩
  | d :: ds, n, f => by
    simp only [fits, Bool.and_eq_true] at f
    have q := plain_toP d n f.1
    have r := plain_toPs ds n f.2
    simp only [toPs, PyData.plainAll, PyData.depthAll, Bool.and_eq_true]
    exact ⟨⟨q.1, r.1⟩, by omega⟩
end
mutual
theorem eqv_toP : ∀ (a b : D) (m n : Nat), fit a m = true → fit b n = true → PyData.eqv (toP a) (toP b) = same a b
  | .non, b, _, _, _, g => by cases b <;> simp_all [toP, PyData.eqv, same, fit]
  | .bl x, b, _, _, _, g => by cases b <;> simp_all [toP, PyData.eqv, same, fit]
  | .int x, b, _, _, _, g => by cases b <;> simp_all [toP, PyData.eqv, same, fit]
  | .str x, b, _, _, _, g => by cases b <;> simp_all [toP, PyData.eqv, same, fit]
  | .tup xs, b, 0, _, f, _ => by simp [fit] at f
  | .tup xs, b, m + 1, 0, f, g => by cases b <;> simp_all [toP, PyData.eqv, same, fit]
  | .tup xs, b, m + 1, n + 1, f, g => by
    cases b with
    | tup ys =>
      simp only [toP, PyData.eqv, same]
      exact eqv_toPs xs ys m n (by simpa [fit] using f) (by simpa [fit] using g)
    | _ => simp_all [toP, PyData.eqv, same, fit]
  | .lst xs, b, 0, _, f, _ => by simp [fit] at f
  | .lst xs, b, m + 1, 0, f, g => by cases b <;> simp_all [toP, PyData.eqv, same, fit]
  | .lst xs, b, m + 1, n + 1, f, g => by
    cases b with
    | lst ys =>
      simp only [toP, PyData.eqv, same]
      exact eqv_toPs xs ys m n (by simpa [fit] using f) (by simpa [fit] using g)
    | _ => simp_all [toP, PyData.eqv, same, fit]
  | .ref _, _, _, _, f, _ => by simp [fit] at f
  | .fn _, _, _, _, f, _ => by simp [fit] at f
  | .rng _ _, _, _, _, f, _ => by simp [fit] at f
theorem eqv_toPs : ∀ (a b : List D) (m n : Nat), fits a m = true → fits b n = true → PyData.eqvAll (toPs a) (toPs b) = sames a b
  | [], [], _, _, _, _ => rfl
  | [], _ :: _, _, _, _, _ => rfl
  | _ :: _, [], _, _, _, _ => rfl
  | x :: xs, y :: ys, m, n, f, g => by
    simp only [fits, Bool.and_eq_true] at f g
    simp only [toPs, PyData.eqvAll, sames]
    rw [eqv_toP x y m n f.1 g.1, eqv_toPs xs ys m n f.2 g.2]
end
mutual
theorem alike_toP : ∀ (a b : D), alk a b = true → PySem.W.alike (toP a) (toP b) = true
  | .non, b, h => by cases b <;> simp_all [toP, PySem.W.alike, alk]
  | .bl x, b, h => by cases b <;> simp_all [toP, PySem.W.alike, alk]
  | .int x, b, h => by cases b <;> simp_all [toP, PySem.W.alike, alk]
  | .str x, b, h => by cases b <;> simp_all [toP, PySem.W.alike, alk]
  | .tup xs, b, h => by
    cases b with
    | tup ys =>
      simp only [toP, PySem.W.alike]
      exact alike_toPs xs ys (by simpa [alk] using h)
    | _ => simp_all [toP, PySem.W.alike, alk]
  | .lst xs, b, h => by
    cases b with
    | lst ys =>
      simp only [toP, PySem.W.alike]
      exact alike_toPs xs ys (by simpa [alk] using h)
    | _ => simp_all [toP, PySem.W.alike, alk]
  | .ref _, _, h => by simp [alk] at h
  | .fn _, _, h => by simp [alk] at h
  | .rng _ _, _, h => by simp [alk] at h
theorem alike_toPs : ∀ (a b : List D), alks a b = true → PySem.W.alikeAll (toPs a) (toPs b) = true
  | [], b, _ => by cases b <;> simp [toPs, PySem.W.alikeAll]
  | _ :: _, [], _ => by simp [toPs, PySem.W.alikeAll]
  | x :: xs, y :: ys, h => by
    simp only [alks, Bool.and_eq_true] at h
    simp only [toPs, PySem.W.alikeAll, Bool.and_eq_true]
    exact ⟨alike_toP x y h.1, alike_toPs xs ys h.2⟩
end
mutual
theorem dataLt_toP : ∀ (a b : D) (m n : Nat), fit a m = true → fit b n = true → alk a b = true → PySem.W.dataLt (toP a) (toP b) = dlt a b
  | .non, b, _, _, _, _, h => by
    cases b with
    | non => rfl
    | _ => simp [alk] at h
  | .bl x, b, _, _, _, _, h => by
    cases b with
    | bl y =>
      simp only [toP, dlt]
      rw [PySem.W.dataLt_bool]
      cases x <;> cases y <;> rfl
    | _ => simp [alk] at h
  | .int x, b, _, _, _, _, h => by
    cases b with
    | int y => simp only [toP, dlt]; exact PySem.W.dataLt_int x y
    | _ => simp [alk] at h
  | .str x, b, _, _, _, _, h => by
    cases b with
    | str y => simp only [toP, dlt]; exact PySem.W.dataLt_str x y
    | _ => simp [alk] at h
  | .tup xs, b, 0, _, f, _, h => by simp [fit] at f
  | .tup xs, b, m + 1, n, f, g, h => by
    cases b with
    | tup ys =>
      cases n with
      | zero => simp [fit] at g
      | succ n =>
        simp only [toP, dlt, PySem.W.dataLt_tuple]
        exact dataLt_toPs xs ys m n (by simpa [fit] using f) (by simpa [fit] using g) (by simpa [alk] using h)
    | _ => simp [alk] at h
  | .lst xs, b, 0, _, f, _, h => by simp [fit] at f
  | .lst xs, b, m + 1, n, f, g, h => by
    cases b with
    | lst ys =>
      cases n with
      | zero => simp [fit] at g
      | succ n =>
        simp only [toP, dlt, PySem.W.dataLt_list]
        exact dataLt_toPs xs ys m n (by simpa [fit] using f) (by simpa [fit] using g) (by simpa [alk] using h)
    | _ => simp [alk] at h
  | .ref _, _, _, _, f, _, _ => by simp [fit] at f
  | .fn _, _, _, _, f, _, _ => by simp [fit] at f
  | .rng _ _, _, _, _, f, _, _ => by simp [fit] at f
theorem dataLt_toPs : ∀ (a b : List D) (m n : Nat), fits a m = true → fits b n = true → alks a b = true → PyProof.Rows.lexLt PyProof.Rows.itemOrd (PySem.W.keyToksAll (toPs a)) (PySem.W.keyToksAll (toPs b)) = dlts a b
  | [], [], _, _, _, _, _ => by simp only [toPs, dlts]; rfl
  | [], y :: ys, _, _, _, _, _ => by simp only [toPs, dlts, PySem.W.keyToksAll]; rfl
  | x :: xs, [], _, _, _, _, _ => by simp only [toPs, dlts, PySem.W.keyToksAll]; rfl
  | x :: xs, y :: ys, m, n, f, g, h => by
    simp only [fits, Bool.and_eq_true] at f g
    simp only [alks, Bool.and_eq_true] at h
    simp only [toPs, dlts]
    rw [PySem.W.dataLt_cons (alike_toP x y h.1), eqv_toP x y m n f.1 g.1, dataLt_toPs xs ys m n f.2 g.2 h.2, dataLt_toP x y m n f.1 g.1 h.1]
end
end DL

set_option Elab.async false
set_option linter.all false
set_option maxRecDepth 100000
set_option maxHeartbeats 2000000
/-! DL3: what a def promises, where no repr is under way (guards known); calls; the law's own call. -/
namespace DL
open PySem PySem.Spec PyProof.Rows L2

/-- room, and no guard is held -/
structure Free (k : Nat) (A : Around) : Prop where
  r : Room k A
  g : A.guards = some []
theorem Free.mono {j k : Nat} {A : Around} (h : Free k A) (l : j ≤ k) : Free j A := ⟨h.r.mono l, h.g⟩
theorem Free.deeper {k : Nat} {A : Around} (h : Free (k + 1) A) (env : Env) : Free k (A.deeper env) := ⟨h.r.deeper env, h.g⟩

structure GOk (P : Program) (w : World) (K : PySem.W.Frag) (mg : PySem.Str → Option Value) (base : Heap) (T : CXT) (k : Nat) (f : Addr) (fd : FuncData) (ps : List PySem.Str) (sp : Sp) : Prop where
  len : ∀ vs H Q E, sp vs H Q E → vs.length = ps.length
  run : ∀ (B : Around) (up : List Env) (z : Shared) (H : Hp) (gs : Args) (us : List Value) (vs : List V) (Q : VK) (E : XK),
    Free k B → Env0 P w K mg base B up z H → BindsTo z fd gs (ps.zip us) → Vals vs us → sp vs H Q E →
      codeAny (model P w) B (.call (.ref f) gs) (CR T up P w H z Q E) z
section
variable {P : Program} {w : World} {K : PySem.W.Frag} {mg : PySem.Str → Option Value} {base : Heap} {T : CXT} {j k : Nat} {f : Addr} {fd : FuncData} {ps : List PySem.Str} {sp : Sp}
theorem GOk.mono (F : GOk P w K mg base T j f fd ps sp) (h : j ≤ k) : GOk P w K mg base T k f fd ps sp :=
  ⟨F.len, fun B up z H gs us vs Q E hr => F.run B up z H gs us vs Q E (hr.mono h)⟩
theorem atEntry {name qual : PySem.Str} {pr : Arguments} {body : List Stmt} {scope : Scope} {dV kV doc pm cdv ct : Value} {an : Option Addr} {N : List PySem.Str} (S : FnScope N ps scope) (n : Nat) (us : List Value) :
    ∀ y ∈ ps.zip us, scope.names.lookup y.1 = some .local ∨ (scope.names.lookup y.1 = some .cell ∧ ((cellsFrom (n + 1) scope.names []).lookup y.1).isSome = true) := by
  intro y hy
  cases S.par y.1 (List.of_mem_zip hy).1 with
  | inl l => exact .inl l
  | inr c => exact .inr ⟨c, PySem.W.cellsFrom_some _ _ _ (.inl c)⟩
/-- a def by its body -/
theorem gok_of {name qual : PySem.Str} {pr : Arguments} {body : List Stmt} {scope : Scope} {dV kV doc pm cdv ct oc : Value} {an od : Option Addr} {osl : Array (Option Value)} {N : List PySem.Str}
    (lk : K.lookup f = some ⟨oc, od, .func (PySem.W.fnOf name qual pr body scope dV kV doc pm an cdv ct), osl⟩) (hcd : PySem.W.codeIn K cdv qual = true) (S : FnScope N ps scope)
    (len : ∀ vs H Q E, sp vs H Q E → vs.length = ps.length)
    (bd : ∀ (B : Around) (up : List Env) (z : Shared) (H : Hp) (vs : List V) (Q : VK) (E : XK), Free k (B.deeper (envOfC qual scope z.heap.objs.size f cdv)) → sp vs H Q E →
      ∃ t, PSs (cxOf T P w K mg base N qual scope f cdv B up z H E) body t ∧ t { nx := fun _ H1 => Q .non H1, rt := Q } (start N vs) H) :
    GOk P w K mg base T (k + 1) f (PySem.W.fnOf name qual pr body scope dV kV doc pm an cdv ct) ps sp where
  len := len
  run := by
    intro B up z H gs us vs Q E fr e0 hb rv hsp
    have kz := e0.mod.kin.keeps (h' := z.heap) fun b o q => (e0.bs b o q).1
    have lz := e0.mod.nolimit.keeps (h' := z.heap) fun b o q => (e0.bs b o q).1
    have nv := len _ _ _ _ hsp
    have cr := PySem.W.codeRec_of kz hcd
    apply codeAny_call_function fr.r.depth (kz _ _ lk) rfl S.co S.gen rfl cr
    apply hb
    apply wpAny_newFunctionEnv_cells S.kind (atEntry (name := name) (qual := qual) (pr := pr) (body := body) (dV := dV) (kV := kV) (doc := doc) (pm := pm) (cdv := cdv) (ct := ct) (an := an) S _ us)
    intro env he s1 x
    cases he
    refine ⟨lz.keeps x.toInCall.keep, codeAny_func ?_⟩
    obtain ⟨t, pt, ht⟩ := bd B up z H vs Q E (fr.deeper _) hsp
    have J := inv_start (CX := T) (E := E) S fr.r.hd e0 nv rv x
    refine wpAny_mono (pt.run [] s1 _ H _ J ht) ?_ (fun _ _ q => q)
    intro fl s2 q
    cases fl with
    | ret u =>
      obtain ⟨v, σ2, H2, I2, r2, q2⟩ := q
      exact ⟨v, H2, I2.os, I2.bare, I2.base, I2.hok, r2, q2⟩
    | next =>
      obtain ⟨σ2, H2, I2, q2⟩ := q
      exact ⟨.non, H2, I2.os, I2.bare, I2.base, I2.hok, rfl, q2⟩
    | brk => exact False.elim q.choose_spec.choose_spec.2
    | cont => exact False.elim q.choose_spec.choose_spec.2
end

section
variable {X : Cx} {T : CXT} {k : Nat} {f : Addr} {fd : FuncData} {ps : List PySem.Str} {sp : Sp} {E : XK} {x : PySem.Str} {p pos : Pos} {e : Expr} {es : List Expr} {t : TA}
theorem grun {pins : List (Addr × Obj)} {σ : L2.St} {H : Hp} {z : Shared} {Q : VK} {us : List Value} {vs : List V} (F : GOk X.prog X.w X.K X.mg X.base T k f fd ps sp) (fr : Free k X.A) (hb : Binds X.K fd ps []) (hx : Passes T X E)
    (I : Inv X pins σ H z) (rv : Vals vs us) (h : sp vs H Q E) : wpAny (model X.prog X.w) X.A (call (.ref f) us) (EP X pins σ Q) X.xe z := by
  have hl : us.length = ps.length := rv.length.symm.trans (F.len _ _ _ _ h)
  have b := hb z us I.kIn (by simpa using hl)
  simp only [List.append_nil] at b
  apply wpAny_call
  refine codeAny_mono (F.run X.A X.stack z H _ us vs Q E fr I.env0 b rv h) ?_
  intro r s2 q
  match r, q with
  | .error v, q => exact hx _ _ _ _ v s2 I q
  | .ok (.ret u), q => exact I.after q
  | .ok .next, q => exact q.elim
  | .ok .brk, q => exact q.elim
  | .ok .cont, q => exact q.elim
/-- f(e, ..) -/
theorem ge_call (F : GOk X.prog X.w X.K X.mg X.base T k f fd ps sp) (fr : Free k X.A) (hg : Gl X x) (hm : X.mg x = some (.ref f)) (hk : PySem.W.keepIn X.K (.ref f) = true) (hb : Binds X.K fd ps []) (hx : Passes T X E)
    (ha : PA X (e :: es) t) (hdb : (x == ("__debug__" : PySem.Str)) = false := by decide) (he : starEach (e :: es) X.env = (false, eval e X.env) :: starEach es X.env := by rfl) (hpl : (backTo pos (starEach es X.env)).any (·.1) = false := by rfl) :
    PE X (.Call (.Name x p) (e :: es) [] pos) (fun σ H Q => t σ H fun vs H1 => sp vs H1 Q E) where
  run := by
    intro pins z σ H Q I h
    apply wpAny_Call_Name_kw (ld_glob I hg hm _ hdb)
    apply PySem.W.callWith_K (h₀ := X.base) I.ok.mod.kin hk _ he hpl
    refine thn (ha.run pos pins z σ H _ I h) ?_
    rintro us s1 ⟨vs, H1, I1, r1, q1⟩
    exact ⟨I1.kIn, grun F fr hb hx I1 r1 q1⟩
/-- f() -/
theorem ge_call0 (F : GOk X.prog X.w X.K X.mg X.base T k f fd ps sp) (fr : Free k X.A) (hg : Gl X x) (hm : X.mg x = some (.ref f)) (hk : PySem.W.keepIn X.K (.ref f) = true) (hb : Binds X.K fd ps []) (hx : Passes T X E)
    (hdb : (x == ("__debug__" : PySem.Str)) = false := by decide) : PE X (.Call (.Name x p) [] [] pos) (fun σ H Q => sp [] H Q E) where
  run := by
    intro pins z σ H Q I h
    apply wpAny_Call_Name_kw (ld_glob I hg hm _ hdb)
    exact PySem.W.callWith_K0 I.kIn hk (grun (us := []) F fr hb hx I .nil h)
/-- f(e, ..), f a def that stands in a slot -/
theorem ge_callS {i : Nat} (F : GOk X.prog X.w X.K X.mg X.base T k f fd ps sp) (fr : Free k X.A) (hN : X.N[i]? = some x) (hv : Vis X.env.scope x) (hk : PySem.W.keepIn X.K (.ref f) = true) (hb : Binds X.K fd ps []) (hx : Passes T X E)
    (ha : PA X (e :: es) t) (hdb : (x == ("__debug__" : PySem.Str)) = false := by decide) (hcd : (x == ("__classdict__" : PySem.Str)) = false := by decide) (he : starEach (e :: es) X.env = (false, eval e X.env) :: starEach es X.env := by rfl) (hpl : (backTo pos (starEach es X.env)).any (·.1) = false := by rfl) :
    PE X (.Call (.Name x p) (e :: es) [] pos) (fun σ H Q => σ[i]? = some (some (.ref f)) ∧ t σ H fun vs H1 => sp vs H1 Q E) where
  run := by
    rintro pins z σ H Q I ⟨hs, h⟩
    apply wpAny_Call_Name_kw
    refine thn ((pe_var (pos := p) hN hv hdb hcd).run pins z σ H (fun v H1 => v = .ref f ∧ H1 = H) I ⟨_, hs, rfl, rfl⟩) ?_
    rintro u s1 ⟨v, H1, I1, r1, rfl, rfl⟩
    cases r1
    apply PySem.W.callWith_K (h₀ := X.base) I.ok.mod.kin hk _ he hpl
    refine thn (ha.run pos pins s1 σ _ _ I1 h) ?_
    rintro us s2 ⟨vs, H2, I2, r2, q2⟩
    exact ⟨I2.kIn, grun F fr hb hx I2 r2 q2⟩
end
end DL

set_option Elab.async false
set_option linter.all false
set_option maxRecDepth 100000
set_option maxHeartbeats 4000000
/-! DL4: the law's own call, behind the head. -/
namespace DL
open PySem PySem.Spec PyProof.Rows L2

/-- nothing is tracked, or the script alone, known to the object -/
def OnlyAt (a : Addr) (H : Hp) : Prop := ∀ b, H b = none ∨ (b = a ∧ ∃ o xs, H b = some (.frz o (.lst xs)))
section
variable {P : Program} {w : World} {K : PySem.W.Frag} {mg mb : PySem.Str → Option Value} {T : CXT} {k : Nat} {f a : Addr} {fd : FuncData} {x : PySem.Str} {sp : Sp} {z : Shared} {us : List Value} {ns : List Int}
theorem gcore (KX : K.In z.heap) (hns : z.heap.Ns mainGlobals mg) (hb : z.heap.Ns builtinsNs mb) (hbb : ∀ y : PySem.Str, y ≠ "__name__" → mb y = bootBuiltins y) (lim : z.heap.NoLimit) (hg : z.gens = #[])
    (ha : z.heap.get? a = some { cls := .type "list", data := .seq us.toArray }) (hr : Room k callerA)
    (F : ∀ base : Heap, K.In base → base.Ns mainGlobals mg → GOk P w K mg base T k f fd [x] sp) (bind : ∀ (s : Shared) (u : Value), BindsTo s fd ⟨[u], []⟩ [(x, u)])
    (H : Hp) (hO : OnlyAt a H) (hok : HOk P w H z.heap) (hK : H a ≠ none → K.lookup a = none) (hsp : sp [.ref a] H (fun v _ => v = .bl true) fun _ _ _ => False)
    (noT : ∀ e s', T [] H z (fun _ _ _ => False) e s' → False) :
    codeAny (model P w) callerA (.call (.ref f) ⟨[.ref a], []⟩) (fun r s' => r = .ok (.ret (.bool true)) ∧ OldK z.heap s'.heap ∧ s'.os = z.os ∧ AllBare s'.gens) z := by
  have at_a : ∀ {b : Addr}, H b ≠ none → b = a := fun {b} q => (hO b).elim (fun n => absurd n q) fun n => n.1
  have free : ∀ {b : Addr} {o : Obj}, z.heap.get? b = some o → o ≠ { cls := .type "list", data := .seq us.toArray } → H b = none := by
    intro b o e ne
    by_cases q : H b = none
    · exact q
    · have : b = a := at_a q
      rw [this, ha] at e
      exact absurd (Option.some.inj e).symm ne
  have ns_keep : ∀ {b : Addr} {m : PySem.Str → Option Value}, z.heap.Ns b m → (hidT z.heap H).Ns b m := by
    rintro b m ⟨o, es, ep, e, d, r⟩
    refine ⟨o, es, ep, hidT_get e (free e ?_), d, r⟩
    intro q
    rw [q] at d
    exact nomatch d
  have kin : K.In (hidT z.heap H) := by
    intro b o e
    refine hidT_get (KX b o e) ?_
    by_cases q : H b = none
    · exact q
    · have eb : b = a := at_a q
      subst eb
      rw [hK q] at e
      cases e
  have md : Mod K mg (hidT z.heap H) := by
    obtain ⟨mc, l1, l2⟩ := lim
    exact { kin := kin, glob := ns_keep hns, blt := ⟨mb, ns_keep hb, hbb⟩, nolimit := ⟨mc, ns_keep l1, l2⟩ }
  have en : Env0 P w K mg (hidT z.heap H) callerA [] z H :=
    { frames := rfl, mod := md, bs := fun b o e => of_hidT e, bsz := Nat.le_of_eq (hidT_size _ _), funs := trivial, frf := (fun b hb => nomatch hb), hok := hok, bare := .of_eq hg }
  refine codeAny_mono ((F _ kin (ns_keep hns)).run callerA [] z H _ [.ref a] [.ref a] _ _ ⟨hr, rfl⟩ en (bind z (.ref a)) (.cons rfl .nil) hsp) ?_
  intro r s' q
  match r, q with
  | .error e, q => exact (noT e s' q).elim
  | .ok .next, q => exact q.elim
  | .ok .brk, q => exact q.elim
  | .ok .cont, q => exact q.elim
  | .ok (.ret u), q =>
    obtain ⟨v, H', os, bare, un, hok', rv, hv⟩ := q
    have hv : v = .bl true := hv
    subst hv
    have rv : u = Value.bool true := rv
    subst rv
    refine ⟨rfl, OldK.of_keep (fun b o e => ?_), os, bare⟩
    rcases hO b with q | ⟨_, ob, xs, q⟩
    · exact un.keep b o e q (fun m => nomatch m) (by simp)
    · have e1 := (hok b _ q).1
      have e2 := (hok' b _ (un.frzs b ob _ q)).1
      rw [e] at e1
      cases e1
      exact e2
theorem glaw (KX : K.In z.heap) (hns : z.heap.Ns mainGlobals mg) (hb : z.heap.Ns builtinsNs mb) (hbb : ∀ y : PySem.Str, y ≠ "__name__" → mb y = bootBuiltins y) (lim : z.heap.NoLimit) (hg : z.gens = #[])
    (ha : z.heap.get? a = some { cls := .type "list", data := .seq us.toArray }) (hi : IntsAre us ns) (hl : ns.length ≤ sizeLine) (hr : Room k callerA)
    (F : ∀ base : Heap, K.In base → base.Ns mainGlobals mg → GOk P w K mg base T k f fd [x] sp) (bind : ∀ (s : Shared) (u : Value), BindsTo s fd ⟨[u], []⟩ [(x, u)])
    (free : K.lookup a = none)
    (hsp : ∀ H : Hp, OnlyAt a H → Rd H a (.lst (ns.map V.int)) → sp [.ref a] H (fun v _ => v = .bl true) fun _ _ _ => False)
    (noT : ∀ H e s', T [] H z (fun _ _ _ => False) e s' → False) :
    codeAny (model P w) callerA (.call (.ref f) ⟨[.ref a], []⟩) (fun r s' => r = .ok (.ret (.bool true)) ∧ OldK z.heap s'.heap ∧ s'.os = z.os ∧ AllBare s'.gens) z := by
  have rv := vals_ints hi
  let ob : Obj := { cls := .type "list", data := .seq us.toArray }
  let H : Hp := upd (fun _ => none) a (.frz ob (.lst (ns.map V.int)))
  have eH : H a = some (.frz ob (.lst (ns.map V.int))) := upd_same
  have oH : ∀ b, b ≠ a → H b = none := fun b hb => upd_ne hb
  have only : OnlyAt a H := fun b => by
    by_cases hb : b = a
    · subst hb; exact .inr ⟨rfl, _, _, eH⟩
    · exact .inl (oH b hb)
  refine gcore KX hns hb hbb lim hg ha hr F bind H only (fun b o e => ?_) (fun _ => free) (hsp H only (.inr ⟨_, eH⟩)) (noT H)
  by_cases hb : b = a
  · subst hb
    rw [eH] at e
    cases e
    exact ⟨ha, by rw [List.length_map]; exact hl, us, 0, rv, ha⟩
  · rw [oH b hb] at e
    cases e
end
/-- the goal that the head leaves -/
theorem gwalk {l : PySem.W.OpenLaw} {n k : Nat} {q : Program} {loose : List PySem.Str} {XP : (PySem.Str → Option Value) → Heap → Prop} {YP : World → Heap → Prop} {d : DefRec} {T : CXT} {x : PySem.Str}
    (hn : l.most = some n) (hn2 : n ≤ sizeLine) (hdf : d.params.defaults = []) (hr : Room k callerA)
    (F : ∀ (w : World) (mg : PySem.Str → Option Value) (f : Addr) (h : Heap), YP w h → h.Ns mainGlobals mg → mg d.name = some (.ref f) →
      ∃ (K : PySem.W.Frag) (fd : FuncData) (sp : Sp), K.In h ∧ (∀ (s : Shared) (u : Value), BindsTo s fd ⟨[u], []⟩ [(x, u)]) ∧
        (∀ (H : Hp) (a : Addr) (ns : List Int), ns.length ≤ n → OnlyAt a H → SqL K H a (ns.map V.int) → sp [.ref a] H (fun v _ => v = .bl true) fun _ _ _ => False) ∧
        ∀ base : Heap, K.In base → base.Ns mainGlobals mg → GOk l.prog w K mg base T k f fd [x] sp)
    (noT : ∀ (H : Hp) (s : Shared) (e : Value) (s' : Shared), T [] H s (fun _ _ _ => False) e s' → False) :
    PySem.W.WalkO q loose XP YP l.row.toRowW d [] (fun f vs => PySem.call f vs) := by
  apply Att.attach_call hn hdf
  intro w s0 z mg mb f o pm cd doc a us ns G Y ho hd hcd hmg hobj hints hlen hg
  obtain ⟨K, fd, sp, KX, bind, hsp, hF⟩ := F w mg f _ Y G.T.g hmg
  cases hk : K.lookup a with
  | none =>
    refine glaw KX G.T.g G.T.b G.T.builtins G.T.nolimit hg hobj hints (Nat.le_trans hlen hn2) hr hF bind hk (fun H hO hS => hsp H a ns hlen hO (.inl hS)) fun H e s' => noT H z e s'
  | some ob =>
    have e := KX a ob hk
    rw [hobj] at e
    cases e
    have rv := vals_ints hints
    refine gcore KX G.T.g G.T.b G.T.builtins G.T.nolimit hg hobj hr hF bind (fun _ => none) (fun _ => .inl rfl) (fun b u e => nomatch e) (fun q => absurd rfl q) (hsp _ a ns hlen (fun _ => .inl rfl) (.inr ⟨_, us.toArray, _, hk, rfl, rfl, rfl, ?_, by simpa using rv⟩)) fun e s' => noT _ z e s'
    have : us.length = ns.length := hints.length
    simp only [List.size_toArray]
    omega
end DL

set_option Elab.async false
set_option linter.all false
set_option maxRecDepth 100000
set_option maxHeartbeats 2000000
/-! DL5: operators on data. -/
namespace DL
open PySem PySem.Spec PyProof.Rows L2

/-- a cell's list as data -/
def deref (st : Store) : D → D
  | .ref n => match st[n]? with
    | some (.lst ds) => .lst ds
    | _ => .ref n
  | d => d
@[simp] theorem deref_non (st : Store) : deref st .non = .non := rfl
@[simp] theorem deref_bl (st : Store) (b : Bool) : deref st (.bl b) = .bl b := rfl
@[simp] theorem deref_int (st : Store) (i : Int) : deref st (.int i) = .int i := rfl
@[simp] theorem deref_str (st : Store) (x : PySem.Str) : deref st (.str x) = .str x := rfl
@[simp] theorem deref_tup (st : Store) (xs : List D) : deref st (.tup xs) = .tup xs := rfl
@[simp] theorem deref_lst (st : Store) (xs : List D) : deref st (.lst xs) = .lst xs := rfl
section
variable {W : Wd} {M : MW} {H : Hp} {st : Store} {K : PySem.W.Frag} {σ : L2.St} {env : Ent} {E : XK} {Q : VK}
/-- what stands behind deref -/
theorem deref_cases (S : SimS W M H st) {d : D} {v : V} (r : Rep W M H d v) : deref st d = d ∨ ∃ n ds a vs, d = .ref n ∧ st[n]? = some (.lst ds) ∧ deref st d = .lst ds ∧ v = .ref a ∧ M.rho[n]? = some a ∧ H a = some (.lst vs) ∧ Reps W M H ds vs := by
  cases r with
  | ref h =>
    rename_i n a
    cases e : st[n]? with
    | none => exact .inl (by simp [deref, e])
    | some c =>
      cases c with
      | lst ds =>
        have c := S.cell n _ a e h
        cases c with
        | lst h1 r1 => exact .inr ⟨n, ds, a, _, rfl, e, by simp [deref, e], rfl, h, h1, r1⟩
      | dct kvs => exact .inl (by simp [deref, e])
  | _ => exact .inl rfl
theorem rep_dp (S : SimS W M H st) {d : D} {v : V} {n : Nat} (r : Rep W M H d v) (f : fit (deref st d) n = true) : Dp K H v (toP (deref st d)) := by
  rcases deref_cases S r with e | ⟨m, ds, a, vs, rfl, e1, e2, rfl, e3, e4, e5⟩
  · rw [e] at f ⊢
    exact r.dp f
  · rw [e2] at f ⊢
    cases n with
    | zero => simp [fit] at f
    | succ n => exact .lst (.inl (.inl e4)) (e5.dp (n := n) (by simpa [fit] using f))
/-- the items of a list or a tuple -/
def items (st : Store) (d : D) : Option (List D) := match deref st d with
  | .lst ds => some ds
  | .tup ds => some ds
  | _ => none
theorem rep_items (S : SimS W M H st) {d : D} {v : V} {ds : List D} (r : Rep W M H d v) (e : items st d = some ds) : ∃ a vs, v = .ref a ∧ Reps W M H ds vs ∧ (SqL K H a vs ∨ SqT K H a vs) := by
  unfold items at e
  rcases deref_cases S r with q | ⟨m, ds', a, vs, rfl, e1, e2, rfl, e3, e4, e5⟩
  · rw [q] at e
    cases r with
    | tup h r => cases e; exact ⟨_, _, rfl, r, .inr (.inl (.inl h))⟩
    | lst h m r => cases e; exact ⟨_, _, rfl, r, .inl (.inl h)⟩
    | _ => cases e
  · rw [e2] at e
    cases e
    exact ⟨_, _, rfl, e5, .inl (.inl (.inl e4))⟩
theorem rep_lst (S : SimS W M H st) {d : D} {v : V} {ds : List D} (r : Rep W M H d v) (e : deref st d = .lst ds) : ∃ a vs, v = .ref a ∧ Reps W M H ds vs ∧ Rd H a (.lst vs) := by
  rcases deref_cases S r with q | ⟨m, ds', a, vs, rfl, e1, e2, rfl, e3, e4, e5⟩
  · rw [q] at e
    subst e
    cases r with
    | lst h m r => exact ⟨_, _, rfl, r, h⟩
  · rw [e2] at e
    cases e
    exact ⟨_, _, rfl, e5, .inl e4⟩
theorem Fin.give {d : D} {v : V} (h : Fin W E (relD W) σ env (.ok d st) M H Q) (S : Sim W M σ H env st) (r : Rep W M H d v) : Q v H := h M v H .refl S r
theorem Fin.tup {ds : List D} {vs : List V} (h : Fin W E (relD W) σ env (.ok (.tup ds) st) M H Q) (S : Sim W M σ H env st) (r : Reps W M H ds vs) : ∀ p, H p = none → Q (.ref p) (upd H p (.tup vs)) := fun p hp =>
  h M _ _ (Stp.grow (updNew hp)) (S.grow (updNew hp)) (.newTup hp r)
theorem Fin.lst {ds : List D} {vs : List V} (h : Fin W E (relD W) σ env (.ok (.lst ds) st) M H Q) (S : Sim W M σ H env st) (r : Reps W M H ds vs) : ∀ p, H p = none → Q (.ref p) (upd H p (.lst vs)) := fun p hp => by
  obtain ⟨T, S2⟩ := frozen S.s (o := .lst vs) hp
  exact h _ _ _ T (S.step T S2) (.lst (.inl upd_same) (fun z => z.2 rfl) (r.mono T))
end

/-! ### comparisons -/
def cmpOk (a b : D) : Bool := fit a 40 && fit b 40
def opEq (st : Store) (a b : D) : Option D := if cmpOk (deref st a) (deref st b) then some (.bl (same (deref st a) (deref st b))) else none
def opNe (st : Store) (a b : D) : Option D := if cmpOk (deref st a) (deref st b) then some (.bl (!same (deref st a) (deref st b))) else none
def notNon : D → Bool
  | .non => false
  | _ => true
def ordOk (a b : D) : Bool := cmpOk a b && (alk a b && notNon a && notNon b)
def opLt (st : Store) (a b : D) : Option D := if ordOk (deref st a) (deref st b) then some (.bl (dlt (deref st a) (deref st b))) else none
def opGt (st : Store) (a b : D) : Option D := if ordOk (deref st a) (deref st b) && alk (deref st b) (deref st a) then some (.bl (dlt (deref st b) (deref st a))) else none
def opLe (st : Store) (a b : D) : Option D := if ordOk (deref st a) (deref st b) && alk (deref st b) (deref st a) then some (.bl (!dlt (deref st b) (deref st a))) else none
def opGe (st : Store) (a b : D) : Option D := if ordOk (deref st a) (deref st b) then some (.bl (!dlt (deref st a) (deref st b))) else none
def opIn (st : Store) (a b : D) : Option D := match items st b with
  | some ds => if fit (deref st a) 40 && fits ds 40 then some (.bl (ds.any fun y => same y (deref st a))) else none
  | none => none
def opNotIn (st : Store) (a b : D) : Option D := match items st b with
  | some ds => if fit (deref st a) 40 && fits ds 40 then some (.bl (!(ds.any fun y => same y (deref st a)))) else none
  | none => none
def rCmpP (K : PySem.W.Frag) (pr : PyData → PyData → Prop) (g : PyData → PyData → Bool) : R2 := fun x y H Q => ∃ d e, Dp K H x d ∧ Dp K H y e ∧ pr d e ∧ Q (.bl (g d e)) H
def prEq (d e : PyData) : Prop := d.plain = true ∧ e.plain = true ∧ d.depth ≤ 40
def prLt (d e : PyData) : Prop := PySem.W.alike d e = true ∧ d ≠ .none ∧ d.depth ≤ 40
section
variable {X : Cx}
theorem un_min {A : Around} {d e : Nat} (hu : A.units + 64 < cLine) (h : d ≤ 40) : A.units + min d e < cLine := by omega
theorem op_eqP (hu : X.A.units + 64 < cLine) : OpR X (compareOp .Eq) (rCmpP X.K prEq PyData.eqv) := by
  rintro pins s σ H x y v u Q I rx ry ⟨d, e, hd, he, ⟨p1, p2, p3⟩, q⟩
  obtain ⟨as, r1⟩ := Dp.reads I d x v hd rx
  obtain ⟨bs, r2⟩ := Dp.reads I e y u he ry
  exact PySem.SeqAt.eq_plain r1 r2 p1 p2 (un_min hu p3) ⟨.bl _, H, I, rfl, q⟩
theorem op_neP (hu : X.A.units + 64 < cLine) : OpR X (compareOp .NotEq) (rCmpP X.K prEq fun a b => !PyData.eqv a b) := by
  rintro pins s σ H x y v u Q I rx ry ⟨d, e, hd, he, ⟨p1, p2, p3⟩, q⟩
  obtain ⟨as, r1⟩ := Dp.reads I d x v hd rx
  obtain ⟨bs, r2⟩ := Dp.reads I e y u he ry
  exact PySem.SeqAt.ne_plain r1 r2 p1 p2 (un_min hu p3) ⟨.bl _, H, I, rfl, q⟩
theorem op_ltP (hu : X.A.units + 64 < cLine) : OpR X (compareOp .Lt) (rCmpP X.K prLt PySem.W.dataLt) := by
  rintro pins s σ H x y v u Q I rx ry ⟨d, e, hd, he, ⟨p1, p2, p3⟩, q⟩
  obtain ⟨as, r1⟩ := Dp.reads I d x v hd rx
  obtain ⟨bs, r2⟩ := Dp.reads I e y u he ry
  exact PySem.W.lt_data r1 r2 p1 p2 (un_min hu p3) ⟨.bl _, H, I, rfl, q⟩
theorem op_gtP (hu : X.A.units + 64 < cLine) : OpR X (compareOp .Gt) (rCmpP X.K prLt fun a b => PySem.W.dataLt b a) := by
  rintro pins s σ H x y v u Q I rx ry ⟨d, e, hd, he, ⟨p1, p2, p3⟩, q⟩
  obtain ⟨as, r1⟩ := Dp.reads I d x v hd rx
  obtain ⟨bs, r2⟩ := Dp.reads I e y u he ry
  exact PySem.W.gt_data r1 r2 p1 p2 (un_min hu p3) ⟨.bl _, H, I, rfl, q⟩
theorem op_leP (hu : X.A.units + 64 < cLine) : OpR X (compareOp .LtE) (rCmpP X.K prLt fun a b => !PySem.W.dataLt b a) := by
  rintro pins s σ H x y v u Q I rx ry ⟨d, e, hd, he, ⟨p1, p2, p3⟩, q⟩
  obtain ⟨as, r1⟩ := Dp.reads I d x v hd rx
  obtain ⟨bs, r2⟩ := Dp.reads I e y u he ry
  exact PySem.W.le_data r1 r2 p1 p2 (un_min hu p3) ⟨.bl _, H, I, rfl, q⟩
theorem op_geP (hu : X.A.units + 64 < cLine) : OpR X (compareOp .GtE) (rCmpP X.K prLt fun a b => !PySem.W.dataLt a b) := by
  rintro pins s σ H x y v u Q I rx ry ⟨d, e, hd, he, ⟨p1, p2, p3⟩, q⟩
  obtain ⟨as, r1⟩ := Dp.reads I d x v hd rx
  obtain ⟨bs, r2⟩ := Dp.reads I e y u he ry
  exact PySem.W.ge_data r1 r2 p1 p2 (un_min hu p3) ⟨.bl _, H, I, rfl, q⟩
end
section
variable {W : Wd} {K : PySem.W.Frag}
theorem cmpOk_prEq {a b : D} (h : cmpOk a b = true) : prEq (toP a) (toP b) := by
  simp only [cmpOk, Bool.and_eq_true] at h
  exact ⟨(plain_toP a 40 h.1).1, (plain_toP b 40 h.2).1, (plain_toP a 40 h.1).2⟩
theorem toP_non {a : D} (h : fit a 40 = true) (n : notNon a = true) : toP a ≠ .none := by
  cases a <;> simp_all [toP, fit, notNon]
theorem od_eq : OpD W (rCmpP K prEq PyData.eqv) opEq := by
  intro E M σ H env st a b x y Q S ra rb h
  unfold opEq at h
  by_cases f : cmpOk (deref st a) (deref st b) = true
  · rw [if_pos f] at h
    have f' := f
    simp only [cmpOk, Bool.and_eq_true] at f'
    refine ⟨_, _, rep_dp S.s ra f'.1, rep_dp S.s rb f'.2, cmpOk_prEq f, ?_⟩
    simp only [eqv_toP _ _ 40 40 f'.1 f'.2]
    exact h.give S (.bl _)
  · rw [if_neg f] at h; exact h.elim
theorem od_ne : OpD W (rCmpP K prEq fun a b => !PyData.eqv a b) opNe := by
  intro E M σ H env st a b x y Q S ra rb h
  unfold opNe at h
  by_cases f : cmpOk (deref st a) (deref st b) = true
  · rw [if_pos f] at h
    have f' := f
    simp only [cmpOk, Bool.and_eq_true] at f'
    refine ⟨_, _, rep_dp S.s ra f'.1, rep_dp S.s rb f'.2, cmpOk_prEq f, ?_⟩
    simp only [eqv_toP _ _ 40 40 f'.1 f'.2]
    exact h.give S (.bl _)
  · rw [if_neg f] at h; exact h.elim
theorem ordOk_pr {a b : D} (h : ordOk a b = true) : prLt (toP a) (toP b) ∧ fit a 40 = true ∧ fit b 40 = true ∧ alk a b = true ∧ notNon b = true := by
  simp only [ordOk, cmpOk, Bool.and_eq_true] at h
  exact ⟨⟨alike_toP a b h.2.1.1, toP_non h.1.1 h.2.1.2, (plain_toP a 40 h.1.1).2⟩, h.1.1, h.1.2, h.2.1.1, h.2.2⟩
theorem od_lt : OpD W (rCmpP K prLt PySem.W.dataLt) opLt := by
  intro E M σ H env st a b x y Q S ra rb h
  unfold opLt at h
  by_cases f : ordOk (deref st a) (deref st b) = true
  · rw [if_pos f] at h
    obtain ⟨p, f1, f2, al, _⟩ := ordOk_pr f
    refine ⟨_, _, rep_dp S.s ra f1, rep_dp S.s rb f2, p, ?_⟩
    simp only [dataLt_toP _ _ 40 40 f1 f2 al]
    exact h.give S (.bl _)
  · rw [if_neg f] at h; exact h.elim
theorem od_ge : OpD W (rCmpP K prLt fun a b => !PySem.W.dataLt a b) opGe := by
  intro E M σ H env st a b x y Q S ra rb h
  unfold opGe at h
  by_cases f : ordOk (deref st a) (deref st b) = true
  · rw [if_pos f] at h
    obtain ⟨p, f1, f2, al, _⟩ := ordOk_pr f
    refine ⟨_, _, rep_dp S.s ra f1, rep_dp S.s rb f2, p, ?_⟩
    simp only [dataLt_toP _ _ 40 40 f1 f2 al]
    exact h.give S (.bl _)
  · rw [if_neg f] at h; exact h.elim
theorem od_gt : OpD W (rCmpP K prLt fun a b => PySem.W.dataLt b a) opGt := by
  intro E M σ H env st a b x y Q S ra rb h
  unfold opGt at h
  by_cases f : (ordOk (deref st a) (deref st b) && alk (deref st b) (deref st a)) = true
  · rw [if_pos f] at h
    rw [Bool.and_eq_true] at f
    obtain ⟨p, f1, f2, al, _⟩ := ordOk_pr f.1
    refine ⟨_, _, rep_dp S.s ra f1, rep_dp S.s rb f2, p, ?_⟩
    simp only [dataLt_toP _ _ 40 40 f2 f1 f.2]
    exact h.give S (.bl _)
  · rw [if_neg f] at h; exact h.elim
theorem od_le : OpD W (rCmpP K prLt fun a b => !PySem.W.dataLt b a) opLe := by
  intro E M σ H env st a b x y Q S ra rb h
  unfold opLe at h
  by_cases f : (ordOk (deref st a) (deref st b) && alk (deref st b) (deref st a)) = true
  · rw [if_pos f] at h
    rw [Bool.and_eq_true] at f
    obtain ⟨p, f1, f2, al, _⟩ := ordOk_pr f.1
    refine ⟨_, _, rep_dp S.s ra f1, rep_dp S.s rb f2, p, ?_⟩
    simp only [dataLt_toP _ _ 40 40 f2 f1 f.2]
    exact h.give S (.bl _)
  · rw [if_neg f] at h; exact h.elim
end
/-! ### in -/
def rInP (K : PySem.W.Frag) (neg : Bool) : R2 := fun x y H Q => ∃ d e, Dp K H x d ∧ (Dp K H y (.list e) ∨ Dp K H y (.tuple e)) ∧ (PyData.plainAll e = true ∧ d.plain = true ∧ d.depth ≤ 40) ∧ Q (.bl (if neg then !(e.any fun z => PyData.eqv z d) else e.any fun z => PyData.eqv z d)) H
section
variable {X : Cx}
theorem un_min2 {A : Around} {d e : Nat} (hu : A.units + 64 < cLine) (h : d ≤ 40) : A.units + 1 + min e d < cLine := by omega
theorem op_inP (hu : X.A.units + 64 < cLine) : OpR X (compareOp .In) (rInP X.K false) := by
  rintro pins s σ H x y v u Q I rx ry ⟨d, e, hd, he, ⟨p1, p2, p3⟩, q⟩
  obtain ⟨as, r1⟩ := Dp.reads I d x v hd rx
  rcases he with he | he
  · obtain ⟨bs, r2⟩ := Dp.reads I _ y u he ry
    exact PySem.SeqAt.in_list_data r2 r1 p1 p2 (un_min2 hu p3) ⟨.bl _, H, I, rfl, q⟩
  · obtain ⟨bs, r2⟩ := Dp.reads I _ y u he ry
    exact PySem.SeqAt.in_tuple_data r2 r1 p1 p2 (un_min2 hu p3) ⟨.bl _, H, I, rfl, q⟩
theorem op_notInP (hu : X.A.units + 64 < cLine) : OpR X (compareOp .NotIn) (rInP X.K true) := by
  rintro pins s σ H x y v u Q I rx ry ⟨d, e, hd, he, ⟨p1, p2, p3⟩, q⟩
  obtain ⟨as, r1⟩ := Dp.reads I d x v hd rx
  rcases he with he | he
  · obtain ⟨bs, r2⟩ := Dp.reads I _ y u he ry
    exact PySem.SeqAt.notIn_list_data r2 r1 p1 p2 (un_min2 hu p3) ⟨.bl _, H, I, rfl, q⟩
  · obtain ⟨bs, r2⟩ := Dp.reads I _ y u he ry
    exact PySem.SeqAt.notIn_tuple_data r2 r1 p1 p2 (un_min2 hu p3) ⟨.bl _, H, I, rfl, q⟩
end
section
variable {W : Wd} {K : PySem.W.Frag} {M : MW} {H : Hp} {st : Store}
theorem rep_itemsDp (S : SimS W M H st) {d : D} {v : V} {ds : List D} {n : Nat} (r : Rep W M H d v) (e : items st d = some ds) (f : fits ds n = true) : Dp K H v (.list (toPs ds)) ∨ Dp K H v (.tuple (toPs ds)) := by
  obtain ⟨a, vs, rfl, rs, h | h⟩ := rep_items (K := K) S r e
  · exact .inl (.lst h (rs.dp f))
  · exact .inr (.tup h (rs.dp f))
theorem any_toPs : ∀ (ds : List D) (a : D) (n m : Nat), fits ds n = true → fit a m = true → ((toPs ds).any fun z => PyData.eqv z (toP a)) = ds.any fun z => same z a
  | [], _, _, _, _, _ => rfl
  | d :: ds, a, n, m, f, g => by
    simp only [fits, Bool.and_eq_true] at f
    simp only [toPs, List.any_cons]
    rw [eqv_toP d a n m f.1 g, any_toPs ds a n m f.2 g]
theorem od_in : OpD W (rInP K false) opIn := by
  intro E M σ H env st a b x y Q S ra rb h
  unfold opIn at h
  cases e : items st b with
  | none => rw [e] at h; exact h.elim
  | some ds =>
    rw [e] at h
    simp only at h
    by_cases f : (fit (deref st a) 40 && fits ds 40) = true
    · rw [if_pos f] at h
      rw [Bool.and_eq_true] at f
      refine ⟨_, _, rep_dp S.s ra f.1, rep_itemsDp S.s rb e f.2, ⟨(plain_toPs ds 40 f.2).1, plain_toP _ 40 f.1⟩, ?_⟩
      rw [any_toPs ds _ 40 40 f.2 f.1]
      exact h.give S (.bl _)
    · rw [if_neg f] at h; exact h.elim
theorem od_notIn : OpD W (rInP K true) opNotIn := by
  intro E M σ H env st a b x y Q S ra rb h
  unfold opNotIn at h
  cases e : items st b with
  | none => rw [e] at h; exact h.elim
  | some ds =>
    rw [e] at h
    simp only at h
    by_cases f : (fit (deref st a) 40 && fits ds 40) = true
    · rw [if_pos f] at h
      rw [Bool.and_eq_true] at f
      refine ⟨_, _, rep_dp S.s ra f.1, rep_itemsDp S.s rb e f.2, ⟨(plain_toPs ds 40 f.2).1, plain_toP _ 40 f.1⟩, ?_⟩
      rw [any_toPs ds _ 40 40 f.2 f.1]
      exact h.give S (.bl _)
    · rw [if_neg f] at h; exact h.elim
/-! ### is None -/
def opIsN (_ : Store) (a b : D) : Option D := match b with
  | .non => some (.bl (!notNon a))
  | _ => none
def opNotN (_ : Store) (a b : D) : Option D := match b with
  | .non => some (.bl (notNon a))
  | _ => none
theorem rep_isN {d : D} {v : V} (r : Rep W M H d v) : decide (v = .non) = !notNon d := by
  cases r <;> simp [notNon]
theorem od_isN : OpD W (fun x y H Q => y = .non ∧ Q (.bl (decide (x = .non))) H) opIsN := by
  intro E M σ H env st a b x y Q S ra rb h
  cases rb with
  | non => exact ⟨rfl, by rw [rep_isN ra]; exact h.give S (.bl _)⟩
  | _ => exact h.elim
theorem od_notN : OpD W (fun x y H Q => y = .non ∧ Q (.bl (!decide (x = .non))) H) opNotN := by
  intro E M σ H env st a b x y Q S ra rb h
  cases rb with
  | non => exact ⟨rfl, by rw [rep_isN ra, Bool.not_not]; exact h.give S (.bl _)⟩
  | _ => exact h.elim
end
end DL

set_option Elab.async false
set_option linter.all false
set_option maxRecDepth 100000
set_option maxHeartbeats 2000000
/-! DL6: slices of tuples and lists, + of tuples. -/
namespace DL
open PySem PySem.Spec PyProof.Rows L2
section
variable {prog : Program} {w : World} {A : Around} {E : Value → Shared → Prop} {s : Shared}
theorem slicePart_of {v : Value} {o : Option Int} {Q : Option Int → Shared → Prop} (p : IsPart v o) (h : Q o s) : wpAny (model prog w) A (Builtin.Slice.slicePartIndex v) Q E s := by
  cases p
  · exact slicePart_none h
  · exact slicePart_int h
/-- the bounds of a slice, any step but 0 -/
theorem sliceOf {sl : Addr} {va vb vc : Value} {a b c : Option Int} {len : Int} {Q : Int × Int × Nat → Shared → Prop} (hs : s.heap.IsSliceOf sl va vb vc) (pa : IsPart va a) (pb : IsPart vb b) (pc : IsPart vc c) (h0 : c.getD 1 ≠ 0)
    (h : Q ((Builtin.Slice.sliceAdjust a b (c.getD 1) len).1, c.getD 1, Builtin.Slice.slicePlaces (Builtin.Slice.sliceAdjust a b (c.getD 1) len).1 (Builtin.Slice.sliceAdjust a b (c.getD 1) len).2 (c.getD 1)) s) :
    wpAny (model prog w) A (Builtin.Slice.sliceApplied (.ref sl) (pure len)) Q E s := by
  obtain ⟨ob, e1, e2, e3⟩ := id hs
  unfold Builtin.Slice.sliceApplied Builtin.Slice.sliceFields
  apply wpAny_bind
  apply wpAny_bind
  apply wpAny_field e1 e3 (x := va) rfl
  apply wpAny_bind
  apply wpAny_field e1 e3 (x := vb) rfl
  apply wpAny_bind
  apply wpAny_field e1 e3 (x := vc) rfl
  apply wpAny_pure
  apply wpAny_bind
  apply slicePart_of pc
  have hne : ¬ ((c.getD 1 == 0) = true) := by simpa using h0
  show wpAny (model prog w) A (if (c.getD 1 == 0) = true then _ else _) Q E s
  rw [if_neg hne]
  apply wpAny_bind
  apply slicePart_of pa
  apply wpAny_bind
  apply slicePart_of pb
  apply wpAny_bind
  apply wpAny_pure
  exact wpAny_pure h
def pickAt {α : Type} (xs : List α) (a step : Int) (k : Nat) : List α := (List.range k).filterMap fun (m : Nat) => xs[(a + (m : Int) * step).toNat]?
theorem pickAt_len {α : Type} (xs : List α) (a step : Int) (k : Nat) : (pickAt xs a step k).length ≤ k := by
  unfold pickAt
  exact Nat.le_trans (List.length_filterMap_le _ _) (by simp)
/-- t[..:..:..] -/
theorem tupleSlice {t sl : Addr} {its : Array Value} {va vb vc : Value} {a b c : Option Int} {Q : Value → Shared → Prop} (ht : IsTup s.heap t its) (hs : s.heap.IsSliceOf sl va vb vc) (pa : IsPart va a) (pb : IsPart vb b) (pc : IsPart vc c) (h0 : c.getD 1 ≠ 0)
    (lo step : Int) (k : Nat) (e : (lo, step, k) = ((Builtin.Slice.sliceAdjust a b (c.getD 1) its.size).1, c.getD 1, Builtin.Slice.slicePlaces (Builtin.Slice.sliceAdjust a b (c.getD 1) its.size).1 (Builtin.Slice.sliceAdjust a b (c.getD 1) its.size).2 (c.getD 1)))
    (hk : k ≤ sizeLine) (whole : lo = 0 → step = 1 → k = its.size → Q (.ref t) s)
    (part : ¬ (lo = 0 ∧ step = 1 ∧ k = its.size) → Q (.ref s.heap.objs.size) { s with heap := s.heap.push { cls := .type "tuple", data := .seq (pickAt its.toList lo step k).toArray } }) :
    wpAny (model prog w) A (getItem (.ref t) (.ref sl)) Q E s := by
  obtain ⟨ob, e1, e2, e3⟩ := id hs
  have isl : s.TypeIs (.ref sl) "slice" := ⟨ob, e1, e2⟩
  have fits : sizeOk (.seq (pickAt its.toList lo step k).toArray) := by
    show (pickAt its.toList lo step k).toArray.size ≤ sizeLine
    rw [List.size_toArray]
    exact Nat.le_trans (pickAt_len _ _ _ _) hk
  have same : ((List.range k).filterMap fun (m : Nat) => its[(lo + (m : Int) * step).toNat]?).toArray = (pickAt its.toList lo step k).toArray := by
    unfold pickAt
    congr 1
    congr 1
    funext m
    simp
  unfold getItem
  try with_reducible refine wpAny_holding ?_
  first
    | refine wpAny_bind (wpAny_pure ?_)
    | skip
  refine wpAny_bind (wpAny_sequenceKey ht.typeIs (by decide) ?_)
  refine wpAny_bind (wpAny_callSpecial?_slot (name := Str.ofString "__getitem__") ht.typeIs PyProof.Rows.slot_tuple_getitem ?_)
  refine wpAny_call_entry PyProof.Rows.slot_tuple_getitem ht.typeIs PyProof.Rows.entry_tuple_getitem ?_ (PyProof.Rows.args_tuple_getitem _ _)
  show wpAny _ _ (Builtin.Tuple.tupleItemsOf (.ref t) >>= _) _ _ s
  refine wpAny_bind (tupleItemsOf_ ht ?_)
  refine wpAny_bind (wpAny_typeOf isl ?_)
  rw [if_pos (by decide)]
  refine wpAny_bind (sliceOf hs pa pb pc h0 ?_)
  rw [← e]
  show wpAny _ _ (if (lo == 0 && step == 1 && k == its.size) = true then _ else _) _ _ s
  by_cases hw : lo = 0 ∧ step = 1 ∧ k = its.size
  · obtain ⟨w1, w2, w3⟩ := hw
    rw [if_pos (by subst w1 w2 w3; simp)]
    unfold Builtin.Tuple.tupleIsExact
    refine wpAny_bind (wpAny_bind (wpAny_typeOf ht.typeIs (wpAny_pure ?_)))
    rw [if_pos (by decide)]
    exact wpAny_bind (wpAny_rule (wpAny_pure ⟨_, rfl, wpAny_pure (whole w1 w2 w3)⟩))
  · rw [if_neg (by simpa [and_assoc] using hw), same]
    have h2 := part hw
    first
      | exact wpAny_bind (m := Builtin.Tuple.tupleExact _) (wpAny_newObj_type (wpAny_pure ⟨_, rfl, wpAny_pure h2⟩) fits)
      | exact wpAny_bind (m := Builtin.Tuple.tupleExact _) (wpAny_newObj_type (wpAny_bind (wpAny_pure (wpAny_pure ⟨_, rfl, wpAny_pure h2⟩))) fits)
      | exact wpAny_bind (wpAny_bind (m := Builtin.Tuple.tupleExact _) (wpAny_newObj_type (wpAny_pure (wpAny_pure ⟨_, rfl, wpAny_pure h2⟩)) fits))
end
end DL

set_option Elab.async false
set_option linter.all false
set_option maxRecDepth 100000
set_option maxHeartbeats 2000000
/-! DL7: slices as expressions. -/
namespace DL
open PySem PySem.Spec PyProof.Rows L2
def cutD {α : Type} (xs : List α) (lo hi : Option Int) : List α := (xs.drop (HT.sIx xs.length 0 lo)).take (HT.sIx xs.length xs.length hi - HT.sIx xs.length 0 lo)
theorem cutV_eq (xs : List V) (lo hi : Option Int) : cutV xs lo hi = cutD xs lo hi := rfl
theorem pickAt_eq {α : Type} : ∀ (xs : List α) (i k : Nat), pickAt xs (i : Int) 1 k = (xs.drop i).take k := by
  intro xs i k
  unfold pickAt
  have e : (fun (m : Nat) => xs[((i : Int) + (m : Int) * 1).toNat]?) = fun m => (xs.drop i)[m]? := by
    funext m
    have : ((i : Int) + (m : Int) * 1).toNat = i + m := by omega
    rw [this, List.getElem?_drop]
  rw [e]
  generalize xs.drop i = ys
  induction k with
  | zero => simp
  | succ k ih =>
    rw [List.range_succ, List.filterMap_append, ih, List.take_add_one]
    cases e : ys[k]? <;> simp [e]
theorem fm_congr {α β : Type} {f g : α → Option β} : ∀ {l : List α}, (∀ x ∈ l, f x = g x) → l.filterMap f = l.filterMap g
  | [], _ => rfl
  | x :: l, h => by
    rw [List.filterMap_cons, List.filterMap_cons, h x (List.mem_cons_self ..), fm_congr fun y hy => h y (List.mem_cons_of_mem _ hy)]
theorem pickAt_rev {α : Type} (xs : List α) : pickAt xs ((xs.length : Int) - 1) (-1) xs.length = xs.reverse := by
  unfold pickAt
  have e : (List.range xs.length).filterMap (fun (m : Nat) => xs[((xs.length : Int) - 1 + (m : Int) * (-1)).toNat]?) = (List.range xs.length).filterMap fun m => xs.reverse[m]? := by
    apply fm_congr
    intro m hm
    have hm := List.mem_range.mp hm
    have : ((xs.length : Int) - 1 + (m : Int) * (-1)).toNat = xs.length - 1 - m := by omega
    rw [this, List.getElem?_reverse hm]
  rw [e]
  have h := pickAt_eq xs.reverse 0 xs.length
  unfold pickAt at h
  have e2 : (fun (m : Nat) => xs.reverse[(((0 : Nat) : Int) + (m : Int) * 1).toNat]?) = fun m => xs.reverse[m]? := by
    funext m
    have : (((0 : Nat) : Int) + (m : Int) * 1).toNat = m := by omega
    rw [this]
  rw [e2] at h
  rw [h, List.drop_zero]
  exact List.take_of_length_le (by simp)
/-- t[lo:hi] of a tuple, the whole too -/
def rSlA : V → Option Int → Option Int → Hp → VK → Prop := fun x lo hi H Q => ∃ a xs, x = .ref a ∧ H a = some (.tup xs) ∧ (cutD xs lo hi = xs → Q (.ref a) H) ∧ ∀ p, H p = none → Q (.ref p) (upd H p (.tup (cutD xs lo hi)))
theorem sl_tupA {X : Cx} : SlR X rSlA := by
  rintro pins s σ H x v vl vu lo hi sl Q I rx hs pl pu ⟨a, xs, rfl, hx, q1, q2⟩
  cases rx
  obtain ⟨its, r, ht, hz⟩ := I.tuple (.inl (.inl hx))
  have hlen : its.toArray.size = xs.length := by rw [List.size_toArray]; exact r.length.symm
  have hz' : its.toArray.size ≤ sizeLine := by rw [hlen]; exact hz
  refine ⟨"tuple", _, PyProof.Rows.slot_tuple_getitem.lookup, ht.typeIs, ?_⟩
  have le1 : HT.sIx xs.length xs.length hi ≤ xs.length := HT.sIx_le _ _ (Nat.le_refl _) hi
  refine tupleSlice ht hs pl pu .none (by decide) ((HT.sIx xs.length 0 lo : Nat) : Int) 1 (HT.sIx xs.length xs.length hi - HT.sIx xs.length 0 lo) ?_ ?_ (fun w1 _ w3 => ?_) (fun hw => ?_)
  · show _ = ((Builtin.Slice.sliceAdjust lo hi 1 _).1, (1 : Int), Builtin.Slice.slicePlaces (Builtin.Slice.sliceAdjust lo hi 1 _).1 (Builtin.Slice.sliceAdjust lo hi 1 _).2 1)
    rw [hlen, HT.adjust_gen, HT.places_gen]
  · omega
  · refine ⟨.ref a, H, I, rfl, q1 ?_⟩
    unfold cutD
    have w1' : HT.sIx xs.length 0 lo = 0 := by omega
    rw [w1'] at w3 ⊢
    rw [List.drop_zero]
    exact List.take_of_length_le (by omega)
  · rw [pickAt_eq]
    refine ⟨.ref s.heap.objs.size, _, I.laid (t' := s.toks) (o := .tup (cutD xs lo hi)) (fun b ob q => Heap.get?_push_of_some _ q) (Nat.le_refl _) ?_, rfl, q2 _ (I.hok.fresh (Nat.le_refl _))⟩
    have rr : Vals (cutD xs lo hi) ((its.drop (HT.sIx xs.length 0 lo)).take (HT.sIx xs.length xs.length hi - HT.sIx xs.length 0 lo)) := (r.drop _).take _
    refine ⟨Nat.le_trans ?_ hz, _, rr, IsTup.new _ _⟩
    unfold cutD
    rw [List.length_take, List.length_drop]
    omega
abbrev EvO := Ent → Store → R (Option Int)
abbrev relO : MW → Hp → Option Int → Option Int → Prop := fun _ _ a b => a = b
def DO (X : Cx) (W : Wd) (E : XK) (e : Option Expr) (f : EvO) : Prop := PO X e (Lift W E relO f)
def oNone : EvO := fun _ st => .ok none st
def oSome (f : Ev) : EvO := fun env st => (f env st).bind fun a st1 => match a with
  | .int i => .ok (some i) st1
  | _ => .no
def opSl (st : Store) (a : D) (lo hi : Option Int) : Option D := match deref st a with
  | .tup ds => some (.tup (cutD ds lo hi))
  | .lst ds => some (.lst (cutD ds lo hi))
  | _ => none
def eSl (f : Ev) (lo hi : EvO) : Ev := fun env st => (f env st).bind fun a st1 => (lo env st1).bind fun l st2 => (hi env st2).bind fun h st3 => R.ofO (opSl st3 a l h) st3
/-- a list's slice, as a new list -/
def opSlN (st : Store) (a : D) (lo hi : Option Int) : Option (List D) := match deref st a with
  | .lst ds => some (cutD ds lo hi)
  | _ => none
def nSl (f : Ev) (lo hi : EvO) : EvL := fun env st => (f env st).bind fun a st1 => (lo env st1).bind fun l st2 => (hi env st2).bind fun h st3 => R.ofO (opSlN st3 a l h) st3
section
variable {X : Cx} {W : Wd} {E : XK} {e : Expr} {f : Ev} {lo hi : Option Expr} {fl fh : EvO} {pos p2 : Pos}
theorem do_none : DO X W E none oNone := ⟨fun pins s σ H Q I ⟨M, env, st, S, q⟩ => po_none.run pins s σ H Q I (q M none H .refl S rfl)⟩
theorem do_some (h : DE X W E e f) : DO X W E (some e) (oSome f) := ⟨fun pins s σ H Q I ⟨M, env, st, S, q⟩ => (po_some h).run pins s σ H Q I ⟨M, env, st, S, Fin.bind q fun d st1 M1 x H1 T1 S1 r1 q1 => by
  cases d with
  | int i => cases r1; exact ⟨i, rfl, q1 M1 _ H1 .refl S1 rfl⟩
  | _ => exact q1.elim⟩⟩
theorem Reps.cut {M : MW} {H : Hp} {ds : List D} {vs : List V} (r : Reps W M H ds vs) (lo hi : Option Int) : Reps W M H (cutD ds lo hi) (cutD vs lo hi) := by
  unfold cutD
  rw [r.length]
  exact (r.drop _).take _
theorem de_sl (he : DE X W E e f) (hl : DO X W E lo fl) (hh : DO X W E hi fh) : DE X W E (.Subscript e (.Slice lo hi none p2) pos) (eSl f fl fh) :=
  PEmono (pe_slice (sl_list.or sl_tupA) he hl hh) fun σ H Q ⟨M, env, st, S, q⟩ => ⟨M, env, st, S, Fin.bind q fun a st1 M1 x H1 T1 S1 r1 q1 =>
    ⟨M1, env, st1, S1, Fin.bind q1 fun l st2 M2 l' H2 T2 S2 e2 q2 => ⟨M2, env, st2, S2, Fin.bind q2 fun h st3 M3 h' H3 T3 S3 e3 q3 => by
      subst e2 e3
      have r3 := (r1.mono T2).mono T3
      unfold opSl at q3
      cases hd : deref st3 a with
      | tup ds =>
        rw [hd] at q3
        have ra : a = .tup ds := by
          rcases deref_cases S3.s r3 with z | ⟨_, _, _, _, _, _, z, _⟩
          · rw [← z]; exact hd
          · rw [z] at hd; cases hd
        subst ra
        cases r3 with
        | tup hh rs =>
          refine .inr ⟨_, _, rfl, hh, fun w => q3.give S3 (.tup hh ?_), q3.tup S3 (rs.cut l h)⟩
          have := rs.cut l h
          rw [w] at this
          exact this
      | lst ds =>
        rw [hd] at q3
        obtain ⟨p, vs, rfl, rs, rd⟩ := rep_lst S3.s r3 hd
        exact .inl ⟨p, vs, rfl, .inl rd, q3.lst S3 (rs.cut l h)⟩
      | _ => rw [hd] at q3; exact q3.elim⟩⟩⟩
theorem dn_sl (he : DE X W E e f) (hl : DO X W E lo fl) (hh : DO X W E hi fh) : DN X W E (.Subscript e (.Slice lo hi none p2) pos) (nSl f fl fh) :=
  PEmono (pe_slice sl_list he hl hh) fun σ H Q ⟨M, env, st, S, q⟩ => ⟨M, env, st, S, Fin.bind q fun a st1 M1 x H1 T1 S1 r1 q1 =>
    ⟨M1, env, st1, S1, Fin.bind q1 fun l st2 M2 l' H2 T2 S2 e2 q2 => ⟨M2, env, st2, S2, Fin.bind q2 fun h st3 M3 h' H3 T3 S3 e3 q3 => by
      subst e2 e3
      have r3 := (r1.mono T2).mono T3
      unfold opSlN at q3
      cases hd : deref st3 a with
      | lst ds =>
        rw [hd] at q3
        obtain ⟨p, vs, rfl, rs, rd⟩ := rep_lst S3.s r3 hd
        exact ⟨p, vs, rfl, .inl rd, fun z hz => q3 M3 _ H3 .refl S3 (rs.cut l h) z hz⟩
      | _ => rw [hd] at q3; exact q3.elim⟩⟩⟩

/-! ### [::-1] -/
theorem rev_bounds (n : Nat) : ((Builtin.Slice.sliceAdjust none none (-1) (n : Int)).1, (-1 : Int), Builtin.Slice.slicePlaces (Builtin.Slice.sliceAdjust none none (-1) (n : Int)).1 (Builtin.Slice.sliceAdjust none none (-1) (n : Int)).2 (-1)) = ((n : Int) - 1, -1, n) := by
  have e1 : (Builtin.Slice.sliceAdjust none none (-1) (n : Int)) = ((n : Int) - 1, -1) := rfl
  rw [e1]
  have e2 : Builtin.Slice.slicePlaces ((n : Int) - 1) (-1) (-1) = n := by
    unfold Builtin.Slice.slicePlaces
    rw [if_neg (by decide)]
    by_cases h : (n : Int) - 1 > -1
    · rw [if_pos h]
      have : ((n : Int) - 1 - -1 - 1) / (- -1) = (n : Int) - 1 := by
        rw [show (- -1 : Int) = 1 by decide, Int.ediv_one]
        omega
      rw [this]
      omega
    · rw [if_neg h]
      omega
  rw [e2]
def opRev (st : Store) (a : D) : Option D := match deref st a with
  | .tup ds => some (.tup ds.reverse)
  | .lst ds => some (.lst ds.reverse)
  | _ => none
def eRev (f : Ev) : Ev := eUn opRev f
/-- the step is the literal -1, the bounds are open -/
theorem pe_rev {te : TE} {j1 : Nat} {p3 p4 : Pos} (he : PE X e te) : PE X (.Subscript e (.Slice none none (some (.UnaryOp .USub (.Constant (.int 1) j1 p3) p4)) p2) pos)
    (fun σ H Q => te σ H fun x H1 => (∃ a xs, x = .ref a ∧ H1 a = some (.tup xs) ∧ ∀ p, H1 p = none → Q (.ref p) (upd H1 p (.tup xs.reverse))) ∨ ∃ a xs, x = .ref a ∧ SqL X.K H1 a xs ∧ ∀ p, H1 p = none → Q (.ref p) (upd H1 p (.lst xs.reverse))) where
  run := by
    intro pins s σ H Q I h
    refine Subscript_ (thn (he.run pins s σ H _ I h) ?_)
    rintro v s1 ⟨x, H1, I1, r1, q1⟩
    refine wpAny_Slice ?_
    rw [evalPart_none, evalPart_some]
    refine wpAny_pure (wpAny_pure ?_)
    refine thn ((pe_un un_neg pe_int).run pins s1 σ H1 (fun z H2 => z = .int (-1) ∧ H2 = H1) I1 ⟨1, rfl, rfl, rfl⟩) ?_
    rintro u s2 ⟨z, H2, I2, r2, rfl, rfl⟩
    obtain ⟨t, rfl⟩ := r2
    let s3 : Shared := { s2 with heap := s2.heap.push { cls := .type "slice", data := .fields #[.none, .none, .int (-1) t] } }
    have I3 : Inv X pins σ H2 s3 := I2.kept (t' := s2.toks) fun b ob q => Heap.get?_push_of_some _ q
    have hs : s3.heap.IsSliceOf s2.heap.objs.size .none .none (.int (-1) t) := Heap.IsSliceOf.new ..
    show wpAny (model X.prog X.w) X.A (subscriptTail e _ v (.ref s2.heap.objs.size)) (EP X pins σ Q) X.xe s3
    rcases q1 with ⟨a, xs, rfl, hx, q⟩ | ⟨a, xs, rfl, hx, q⟩
    · cases r1
      obtain ⟨its, r, ht, hz⟩ := I3.tuple (.inl (.inl hx))
      have hlen : its.toArray.size = xs.length := by rw [List.size_toArray]; exact r.length.symm
      refine tail_any (ops := [.ref a, .ref s2.heap.objs.size]) ht.typeIs PyProof.Rows.slot_tuple_getitem.lookup ?_ (by with_unfolding_all rfl)
      refine tupleSlice ht hs .none .none (.int (-1) t) (by decide) ((xs.length : Int) - 1) (-1) xs.length ?_ hz (fun _ z => absurd z (by decide)) (fun _ => ?_)
      · rw [hlen]
        exact (rev_bounds xs.length).symm
      · rw [r.length, pickAt_rev]
        refine ⟨.ref s3.heap.objs.size, _, I3.laid (t' := s2.toks) (o := .tup xs.reverse) (fun b ob q => Heap.get?_push_of_some _ q) (Nat.le_refl _) ?_, rfl, q _ (I3.hok.fresh (Nat.le_refl _))⟩
        exact ⟨by rw [List.length_reverse]; exact hz, _, r.reverse, IsTup.new _ _⟩
    · cases r1
      obtain ⟨its, r, ht, hz⟩ := I3.list hx
      have hlen : its.toArray.size = xs.length := by rw [List.size_toArray]; exact r.length.symm
      refine tail_any (ops := [.ref a, .ref s2.heap.objs.size]) ht.isList.typeIs slot_list_getitem.lookup ?_ (by with_unfolding_all rfl)
      refine wpAny_getItem_list_slice ht.isList hs .none .none (.int (-1) t) (by decide) ?_ (by rw [hlen]; exact hz)
      rw [PySem.W.krv_pick]
      refine ⟨.ref s3.heap.objs.size, _, I3.laid (t' := s2.toks) (o := .lst xs.reverse) (fun b ob q => Heap.get?_push_of_some _ q) (Nat.le_refl _) ?_, rfl, q _ (I3.hok.fresh (Nat.le_refl _))⟩
      exact ⟨by rw [List.length_reverse]; exact hz, _, 0, r.reverse, Heap.get?_push_size _ rfl⟩
theorem de_rev {j1 : Nat} {p3 p4 : Pos} (he : DE X W E e f) : DE X W E (.Subscript e (.Slice none none (some (.UnaryOp .USub (.Constant (.int 1) j1 p3) p4)) p2) pos) (eRev f) :=
  PEmono (pe_rev he) fun σ H Q ⟨M, env, st, S, q⟩ => ⟨M, env, st, S, Fin.bind q fun a st1 M1 x H1 T1 S1 r1 q1 => by
    unfold opRev at q1
    cases hd : deref st1 a with
    | tup ds =>
      rw [hd] at q1
      have ra : a = .tup ds := by
        rcases deref_cases S1.s r1 with z | ⟨_, _, _, _, _, _, z, _⟩
        · rw [← z]; exact hd
        · rw [z] at hd; cases hd
      subst ra
      cases r1 with
      | tup hh rs => exact .inl ⟨_, _, rfl, hh, q1.tup S1 rs.reverse⟩
    | lst ds =>
      rw [hd] at q1
      obtain ⟨p, vs, rfl, rs, rd⟩ := rep_lst S1.s r1 hd
      exact .inr ⟨p, vs, rfl, .inl rd, q1.lst S1 rs.reverse⟩
    | _ => rw [hd] at q1; exact q1.elim⟩
end
end DL

set_option Elab.async false
set_option linter.all false
set_option maxRecDepth 100000
set_option maxHeartbeats 2000000
/-! DL8: + - * // % **, neg, index. -/
namespace DL
open PySem PySem.Spec PyProof.Rows L2
section
variable {X : Cx}
/-- t + u of tuples, empty ones too -/
def rCatA : R2 := fun x y H Q => ∃ a b xs ys, x = .ref a ∧ y = .ref b ∧ H a = some (.tup xs) ∧ H b = some (.tup ys) ∧ xs.length + ys.length ≤ sizeLine ∧
  (ys = [] → Q (.ref a) H) ∧ (xs = [] → Q (.ref b) H) ∧ ∀ p, H p = none → Q (.ref p) (upd H p (.tup (xs ++ ys)))
theorem op_catA : OpR X (binaryOp .Add) rCatA := by
  rintro pins s σ H x y v u Q I rx ry ⟨a, b, xs, ys, rfl, rfl, ha, hb, hz, q1, q2, q3⟩
  cases rx
  cases ry
  obtain ⟨its, r1, p1, _⟩ := I.tuple (.inl (.inl ha))
  obtain ⟨its2, r2, p2, _⟩ := I.tuple (.inl (.inl hb))
  by_cases hx : xs = []
  · have e : its = [] := r1.nil_iff.mpr hx
    obtain ⟨⟨c1, d1, t1, l1⟩, o1, k1, n1, w1⟩ := id p1
    obtain ⟨⟨c2, d2, t2, l2⟩, o2, k2, n2, w2⟩ := id p2
    simp only at k1 w1 k2 w2
    subst k1 w1 k2 w2
    exact concat_meets ⟨_, o1, rfl⟩ ⟨_, o2, rfl⟩ noFill_tuple_add seq_tuple_add PySem.F.slot_tuple_add PySem.F.entry_tuple_add (PySem.F.args_tuple_add_2 _ _)
      (tuple_addW0 a b its.toArray its2.toArray n1 n2 d1 d2 l1 l2 (by simp [e])) ⟨o1, o2, .ref b, H, I, rfl, q2 hx⟩
  · refine op_catT pins s σ H (.ref a) (.ref b) _ _ Q I rfl rfl ⟨a, b, xs, ys, rfl, rfl, .inl (.inl ha), .inl (.inl hb), hx, hz, q1, fun _ => q3⟩
/-- xs + ys of lists that are read -/
def rCatL (K : PySem.W.Frag) : R2 := fun x y H Q => ∃ a b xs ys, x = .ref a ∧ y = .ref b ∧ SqL K H a xs ∧ SqL K H b ys ∧ xs.length + ys.length ≤ sizeLine ∧ ∀ p, H p = none → Q (.ref p) (upd H p (.lst (xs ++ ys)))
theorem op_catL : OpR X (binaryOp .Add) (rCatL X.K) := by
  rintro pins s σ H x y v u Q I rx ry ⟨a, b, xs, ys, rfl, rfl, ha, hb, hz, q⟩
  cases rx
  cases ry
  obtain ⟨its, r1, ⟨⟨c1, d1, t1, l1⟩, n1, o1, k1, _, w1⟩, _⟩ := I.list ha
  obtain ⟨its2, r2, ⟨⟨c2, d2, t2, l2⟩, n2, o2, k2, _, w2⟩, _⟩ := I.list hb
  simp only at k1 w1 k2 w2
  subst k1 w1 k2 w2
  have e1 := r1.length
  have e2 := r2.length
  refine concat_meets ⟨_, o1, rfl⟩ ⟨_, o2, rfl⟩ noFill_list_add PySem.seq_list_add PySem.F.slot_list_add PySem.F.entry_list_add (PySem.F.args_list_add_2 _ _)
    (list_addW a b its.toArray its2.toArray n1 n2 d1 d2 l1 l2 (by rw [List.size_toArray, List.size_toArray]; omega)) ⟨o1, o2, ?_⟩
  have ea : its.toArray ++ its2.toArray = (its ++ its2).toArray := by simp
  rw [ea]
  exact ⟨.ref _, _, I.lnew (t' := s.toks) (r1.append r2) (by rw [List.length_append]; omega), rfl, q _ I.fresh⟩
end
def opAdd (st : Store) (a b : D) : Option D := match a with
  | .int i => match b with
    | .int j => some (.int (i + j))
    | _ => none
  | .tup xs => match b with
    | .tup ys => if sOk (xs.length + ys.length) then some (.tup (xs ++ ys)) else none
    | _ => none
  | .str x => match b with
    | .str y => if sOk (x.length + y.length) then some (.str (x ++ y)) else none
    | _ => none
  | a => match deref st a, deref st b with
    | .lst xs, .lst ys => if sOk (xs.length + ys.length) then some (.lst (xs ++ ys)) else none
    | _, _ => none
abbrev rAddA (K : PySem.W.Frag) : R2 := fun x y H Q => (((∃ i j, x = .int i ∧ y = .int j ∧ Q (.int (i + j)) H) ∨ rCatA x y H Q) ∨ (∃ i j, x = .str i ∧ y = .str j ∧ i.length + j.length ≤ sizeLine ∧ Q (.str (i ++ j)) H)) ∨ rCatL K x y H Q
theorem op_addA {X : Cx} : OpR X (binaryOp .Add) (rAddA X.K) := ((op_add.or op_catA).or op_add_str).or op_catL
theorem od_add {W : Wd} {K : PySem.W.Frag} : OpD W (rAddA K) opAdd := by
  intro E M σ H env st a b x y Q S ra rb h
  have viaList : ∀ {xs ys}, deref st a = .lst xs → deref st b = .lst ys → Fin W E (relD W) σ env (R.ofO (if sOk (xs.length + ys.length) = true then some (D.lst (xs ++ ys)) else none) st) M H Q → rAddA K x y H Q := by
    intro xs ys e1 e2 h
    by_cases hs : sOk (xs.length + ys.length) = true
    · rw [if_pos hs] at h
      obtain ⟨p, vs, rfl, rs, rd⟩ := rep_lst S.s ra e1
      obtain ⟨p2, vs2, rfl, rs2, rd2⟩ := rep_lst S.s rb e2
      exact .inr ⟨p, p2, vs, vs2, rfl, rfl, .inl rd, .inl rd2, by rw [← rs.length, ← rs2.length]; exact sOk_le hs, h.lst S (rs.append rs2)⟩
    · rw [if_neg hs] at h; exact h.elim
  cases a with
  | int i =>
    cases b with
    | int j => cases ra; cases rb; exact .inl (.inl (.inl ⟨i, j, rfl, rfl, h.give S (.int _)⟩))
    | _ => exact h.elim
  | tup xs =>
    cases b with
    | tup ys =>
      simp only [opAdd] at h
      by_cases hs : sOk (xs.length + ys.length) = true
      · rw [if_pos hs] at h
        cases ra with
        | tup h1 r1 =>
          cases rb with
          | tup h2 r2 =>
            refine .inl (.inl (.inr ⟨_, _, _, _, rfl, rfl, h1, h2, by rw [← r1.length, ← r2.length]; exact sOk_le hs, fun e => ?_, fun e => ?_, h.tup S (r1.append r2)⟩))
            · subst e
              cases r2
              refine h.give S ?_
              rw [List.append_nil]
              exact .tup h1 r1
            · subst e
              cases r1
              exact h.give S (.tup h2 r2)
      · rw [if_neg hs] at h; exact h.elim
    | _ => exact h.elim
  | str i =>
    cases b with
    | str j =>
      simp only [opAdd] at h
      by_cases hs : sOk (i.length + j.length) = true
      · rw [if_pos hs] at h
        cases ra; cases rb
        exact .inl (.inr ⟨i, j, rfl, rfl, sOk_le hs, h.give S (.str _)⟩)
      · rw [if_neg hs] at h; exact h.elim
    | _ => exact h.elim
  | lst xs =>
    simp only [opAdd] at h
    cases e2 : deref st b with
    | lst ys => rw [e2] at h; exact viaList rfl e2 h
    | _ => rw [e2] at h; exact h.elim
  | ref n =>
    simp only [opAdd] at h
    cases e1 : deref st (.ref n) with
    | lst xs =>
      rw [e1] at h
      cases e2 : deref st b with
      | lst ys => rw [e2] at h; exact viaList e1 e2 h
      | _ => rw [e2] at h; exact h.elim
    | _ => rw [e1] at h; exact h.elim
  | _ => exact h.elim
def opSub (_ : Store) (a b : D) : Option D := match a with
  | .int i => match b with
    | .int j => some (.int (i - j))
    | _ => none
  | _ => none
def inR (i : Int) : Bool := decide (-18446744073709551616 < i) && decide (i < 18446744073709551616)
def opMul (_ : Store) (a b : D) : Option D := match a with
  | .int i => match b with
    | .int j => if inR i || inR j then some (.int (i * j)) else none
    | _ => none
  | _ => none
def opMod (_ : Store) (a b : D) : Option D := match a with
  | .int i => match b with
    | .int j => if j = 0 then none else some (.int (i.fmod j))
    | _ => none
  | _ => none
def opFdiv (_ : Store) (a b : D) : Option D := match a with
  | .int i => match b with
    | .int j => if j = 0 ∨ ¬ j.natAbs < 1073741824 then none else some (.int (i.fdiv j))
    | _ => none
  | _ => none
def opPow (_ : Store) (a b : D) : Option D := match a with
  | .int i => match b with
    | .int j => if 0 ≤ j ∧ j ≤ 1000000 ∧ i.natAbs < 18446744073709551616 then some (.int (i ^ j.toNat)) else none
    | _ => none
  | _ => none
def opNeg (_ : Store) (a : D) : Option D := match a with
  | .int i => some (.int (-i))
  | _ => none
section
variable {W : Wd} {K : PySem.W.Frag}
theorem od_sub : OpD W (rI0 fun i j => .int (i - j)) opSub := by
  intro E M σ H env st a b x y Q S ra rb h
  cases a with
  | int i =>
    cases b with
    | int j => cases ra; cases rb; exact ⟨i, j, rfl, rfl, h.give S (.int _)⟩
    | _ => exact h.elim
  | _ => exact h.elim
theorem inR_ok {i : Int} (h : inR i = true) : -(2 ^ 64) < i ∧ i < 2 ^ 64 := by
  simp only [inR, Bool.and_eq_true, decide_eq_true_eq] at h
  exact ⟨by omega, by omega⟩
theorem od_mul : OpD W (rI CMul fun i j => .int (i * j)) opMul := by
  intro E M σ H env st a b x y Q S ra rb h
  cases a with
  | int i =>
    cases b with
    | int j =>
      simp only [opMul] at h
      by_cases hs : (inR i || inR j) = true
      · rw [if_pos hs] at h
        cases ra; cases rb
        refine ⟨i, j, rfl, rfl, ?_, h.give S (.int _)⟩
        rcases Bool.or_eq_true_iff.mp hs with q | q
        · exact .inl (inR_ok q)
        · exact .inr (inR_ok q)
      · rw [if_neg hs] at h; exact h.elim
    | _ => exact h.elim
  | _ => exact h.elim
theorem od_mod : OpD W (rI (fun _ j => j ≠ 0) fun i j => .int (i.fmod j)) opMod := by
  intro E M σ H env st a b x y Q S ra rb h
  cases a with
  | int i =>
    cases b with
    | int j =>
      simp only [opMod] at h
      by_cases hs : j = 0
      · rw [if_pos hs] at h; exact h.elim
      · rw [if_neg hs] at h
        cases ra; cases rb
        exact ⟨i, j, rfl, rfl, hs, h.give S (.int _)⟩
    | _ => exact h.elim
  | _ => exact h.elim
theorem od_fdiv : OpD W (rI CDivN fun i j => .int (i.fdiv j)) opFdiv := by
  intro E M σ H env st a b x y Q S ra rb h
  cases a with
  | int i =>
    cases b with
    | int j =>
      simp only [opFdiv] at h
      by_cases hs : j = 0 ∨ ¬ j.natAbs < 1073741824
      · rw [if_pos hs] at h; exact h.elim
      · rw [if_neg hs] at h
        cases ra; cases rb
        exact ⟨i, j, rfl, rfl, ⟨fun z => hs (.inl z), Decidable.not_not.mp fun z => hs (.inr z)⟩, h.give S (.int _)⟩
    | _ => exact h.elim
  | _ => exact h.elim
theorem od_pow : OpD W (rI CPow fun i j => .int (i ^ j.toNat)) opPow := by
  intro E M σ H env st a b x y Q S ra rb h
  cases a with
  | int i =>
    cases b with
    | int j =>
      simp only [opPow] at h
      by_cases hs : 0 ≤ j ∧ j ≤ 1000000 ∧ i.natAbs < 18446744073709551616
      · rw [if_pos hs] at h
        cases ra; cases rb
        exact ⟨i, j, rfl, rfl, hs, h.give S (.int _)⟩
      · rw [if_neg hs] at h; exact h.elim
    | _ => exact h.elim
  | _ => exact h.elim
theorem ud_neg : UnD W (rU fun i => .int (-i)) opNeg := by
  intro E M σ H env st a x Q S ra h
  cases a with
  | int i => cases ra; exact ⟨i, rfl, h.give S (.int _)⟩
  | _ => exact h.elim
end
/-! ### a[i] -/
def opIx (st : Store) (a b : D) : Option D := match b with
  | .int i => match items st a with
    | some ds => atI ds i
    | none => none
  | _ => none
theorem atI_rep {W : Wd} {M : MW} {H : Hp} {ds : List D} {vs : List V} {i : Int} {d : D} (r : Reps W M H ds vs) (h : atI ds i = some d) : ∃ v, atI vs i = some v ∧ Rep W M H d v := by
  unfold atI at h ⊢
  rw [r.length] at h
  cases e : ixN vs.length i with
  | none => rw [e] at h; cases h
  | some j =>
    rw [e] at h
    exact r.get h
theorem od_ix {W : Wd} {K : PySem.W.Frag} : OpD W (rIx K) opIx := by
  intro E M σ H env st a b x y Q S ra rb h
  cases b with
  | int i =>
    cases rb
    simp only [opIx] at h
    cases e : items st a with
    | none => rw [e] at h; exact h.elim
    | some ds =>
      rw [e] at h
      obtain ⟨p, vs, rfl, rs, sq⟩ := rep_items (K := K) S.s ra e
      cases e2 : atI ds i with
      | none => simp only [e2] at h; exact h.elim
      | some d =>
        simp only [e2] at h
        obtain ⟨v, ev, rv⟩ := atI_rep rs e2
        rcases sq with sq | sq
        · exact .inl ⟨p, vs, i, v, rfl, rfl, sq, ev, h.give S rv⟩
        · exact .inr (.inl ⟨p, vs, i, v, rfl, rfl, sq, ev, h.give S rv⟩)
  | _ => exact h.elim
section
variable {X : Cx} {W : Wd} {E : XK} {a b : Expr} {f g : Ev} {pos : Pos}
theorem de_ix (ha : DE X W E a f) (hb : DE X W E b g) (hs : PlainIx b := by exact fun _ _ => rfl) : DE X W E (.Subscript a b pos) (eOp opIx f g) :=
  PEmono (pe_ix ix_seq ha hb hs) fun σ H Q q => lift_bin od_ix q
theorem de_add (ha : DE X W E a f) (hb : DE X W E b g) : DE X W E (.BinOp a .Add b pos) (eOp opAdd f g) := de_op op_addA od_add ha hb
theorem de_sub (ha : DE X W E a f) (hb : DE X W E b g) : DE X W E (.BinOp a .Sub b pos) (eOp opSub f g) := de_op op_sub od_sub ha hb
theorem de_mul (ha : DE X W E a f) (hb : DE X W E b g) : DE X W E (.BinOp a .Mult b pos) (eOp opMul f g) := de_op op_mul od_mul ha hb
theorem de_mod (ha : DE X W E a f) (hb : DE X W E b g) : DE X W E (.BinOp a .Mod b pos) (eOp opMod f g) := de_op op_modN od_mod ha hb
theorem de_fdiv (ha : DE X W E a f) (hb : DE X W E b g) : DE X W E (.BinOp a .FloorDiv b pos) (eOp opFdiv f g) := de_op op_fdivN od_fdiv ha hb
theorem de_pow (ha : DE X W E a f) (hb : DE X W E b g) : DE X W E (.BinOp a .Pow b pos) (eOp opPow f g) := de_op op_pow od_pow ha hb
theorem de_neg (ha : DE X W E a f) : DE X W E (.UnaryOp .USub a pos) (eUn opNeg f) := de_un un_neg ud_neg ha
end
end DL

set_option Elab.async false
set_option linter.all false
set_option maxRecDepth 100000
set_option maxHeartbeats 4000000
/-! DL9: built-in calls; min, max. -/
namespace DL
open PySem PySem.Spec PyProof.Rows L2
/-! ### calls of built-ins by values -/
def eCallB (op : Store → List D → Option D) (g : EvL) : Ev := fun env st => (g env st).bind fun as st1 => R.ofO (op st1 as) st1
def CallD (W : Wd) (r : List V → Hp → VK → Prop) (op : Store → List D → Option D) : Prop :=
  ∀ (E : XK) (M : MW) (σ : L2.St) (H : Hp) (env : Ent) (st : Store) (as : List D) (vs : List V) (Q : VK), Sim W M σ H env st → Reps W M H as vs → Fin W E (relD W) σ env (R.ofO (op st as) st) M H Q → r vs H Q
def eCallBK (op : Store → List D → List D → Option D) (g k : EvL) : Ev := fun env st => (g env st).bind fun as st1 => (k env st1).bind fun zs st2 => R.ofO (op st2 as zs) st2
def CallKD (W : Wd) (r : List V → List V → Hp → VK → Prop) (op : Store → List D → List D → Option D) : Prop :=
  ∀ (E : XK) (M : MW) (σ : L2.St) (H : Hp) (env : Ent) (st : Store) (as zs : List D) (vs ws : List V) (Q : VK), Sim W M σ H env st → Reps W M H as vs → Reps W M H zs ws → Fin W E (relD W) σ env (R.ofO (op st as zs) st) M H Q → r vs ws H Q
def DKw (X : Cx) (W : Wd) (E : XK) (kws : List Keyword) (f : EvL) : Prop := PK X kws (lA W E f)
section
variable {X : Cx} {W : Wd} {E : XK} {x : PySem.Str} {p pos : Pos} {e : Expr} {es : List Expr} {f : Ev} {g k : EvL} {id T : String} {r : List V → Hp → VK → Prop} {op : Store → List D → Option D}
theorem lift_call (hd : CallD W r op) {σ : L2.St} {H : Hp} {Q : VK} (q : lE W E (eCallB op g) σ H Q) : tCB r (lA W E g) σ H Q := by
  obtain ⟨M, env, st, S, q⟩ := q
  exact ⟨M, env, st, S, Fin.bind q fun as st1 M1 vs H1 T1 S1 r1 q1 => hd E M1 σ H1 env st1 as vs Q S1 r1 q1⟩
theorem de_callB (hc : CallR X (.builtin id) r) (hd : CallD W r op) (hg : Gl X x) (hm : X.mg x = none) (hv : bootBuiltins x = some (.builtin id)) (ha : DA X W E (e :: es) g) (hn : x ≠ "__name__" := by decide) (hdb : (x == ("__debug__" : PySem.Str)) = false := by decide)
    (he : starEach (e :: es) X.env = (false, eval e X.env) :: starEach es X.env := by rfl) (hpl : (backTo pos (starEach es X.env)).any (·.1) = false := by rfl) : DE X W E (.Call (.Name x p) (e :: es) [] pos) (eCallB op g) :=
  PEmono (pe_callB hc hg hm hv ha hn hdb he hpl) fun σ H Q q => lift_call hd q
theorem de_callTy (hc : CallR X (.type T) r) (hd : CallD W r op) (hg : Gl X x) (hm : X.mg x = none) (hv : bootBuiltins x = some (.type T)) (ha : DA X W E (e :: es) g) (hn : x ≠ "__name__" := by decide) (hdb : (x == ("__debug__" : PySem.Str)) = false := by decide)
    (he : starEach (e :: es) X.env = (false, eval e X.env) :: starEach es X.env := by rfl) (hpl : (backTo pos (starEach es X.env)).any (·.1) = false := by rfl) : DE X W E (.Call (.Name x p) (e :: es) [] pos) (eCallB op g) :=
  PEmono (pe_callTy hc hg hm hv ha hn hdb he hpl) fun σ H Q q => lift_call hd q
end
/-! ### data in order -/
def ordAll (ds : List D) : Bool := ds.all fun a => fit a 40 && notNon a && ds.all fun b => alk a b
theorem ordAll_at {ds : List D} (h : ordAll ds = true) {d : D} (m : d ∈ ds) : fit d 40 = true ∧ notNon d = true ∧ ∀ e ∈ ds, alk d e = true := by
  have q := List.all_eq_true.mp h d m
  simp only [Bool.and_eq_true, List.all_eq_true] at q
  exact ⟨q.1.1, q.1.2, q.2⟩
def btmin (ds : List D) : Nat → Nat → Bool := fun i j => dlt (ds.getD i .non) (ds.getD j .non)
def btmax (ds : List D) : Nat → Nat → Bool := fun i j => dlt (ds.getD j .non) (ds.getD i .non)
theorem vals_getV : ∀ {xs : List V} {us : List Value} {i : Nat} {u : Value}, Vals xs us → us[i]? = some u → ∃ x, xs[i]? = some x ∧ RelV x u
  | _, _, _, _, .nil, e => by simp at e
  | _, _, 0, _, .cons r _, e => by simp at e; subst e; exact ⟨_, rfl, r⟩
  | _, _, i + 1, _, .cons _ t, e => by
    obtain ⟨x, h1, h2⟩ := vals_getV (i := i) t (by simpa using e)
    exact ⟨x, by simpa using h1, h2⟩
theorem get_len {α β : Type} {xs : List α} {ys : List β} (l : xs.length = ys.length) {i : Nat} {x : α} (e : xs[i]? = some x) : ∃ y, ys[i]? = some y := by
  have h := (List.getElem?_eq_some_iff.mp e).1
  exact ⟨ys[i], List.getElem?_eq_getElem (by omega)⟩

/-! ### min -/
section
variable {X : Cx}
theorem cmpIn_min {pins : List (Addr × Obj)} {σ : L2.St} {H : Hp} {s : Shared} {a : Addr} {ys : List V} {ds : List D} {its : List Value} (I : Inv X pins σ H s) (hu : X.A.units + 64 < cLine) (rv : Vals ys its)
    (hd : ∀ (i : Nat) (y : V) (d : D), ys[i]? = some y → ds[i]? = some d → Dp X.K H y (toP d)) (ok : ordAll ds = true) (len : ys.length = ds.length) (A : Around) (eu : A.units ≤ X.A.units + 2) :
    PySem.CmpIn X.prog X.w A .Lt s.heap (fun i v => its.toArray[i]? = some v) (btmin ds) := by
  intro i j vi vj s' Q E k hi hj q
  have hi' : its[i]? = some vi := by simpa using hi
  have hj' : its[j]? = some vj := by simpa using hj
  obtain ⟨yi, ei, ri⟩ := vals_getV rv hi'
  obtain ⟨yj, ej, rj⟩ := vals_getV rv hj'
  obtain ⟨di, fi⟩ := get_len len ei
  obtain ⟨dj, fj⟩ := get_len len ej
  obtain ⟨as, r1⟩ := Dp.reads I _ _ _ (hd i yi di ei fi) ri
  obtain ⟨bs, r2⟩ := Dp.reads I _ _ _ (hd j yj dj ej fj) rj
  have m1 := List.mem_of_getElem? fi
  have m2 := List.mem_of_getElem? fj
  obtain ⟨o1, o2, o3⟩ := ordAll_at ok m1
  obtain ⟨p1, p2, p3⟩ := ordAll_at ok m2
  have al := o3 dj m2
  have al2 := p3 di m1
  refine PySem.W.rcLt_alike _ _ A s' vi vj _ _ (PySem.W.reads_keeps k r1) (PySem.W.reads_keeps k r2) (alike_toP _ _ al) (toP_non o1 o2) ?_ X.prog X.w E Q ?_
  · have z := (plain_toP di 40 o1).2
    omega
  · have e : PySem.W.dataLt (toP di) (toP dj) = btmin ds i j := by
      unfold btmin
      rw [List.getD_eq_getElem?_getD, List.getD_eq_getElem?_getD, fi, fj]
      exact dataLt_toP di dj 40 40 o1 p1 al
    rw [e]
    exact q
def rBestmin (K : PySem.W.Frag) : List V → Hp → VK → Prop := fun vs H Q => ∃ (a : Addr) (ys : List V) (ds : List D), vs = [.ref a] ∧ (SqL K H a ys ∨ SqT K H a ys) ∧ ys.length = ds.length ∧ ds ≠ [] ∧ (∀ (i : Nat) (y : V) (d : D), ys[i]? = some y → ds[i]? = some d → Dp K H y (toP d)) ∧ ordAll ds = true ∧
  ∀ y, ys[PySem.argBest (btmin ds) (ds.length - 1)]? = some y → Q y H
theorem cr_bestmin (hc : X.calm = true) (hu : X.A.units + 64 < cLine) : CallR X (.builtin "min") (rBestmin X.K) := by
  rintro pins s σ H vs us Q I r ⟨a, ys, ds, rfl, hs, len, ne, hd, ok, q⟩
  rw [Vals.ref1 r]
  have pos : 0 < ds.length := List.length_pos_iff.mpr ne
  rcases hs with hs | hs
  · obtain ⟨its, rv, hl, _⟩ := I.list hs
    have ln : its.toArray.size = ds.length := by rw [List.size_toArray, ← rv.length, len]
    refine PySem.call_min_walkH (PySem.W.iter_listW (A := X.A.in1) (I.ok.hd hc) hl.isList fun s2 e W st hfp hw hk => ?_)
    refine ⟨_, _, _, _, _, _, _, s.heap, btmin ds, rfl, W, st, hfp, by omega, hw, hk, cmpIn_min (a := a) I hu rv hd ok len _ (by show X.A.units + 1 ≤ _; omega), fun v s' hP m => ?_⟩
    obtain ⟨h', tk, rfl, hk'⟩ := PySem.W.moved_old e rfl m
    rw [ln] at hP
    obtain ⟨y, ey, ry⟩ := vals_getV rv (show its[_]? = some v by simpa using hP)
    exact ⟨y, H, I.kept hk', ry, q y ey⟩
  · obtain ⟨its, rv, hl, _⟩ := I.tuple hs
    have ln : its.toArray.size = ds.length := by rw [List.size_toArray, ← rv.length, len]
    refine PySem.call_min_walkH (PySem.W.iter_tupleW (A := X.A.in1) (I.ok.hd hc) hl fun s2 e W st hfp hw hk => ?_)
    refine ⟨_, _, _, _, _, _, _, s.heap, btmin ds, rfl, W, st, hfp, by omega, hw, hk, cmpIn_min (a := a) I hu rv hd ok len _ (by show X.A.units + 1 ≤ _; omega), fun v s' hP m => ?_⟩
    obtain ⟨h', tk, rfl, hk'⟩ := PySem.W.moved_old e rfl m
    rw [ln] at hP
    obtain ⟨y, ey, ry⟩ := vals_getV rv (show its[_]? = some v by simpa using hP)
    exact ⟨y, H, I.kept hk', ry, q y ey⟩
/-- with default= -/
def rDfltmin (K : PySem.W.Frag) : List V → List V → Hp → VK → Prop := fun vs zs H Q => ∃ (a : Addr) (ys : List V) (ds : List D) (z : V), vs = [.ref a] ∧ zs = [z] ∧ SqL K H a ys ∧ ys.length = ds.length ∧ (∀ (i : Nat) (y : V) (d : D), ys[i]? = some y → ds[i]? = some d → Dp K H y (toP d)) ∧ ordAll ds = true ∧ (ds = [] → Q z H) ∧
  ∀ y, ds ≠ [] → ys[PySem.argBest (btmin ds) (ds.length - 1)]? = some y → Q y H
theorem cr_dfltmin (hc : X.calm = true) (hu : X.A.units + 64 < cLine) : CallRK X (.builtin "min") [PySem.Str.ofString "default"] (rDfltmin X.K) := by
  rintro pins s σ H vs us zs ws Q I r rz ⟨a, ys, ds, z, rfl, rfl, hs, len, hd, ok, q0, q⟩
  obtain ⟨w, rfl, rw'⟩ := vals1 rz
  rw [Vals.ref1 r]
  obtain ⟨its, rv, hl, _⟩ := I.list hs
  have ln : its.toArray.size = ds.length := by rw [List.size_toArray, ← rv.length, len]
  refine PySem.call_min_walkD (PySem.W.iter_listW (A := X.A.in1) (I.ok.hd hc) hl.isList fun s2 e W st hfp hw hk => ?_)
  refine ⟨_, _, _, _, _, _, _, s.heap, btmin ds, rfl, W, st, hfp, hw, hk, fun hz s' m => ?_, fun hp => ⟨cmpIn_min (a := a) I hu rv hd ok len _ (by show X.A.units + 1 ≤ _; omega), fun v s' hP m => ?_⟩⟩
  · obtain ⟨h', tk, rfl, hk'⟩ := PySem.W.moved_old e rfl m
    exact ⟨z, H, I.kept hk', rw', q0 (List.eq_nil_of_length_eq_zero (by omega))⟩
  · obtain ⟨h', tk, rfl, hk'⟩ := PySem.W.moved_old e rfl m
    rw [ln] at hP
    obtain ⟨y, ey, ry⟩ := vals_getV rv (show its[_]? = some v by simpa using hP)
    exact ⟨y, H, I.kept hk', ry, q y (by intro z; rw [z] at ln; rw [ln] at hp; exact Nat.lt_irrefl _ hp) ey⟩
/-- min(a, b) -/
theorem two_min {prog : Program} {w : World} {A : Around} {E : Value → Shared → Prop} {s : Shared} {a b : Value} {bt : Nat → Nat → Bool} {Q : Value → Shared → Prop} (hh : A.handled = none)
    (hc : ∀ h : Heap, (∀ c o, s.heap.get? c = some o → h.get? c = some o) → PySem.CmpIn prog w A.in1 .Lt h (fun i v => #[a, b][i]? = some v) bt)
    (h : ∀ v h' tk, #[a, b][PySem.argBest bt 1]? = some v → (∀ c o, s.heap.get? c = some o → h'.get? c = some o) → Q v { s with heap := h', toks := tk }) :
    wpAny (model prog w) A (call (.builtin "min") [a, b]) Q E s := by
  have hname : (toString "min" ++ toString ".loop" : String) = "min.loop" := by decide
  apply call_function_tree F.kind_min F.plain_min F.entry_min (F.args_min2 _ _)
  show wpAny _ A.in1 (Builtin.Builtins.bindParams "min" ["key", "default"] 0 ⟨[], []⟩ >>= _) _ _ s
  refine wpAny_bind (wpAny_of_eq (show Builtin.Builtins.bindParams "min" ["key", "default"] 0 ⟨[], []⟩ = pure [none, none] from rfl) ?_)
  show wpAny _ A.in1 (newTuple [a, b] >>= _) _ _ s
  refine wpAny_bind (wpAny_newObj_type ?_)
  have tup : ({ s with heap := s.heap.push { cls := .type "tuple", data := .seq #[a, b] } } : Shared).heap.IsTuple s.heap.objs.size #[a, b] := ⟨_, Heap.get?_push_size _ rfl, rfl, _, rfl⟩
  refine wpAny_bind (PySem.W.iter_tupleW (A := A.in1) hh tup fun s2 e W st hfp hw hk => ?_)
  have k2 : ∀ c o, s.heap.get? c = some o → s2.heap.get? c = some o := fun c o q => hk c o (Heap.get?_push_of_some _ q)
  refine wpAny_bind (wpAny_newObj_type ?_)
  have nf : s2.heap.objs.size ∉ [({ s with heap := s.heap.push { cls := .type "tuple", data := .seq #[a, b] } } : Shared).heap.objs.size, s.heap.objs.size] := fun hm => Nat.lt_irrefl _ (hfp _ hm)
  rw [hname]
  apply wpAny_pure
  refine ⟨plainId_quiet F.plain_min_loop _, ?_⟩
  refine PySem.codeAny_min_loop_firstH W ({ s with heap := s.heap.push { cls := .type "tuple", data := .seq #[a, b] } } : Shared).heap hw bt (hc _ fun c o q => Heap.get?_push_of_some _ q) s2.heap.objs.size nf (PySem.fresh_in hk) _ (by show 0 < 2; decide)
    (fun c o q => Heap.get?_push_of_some _ (hk c o q)) (W.frame 0 s2 _ s2.toks st (Nat.le_refl _) fun c _ o q => Heap.get?_push_of_some _ q) (Heap.get?_push_size _ rfl) fun v s' hP hm => ?_
  have m2 := Moved.drop_new (tk := s2.toks) hm (Nat.le_refl _)
  obtain ⟨h', tk, rfl, hk'⟩ := PySem.W.moved_old e rfl m2
  exact h v h' tk hP fun c o q => hk' c o (Heap.get?_push_of_some _ q)
def rTwomin (K : PySem.W.Frag) : List V → Hp → VK → Prop := fun vs H Q => ∃ x y d e, vs = [x, y] ∧ Dp K H x (toP d) ∧ Dp K H y (toP e) ∧ ordAll [d, e] = true ∧ Q (if dlt e d then y else x) H
theorem cr_twomin (hc : X.calm = true) (hu : X.A.units + 64 < cLine) : CallR X (.builtin "min") (rTwomin X.K) := by
  rintro pins s σ H vs us Q I r ⟨x, y, d, e, rfl, hx, hy, ok, q⟩
  obtain ⟨u, v, rfl, rx, ry⟩ := vals2 r
  refine two_min (bt := btmin [d, e]) (I.ok.hd hc) (fun h k => ?_) fun w h' tk hP k => ?_
  · intro i j vi vj s' Q' E' k' hi hj q'
    refine cmpIn_min (a := 0) (ys := [x, y]) (its := [u, v]) I hu r (fun n z f e1 e2 => ?_) ok rfl _ (by show X.A.units + 1 ≤ _; omega) i j vi vj s' Q' E' (fun c o z => k' c o (k c o z)) hi hj q'
    match n, e1, e2 with
    | 0, e1, e2 => cases e1; cases e2; exact hx
    | 1, e1, e2 => cases e1; cases e2; exact hy
    | n + 2, e1, e2 => simp at e1
  · refine ⟨if dlt e d then y else x, H, I.kept k, ?_, q⟩
    have eb : PySem.argBest (btmin [d, e]) 1 = if dlt e d then 1 else 0 := rfl
    rw [eb] at hP
    by_cases hb : dlt e d = true
    · rw [if_pos hb] at hP ⊢
      cases hP
      exact ry
    · rw [if_neg hb] at hP ⊢
      cases hP
      exact rx
end
def opmin (st : Store) (as : List D) : Option D := match as with
  | [x] => match items st x with
    | some (d :: ds) => if ordAll (d :: ds) then some (ds.foldl (fun a y => if dlt y a then y else a) d) else none
    | _ => none
  | [x, y] => if ordAll [x, y] then some (if dlt y x then y else x) else none
  | _ => none
def opminD (st : Store) (as zs : List D) : Option D := match as, zs with
  | [x], [z] => match deref st x with
    | .lst [] => some z
    | .lst (d :: ds) => if ordAll (d :: ds) then some (ds.foldl (fun a y => if dlt y a then y else a) d) else none
    | _ => none
  | _, _ => none
theorem bestmin_fold (d : D) (ds : List D) : (d :: ds)[PySem.argBest (btmin (d :: ds)) ds.length]? = some (ds.foldl (fun a y => if dlt y a then y else a) d) := by
  obtain ⟨l, e⟩ := PySem.W.argBest_fold (fun x y => dlt x y) D.non d ds ds.length (Nat.le_refl _)
  rw [List.take_length] at e
  have l' : PySem.argBest (btmin (d :: ds)) ds.length < (d :: ds).length := by
    rw [List.length_cons]
    exact Nat.lt_succ_of_le l
  rw [List.getElem?_eq_getElem l']
  rw [List.getD_eq_getElem?_getD] at e
  have e3 : ((d :: ds)[PySem.argBest (btmin (d :: ds)) ds.length]?).getD D.non = ds.foldl (fun a y => if dlt y a then y else a) d := e
  rw [List.getElem?_eq_getElem l'] at e3
  rw [← e3]
  rfl
section
variable {W : Wd} {K : PySem.W.Frag}
theorem cd_min : CallD W (fun vs H Q => rBestmin K vs H Q ∨ rTwomin K vs H Q) opmin := by
  intro E M σ H env st as vs Q S rs h
  match as, rs, h with
  | [], _, h => exact h.elim
  | [x], .cons (v := v) r .nil, h =>
    simp only [opmin] at h
    cases e : items st x with
    | none => rw [e] at h; exact h.elim
    | some ds =>
      rw [e] at h
      cases ds with
      | nil => exact h.elim
      | cons d ds =>
        simp only at h
        by_cases ok : ordAll (d :: ds) = true
        · rw [if_pos ok] at h
          obtain ⟨p, ys, rfl, rr, sq⟩ := rep_items (K := K) S.s r e
          refine .inl ⟨p, ys, d :: ds, rfl, sq, rr.length.symm, (fun z => nomatch z), fun i y f e1 e2 => ?_, ok, fun y ey => ?_⟩
          · obtain ⟨y', e3, ry⟩ := rr.get e2
            rw [e1] at e3
            cases e3
            exact ry.dp (ordAll_at ok (List.mem_of_getElem? e2)).1
          · obtain ⟨f, ef, rf⟩ := rr.getV ey
            have hb := bestmin_fold d ds
            rw [List.length_cons, Nat.add_sub_cancel] at ef
            rw [hb] at ef
            cases ef
            exact h.give S rf
        · rw [if_neg ok] at h; exact h.elim
  | [x, y], .cons (v := v) r (.cons (v := w) r2 .nil), h =>
    simp only [opmin] at h
    by_cases ok : ordAll [x, y] = true
    · rw [if_pos ok] at h
      have o1 := ordAll_at ok (List.mem_cons_self ..)
      have o2 := ordAll_at ok (List.mem_cons_of_mem _ (List.mem_cons_self ..))
      refine .inr ⟨v, w, x, y, rfl, r.dp o1.1, r2.dp o2.1, ok, ?_⟩
      by_cases hb : dlt y x = true
      · rw [if_pos hb] at h ⊢
        exact h.give S r2
      · rw [if_neg hb] at h ⊢
        exact h.give S r
    · rw [if_neg ok] at h; exact h.elim
  | _ :: _ :: _ :: _, _, h => exact h.elim
theorem ckd_min : CallKD W (rDfltmin K) opminD := by
  intro E M σ H env st as zs vs ws Q S rs rz h
  match as, zs, rs, rz, h with
  | [x], [z], .cons (v := v) r .nil, .cons (v := w) r2 .nil, h =>
    simp only [opminD] at h
    cases e : deref st x with
    | lst ds =>
      rw [e] at h
      obtain ⟨p, ys, rfl, rr, rd⟩ := rep_lst S.s r e
      cases ds with
      | nil =>
        refine ⟨p, ys, [], w, rfl, rfl, .inl rd, rr.length.symm, fun i y f e1 e2 => (by simp at e2), rfl, fun _ => h.give S r2, fun y z => absurd rfl z⟩
      | cons d ds =>
        simp only at h
        by_cases ok : ordAll (d :: ds) = true
        · rw [if_pos ok] at h
          refine ⟨p, ys, d :: ds, w, rfl, rfl, .inl rd, rr.length.symm, fun i y f e1 e2 => ?_, ok, (fun z => nomatch z), fun y _ ey => ?_⟩
          · obtain ⟨y', e3, ry⟩ := rr.get e2
            rw [e1] at e3
            cases e3
            exact ry.dp (ordAll_at ok (List.mem_of_getElem? e2)).1
          · obtain ⟨f, ef, rf⟩ := rr.getV ey
            have hb := bestmin_fold d ds
            rw [List.length_cons, Nat.add_sub_cancel] at ef
            rw [hb] at ef
            cases ef
            exact h.give S rf
        · rw [if_neg ok] at h; exact h.elim
    | _ => rw [e] at h; exact h.elim
  | [], _, _, _, h => exact h.elim
  | _ :: _ :: _, _, _, _, h => exact h.elim
  | [_], [], _, _, h => exact h.elim
  | [_], _ :: _ :: _, _, _, h => exact h.elim
end

/-! ### max -/
section
variable {X : Cx}
theorem cmpIn_max {pins : List (Addr × Obj)} {σ : L2.St} {H : Hp} {s : Shared} {a : Addr} {ys : List V} {ds : List D} {its : List Value} (I : Inv X pins σ H s) (hu : X.A.units + 64 < cLine) (rv : Vals ys its)
    (hd : ∀ (i : Nat) (y : V) (d : D), ys[i]? = some y → ds[i]? = some d → Dp X.K H y (toP d)) (ok : ordAll ds = true) (len : ys.length = ds.length) (A : Around) (eu : A.units ≤ X.A.units + 2) :
    PySem.CmpIn X.prog X.w A .Gt s.heap (fun i v => its.toArray[i]? = some v) (btmax ds) := by
  intro i j vi vj s' Q E k hi hj q
  have hi' : its[i]? = some vi := by simpa using hi
  have hj' : its[j]? = some vj := by simpa using hj
  obtain ⟨yi, ei, ri⟩ := vals_getV rv hi'
  obtain ⟨yj, ej, rj⟩ := vals_getV rv hj'
  obtain ⟨di, fi⟩ := get_len len ei
  obtain ⟨dj, fj⟩ := get_len len ej
  obtain ⟨as, r1⟩ := Dp.reads I _ _ _ (hd i yi di ei fi) ri
  obtain ⟨bs, r2⟩ := Dp.reads I _ _ _ (hd j yj dj ej fj) rj
  have m1 := List.mem_of_getElem? fi
  have m2 := List.mem_of_getElem? fj
  obtain ⟨o1, o2, o3⟩ := ordAll_at ok m1
  obtain ⟨p1, p2, p3⟩ := ordAll_at ok m2
  have al := o3 dj m2
  have al2 := p3 di m1
  refine PySem.W.rcGt_alike _ _ A s' vi vj _ _ (PySem.W.reads_keeps k r1) (PySem.W.reads_keeps k r2) (alike_toP _ _ al) (toP_non o1 o2) ?_ X.prog X.w E Q ?_
  · have z := (plain_toP di 40 o1).2
    omega
  · have e : PySem.W.dataLt (toP dj) (toP di) = btmax ds i j := by
      unfold btmax
      rw [List.getD_eq_getElem?_getD, List.getD_eq_getElem?_getD, fi, fj]
      exact dataLt_toP dj di 40 40 p1 o1 al2
    rw [e]
    exact q
def rBestmax (K : PySem.W.Frag) : List V → Hp → VK → Prop := fun vs H Q => ∃ (a : Addr) (ys : List V) (ds : List D), vs = [.ref a] ∧ (SqL K H a ys ∨ SqT K H a ys) ∧ ys.length = ds.length ∧ ds ≠ [] ∧ (∀ (i : Nat) (y : V) (d : D), ys[i]? = some y → ds[i]? = some d → Dp K H y (toP d)) ∧ ordAll ds = true ∧
  ∀ y, ys[PySem.argBest (btmax ds) (ds.length - 1)]? = some y → Q y H
theorem cr_bestmax (hc : X.calm = true) (hu : X.A.units + 64 < cLine) : CallR X (.builtin "max") (rBestmax X.K) := by
  rintro pins s σ H vs us Q I r ⟨a, ys, ds, rfl, hs, len, ne, hd, ok, q⟩
  rw [Vals.ref1 r]
  have pos : 0 < ds.length := List.length_pos_iff.mpr ne
  rcases hs with hs | hs
  · obtain ⟨its, rv, hl, _⟩ := I.list hs
    have ln : its.toArray.size = ds.length := by rw [List.size_toArray, ← rv.length, len]
    refine PySem.call_max_walkH (PySem.W.iter_listW (A := X.A.in1) (I.ok.hd hc) hl.isList fun s2 e W st hfp hw hk => ?_)
    refine ⟨_, _, _, _, _, _, _, s.heap, btmax ds, rfl, W, st, hfp, by omega, hw, hk, cmpIn_max (a := a) I hu rv hd ok len _ (by show X.A.units + 1 ≤ _; omega), fun v s' hP m => ?_⟩
    obtain ⟨h', tk, rfl, hk'⟩ := PySem.W.moved_old e rfl m
    rw [ln] at hP
    obtain ⟨y, ey, ry⟩ := vals_getV rv (show its[_]? = some v by simpa using hP)
    exact ⟨y, H, I.kept hk', ry, q y ey⟩
  · obtain ⟨its, rv, hl, _⟩ := I.tuple hs
    have ln : its.toArray.size = ds.length := by rw [List.size_toArray, ← rv.length, len]
    refine PySem.call_max_walkH (PySem.W.iter_tupleW (A := X.A.in1) (I.ok.hd hc) hl fun s2 e W st hfp hw hk => ?_)
    refine ⟨_, _, _, _, _, _, _, s.heap, btmax ds, rfl, W, st, hfp, by omega, hw, hk, cmpIn_max (a := a) I hu rv hd ok len _ (by show X.A.units + 1 ≤ _; omega), fun v s' hP m => ?_⟩
    obtain ⟨h', tk, rfl, hk'⟩ := PySem.W.moved_old e rfl m
    rw [ln] at hP
    obtain ⟨y, ey, ry⟩ := vals_getV rv (show its[_]? = some v by simpa using hP)
    exact ⟨y, H, I.kept hk', ry, q y ey⟩
/-- with default= -/
def rDfltmax (K : PySem.W.Frag) : List V → List V → Hp → VK → Prop := fun vs zs H Q => ∃ (a : Addr) (ys : List V) (ds : List D) (z : V), vs = [.ref a] ∧ zs = [z] ∧ SqL K H a ys ∧ ys.length = ds.length ∧ (∀ (i : Nat) (y : V) (d : D), ys[i]? = some y → ds[i]? = some d → Dp K H y (toP d)) ∧ ordAll ds = true ∧ (ds = [] → Q z H) ∧
  ∀ y, ds ≠ [] → ys[PySem.argBest (btmax ds) (ds.length - 1)]? = some y → Q y H
theorem cr_dfltmax (hc : X.calm = true) (hu : X.A.units + 64 < cLine) : CallRK X (.builtin "max") [PySem.Str.ofString "default"] (rDfltmax X.K) := by
  rintro pins s σ H vs us zs ws Q I r rz ⟨a, ys, ds, z, rfl, rfl, hs, len, hd, ok, q0, q⟩
  obtain ⟨w, rfl, rw'⟩ := vals1 rz
  rw [Vals.ref1 r]
  obtain ⟨its, rv, hl, _⟩ := I.list hs
  have ln : its.toArray.size = ds.length := by rw [List.size_toArray, ← rv.length, len]
  refine PySem.call_max_walkD (PySem.W.iter_listW (A := X.A.in1) (I.ok.hd hc) hl.isList fun s2 e W st hfp hw hk => ?_)
  refine ⟨_, _, _, _, _, _, _, s.heap, btmax ds, rfl, W, st, hfp, hw, hk, fun hz s' m => ?_, fun hp => ⟨cmpIn_max (a := a) I hu rv hd ok len _ (by show X.A.units + 1 ≤ _; omega), fun v s' hP m => ?_⟩⟩
  · obtain ⟨h', tk, rfl, hk'⟩ := PySem.W.moved_old e rfl m
    exact ⟨z, H, I.kept hk', rw', q0 (List.eq_nil_of_length_eq_zero (by omega))⟩
  · obtain ⟨h', tk, rfl, hk'⟩ := PySem.W.moved_old e rfl m
    rw [ln] at hP
    obtain ⟨y, ey, ry⟩ := vals_getV rv (show its[_]? = some v by simpa using hP)
    exact ⟨y, H, I.kept hk', ry, q y (by intro z; rw [z] at ln; rw [ln] at hp; exact Nat.lt_irrefl _ hp) ey⟩
/-- max(a, b) -/
theorem two_max {prog : Program} {w : World} {A : Around} {E : Value → Shared → Prop} {s : Shared} {a b : Value} {bt : Nat → Nat → Bool} {Q : Value → Shared → Prop} (hh : A.handled = none)
    (hc : ∀ h : Heap, (∀ c o, s.heap.get? c = some o → h.get? c = some o) → PySem.CmpIn prog w A.in1 .Gt h (fun i v => #[a, b][i]? = some v) bt)
    (h : ∀ v h' tk, #[a, b][PySem.argBest bt 1]? = some v → (∀ c o, s.heap.get? c = some o → h'.get? c = some o) → Q v { s with heap := h', toks := tk }) :
    wpAny (model prog w) A (call (.builtin "max") [a, b]) Q E s := by
  have hname : (toString "max" ++ toString ".loop" : String) = "max.loop" := by decide
  apply call_function_tree F.kind_max F.plain_max F.entry_max (F.args_max2 _ _)
  show wpAny _ A.in1 (Builtin.Builtins.bindParams "max" ["key", "default"] 0 ⟨[], []⟩ >>= _) _ _ s
  refine wpAny_bind (wpAny_of_eq (show Builtin.Builtins.bindParams "max" ["key", "default"] 0 ⟨[], []⟩ = pure [none, none] from rfl) ?_)
  show wpAny _ A.in1 (newTuple [a, b] >>= _) _ _ s
  refine wpAny_bind (wpAny_newObj_type ?_)
  have tup : ({ s with heap := s.heap.push { cls := .type "tuple", data := .seq #[a, b] } } : Shared).heap.IsTuple s.heap.objs.size #[a, b] := ⟨_, Heap.get?_push_size _ rfl, rfl, _, rfl⟩
  refine wpAny_bind (PySem.W.iter_tupleW (A := A.in1) hh tup fun s2 e W st hfp hw hk => ?_)
  have k2 : ∀ c o, s.heap.get? c = some o → s2.heap.get? c = some o := fun c o q => hk c o (Heap.get?_push_of_some _ q)
  refine wpAny_bind (wpAny_newObj_type ?_)
  have nf : s2.heap.objs.size ∉ [({ s with heap := s.heap.push { cls := .type "tuple", data := .seq #[a, b] } } : Shared).heap.objs.size, s.heap.objs.size] := fun hm => Nat.lt_irrefl _ (hfp _ hm)
  rw [hname]
  apply wpAny_pure
  refine ⟨plainId_quiet F.plain_max_loop _, ?_⟩
  refine PySem.codeAny_max_loop_firstH W ({ s with heap := s.heap.push { cls := .type "tuple", data := .seq #[a, b] } } : Shared).heap hw bt (hc _ fun c o q => Heap.get?_push_of_some _ q) s2.heap.objs.size nf (PySem.fresh_in hk) _ (by show 0 < 2; decide)
    (fun c o q => Heap.get?_push_of_some _ (hk c o q)) (W.frame 0 s2 _ s2.toks st (Nat.le_refl _) fun c _ o q => Heap.get?_push_of_some _ q) (Heap.get?_push_size _ rfl) fun v s' hP hm => ?_
  have m2 := Moved.drop_new (tk := s2.toks) hm (Nat.le_refl _)
  obtain ⟨h', tk, rfl, hk'⟩ := PySem.W.moved_old e rfl m2
  exact h v h' tk hP fun c o q => hk' c o (Heap.get?_push_of_some _ q)
def rTwomax (K : PySem.W.Frag) : List V → Hp → VK → Prop := fun vs H Q => ∃ x y d e, vs = [x, y] ∧ Dp K H x (toP d) ∧ Dp K H y (toP e) ∧ ordAll [d, e] = true ∧ Q (if dlt d e then y else x) H
theorem cr_twomax (hc : X.calm = true) (hu : X.A.units + 64 < cLine) : CallR X (.builtin "max") (rTwomax X.K) := by
  rintro pins s σ H vs us Q I r ⟨x, y, d, e, rfl, hx, hy, ok, q⟩
  obtain ⟨u, v, rfl, rx, ry⟩ := vals2 r
  refine two_max (bt := btmax [d, e]) (I.ok.hd hc) (fun h k => ?_) fun w h' tk hP k => ?_
  · intro i j vi vj s' Q' E' k' hi hj q'
    refine cmpIn_max (a := 0) (ys := [x, y]) (its := [u, v]) I hu r (fun n z f e1 e2 => ?_) ok rfl _ (by show X.A.units + 1 ≤ _; omega) i j vi vj s' Q' E' (fun c o z => k' c o (k c o z)) hi hj q'
    match n, e1, e2 with
    | 0, e1, e2 => cases e1; cases e2; exact hx
    | 1, e1, e2 => cases e1; cases e2; exact hy
    | n + 2, e1, e2 => simp at e1
  · refine ⟨if dlt d e then y else x, H, I.kept k, ?_, q⟩
    have eb : PySem.argBest (btmax [d, e]) 1 = if dlt d e then 1 else 0 := rfl
    rw [eb] at hP
    by_cases hb : dlt d e = true
    · rw [if_pos hb] at hP ⊢
      cases hP
      exact ry
    · rw [if_neg hb] at hP ⊢
      cases hP
      exact rx
end
def opmax (st : Store) (as : List D) : Option D := match as with
  | [x] => match items st x with
    | some (d :: ds) => if ordAll (d :: ds) then some (ds.foldl (fun a y => if dlt a y then y else a) d) else none
    | _ => none
  | [x, y] => if ordAll [x, y] then some (if dlt x y then y else x) else none
  | _ => none
def opmaxD (st : Store) (as zs : List D) : Option D := match as, zs with
  | [x], [z] => match deref st x with
    | .lst [] => some z
    | .lst (d :: ds) => if ordAll (d :: ds) then some (ds.foldl (fun a y => if dlt a y then y else a) d) else none
    | _ => none
  | _, _ => none
theorem bestmax_fold (d : D) (ds : List D) : (d :: ds)[PySem.argBest (btmax (d :: ds)) ds.length]? = some (ds.foldl (fun a y => if dlt a y then y else a) d) := by
  obtain ⟨l, e⟩ := PySem.W.argBest_fold (fun x y => dlt y x) D.non d ds ds.length (Nat.le_refl _)
  rw [List.take_length] at e
  have l' : PySem.argBest (btmax (d :: ds)) ds.length < (d :: ds).length := by
    rw [List.length_cons]
    exact Nat.lt_succ_of_le l
  rw [List.getElem?_eq_getElem l']
  rw [List.getD_eq_getElem?_getD] at e
  have e3 : ((d :: ds)[PySem.argBest (btmax (d :: ds)) ds.length]?).getD D.non = ds.foldl (fun a y => if dlt a y then y else a) d := e
  rw [List.getElem?_eq_getElem l'] at e3
  rw [← e3]
  rfl
section
variable {W : Wd} {K : PySem.W.Frag}
theorem cd_max : CallD W (fun vs H Q => rBestmax K vs H Q ∨ rTwomax K vs H Q) opmax := by
  intro E M σ H env st as vs Q S rs h
  match as, rs, h with
  | [], _, h => exact h.elim
  | [x], .cons (v := v) r .nil, h =>
    simp only [opmax] at h
    cases e : items st x with
    | none => rw [e] at h; exact h.elim
    | some ds =>
      rw [e] at h
      cases ds with
      | nil => exact h.elim
      | cons d ds =>
        simp only at h
        by_cases ok : ordAll (d :: ds) = true
        · rw [if_pos ok] at h
          obtain ⟨p, ys, rfl, rr, sq⟩ := rep_items (K := K) S.s r e
          refine .inl ⟨p, ys, d :: ds, rfl, sq, rr.length.symm, (fun z => nomatch z), fun i y f e1 e2 => ?_, ok, fun y ey => ?_⟩
          · obtain ⟨y', e3, ry⟩ := rr.get e2
            rw [e1] at e3
            cases e3
            exact ry.dp (ordAll_at ok (List.mem_of_getElem? e2)).1
          · obtain ⟨f, ef, rf⟩ := rr.getV ey
            have hb := bestmax_fold d ds
            rw [List.length_cons, Nat.add_sub_cancel] at ef
            rw [hb] at ef
            cases ef
            exact h.give S rf
        · rw [if_neg ok] at h; exact h.elim
  | [x, y], .cons (v := v) r (.cons (v := w) r2 .nil), h =>
    simp only [opmax] at h
    by_cases ok : ordAll [x, y] = true
    · rw [if_pos ok] at h
      have o1 := ordAll_at ok (List.mem_cons_self ..)
      have o2 := ordAll_at ok (List.mem_cons_of_mem _ (List.mem_cons_self ..))
      refine .inr ⟨v, w, x, y, rfl, r.dp o1.1, r2.dp o2.1, ok, ?_⟩
      by_cases hb : dlt x y = true
      · rw [if_pos hb] at h ⊢
        exact h.give S r2
      · rw [if_neg hb] at h ⊢
        exact h.give S r
    · rw [if_neg ok] at h; exact h.elim
  | _ :: _ :: _ :: _, _, h => exact h.elim
theorem ckd_max : CallKD W (rDfltmax K) opmaxD := by
  intro E M σ H env st as zs vs ws Q S rs rz h
  match as, zs, rs, rz, h with
  | [x], [z], .cons (v := v) r .nil, .cons (v := w) r2 .nil, h =>
    simp only [opmaxD] at h
    cases e : deref st x with
    | lst ds =>
      rw [e] at h
      obtain ⟨p, ys, rfl, rr, rd⟩ := rep_lst S.s r e
      cases ds with
      | nil =>
        refine ⟨p, ys, [], w, rfl, rfl, .inl rd, rr.length.symm, fun i y f e1 e2 => (by simp at e2), rfl, fun _ => h.give S r2, fun y z => absurd rfl z⟩
      | cons d ds =>
        simp only at h
        by_cases ok : ordAll (d :: ds) = true
        · rw [if_pos ok] at h
          refine ⟨p, ys, d :: ds, w, rfl, rfl, .inl rd, rr.length.symm, fun i y f e1 e2 => ?_, ok, (fun z => nomatch z), fun y _ ey => ?_⟩
          · obtain ⟨y', e3, ry⟩ := rr.get e2
            rw [e1] at e3
            cases e3
            exact ry.dp (ordAll_at ok (List.mem_of_getElem? e2)).1
          · obtain ⟨f, ef, rf⟩ := rr.getV ey
            have hb := bestmax_fold d ds
            rw [List.length_cons, Nat.add_sub_cancel] at ef
            rw [hb] at ef
            cases ef
            exact h.give S rf
        · rw [if_neg ok] at h; exact h.elim
    | _ => rw [e] at h; exact h.elim
  | [], _, _, _, h => exact h.elim
  | _ :: _ :: _, _, _, _, h => exact h.elim
  | [_], [], _, _, h => exact h.elim
  | [_], _ :: _ :: _, _, _, h => exact h.elim
end
end DL

set_option Elab.async false
set_option linter.all false
set_option maxRecDepth 100000
set_option maxHeartbeats 4000000
/-! DL10: len, tuple, list, sorted, sum, abs, int, ranges, repr. -/
namespace DL
open PySem PySem.Spec PyProof.Rows L2
/-! ### new lists by calls -/
def nCallB (op : Store → List D → Option (List D)) (g : EvL) : EvL := fun env st => (g env st).bind fun as st1 => R.ofO (op st1 as) st1
def CallN (W : Wd) (r : List V → Hp → VK → Prop) (op : Store → List D → Option (List D)) : Prop :=
  ∀ (E : XK) (M : MW) (σ : L2.St) (H : Hp) (env : Ent) (st : Store) (as : List D) (vs : List V) (Q : VK), Sim W M σ H env st → Reps W M H as vs → FinN W E σ env (R.ofO (op st as) st) M H Q → r vs H Q
theorem FinN.give {W : Wd} {E : XK} {σ : L2.St} {env : Ent} {M : MW} {H : Hp} {st : Store} {ds : List D} {vs : List V} {Q : VK} (h : FinN W E σ env (.ok ds st) M H Q) (S : Sim W M σ H env st) (r : Reps W M H ds vs) : ∀ p, H p = none → Q (.ref p) (upd H p (.lst vs)) := h M vs H .refl S r
section
variable {X : Cx} {W : Wd} {E : XK} {x : PySem.Str} {p pos : Pos} {e : Expr} {es : List Expr} {g : EvL} {id T : String} {r : List V → Hp → VK → Prop} {op : Store → List D → Option (List D)}
theorem lift_callN (hd : CallN W r op) {σ : L2.St} {H : Hp} {Q : VK} (q : lN W E (nCallB op g) σ H Q) : tCB r (lA W E g) σ H Q := by
  obtain ⟨M, env, st, S, q⟩ := q
  exact ⟨M, env, st, S, Fin.bind q fun as st1 M1 vs H1 T1 S1 r1 q1 => hd E M1 σ H1 env st1 as vs Q S1 r1 q1⟩
theorem dn_callB (hc : CallR X (.builtin id) r) (hd : CallN W r op) (hg : Gl X x) (hm : X.mg x = none) (hv : bootBuiltins x = some (.builtin id)) (ha : DA X W E (e :: es) g) (hn : x ≠ "__name__" := by decide) (hdb : (x == ("__debug__" : PySem.Str)) = false := by decide)
    (he : starEach (e :: es) X.env = (false, eval e X.env) :: starEach es X.env := by rfl) (hpl : (backTo pos (starEach es X.env)).any (·.1) = false := by rfl) : DN X W E (.Call (.Name x p) (e :: es) [] pos) (nCallB op g) :=
  PEmono (pe_callB hc hg hm hv ha hn hdb he hpl) fun σ H Q q => lift_callN hd q
theorem dn_callTy (hc : CallR X (.type T) r) (hd : CallN W r op) (hg : Gl X x) (hm : X.mg x = none) (hv : bootBuiltins x = some (.type T)) (ha : DA X W E (e :: es) g) (hn : x ≠ "__name__" := by decide) (hdb : (x == ("__debug__" : PySem.Str)) = false := by decide)
    (he : starEach (e :: es) X.env = (false, eval e X.env) :: starEach es X.env := by rfl) (hpl : (backTo pos (starEach es X.env)).any (·.1) = false := by rfl) : DN X W E (.Call (.Name x p) (e :: es) [] pos) (nCallB op g) :=
  PEmono (pe_callTy hc hg hm hv ha hn hdb he hpl) fun σ H Q q => lift_callN hd q
end
/-! ### len -/
def opLen (st : Store) (as : List D) : Option D := match as with
  | [x] => match items st x with
    | some ds => some (.int ds.length)
    | none => none
  | _ => none
theorem cd_len {W : Wd} {K : PySem.W.Frag} : CallD W (fun xs H Q => ∃ p ys, xs = [.ref p] ∧ (SqL K H p ys ∨ SqT K H p ys) ∧ Q (.int ys.length) H) opLen := by
  intro E M σ H env st as vs Q S rs h
  match as, rs, h with
  | [x], .cons r .nil, h =>
    simp only [opLen] at h
    cases e : items st x with
    | none => rw [e] at h; exact h.elim
    | some ds =>
      rw [e] at h
      obtain ⟨p, ys, rfl, rr, sq⟩ := rep_items (K := K) S.s r e
      refine ⟨p, ys, rfl, sq, ?_⟩
      rw [← rr.length]
      exact h.give S (.int _)
  | [], _, h => exact h.elim
  | _ :: _ :: _, _, h => exact h.elim
/-! ### tuple(x), list(x) -/
def opTuple (st : Store) (as : List D) : Option D := match as with
  | [x] => match items st x with
    | some ds => some (.tup ds)
    | none => none
  | _ => none
theorem items_tup {W : Wd} {M : MW} {H : Hp} {st : Store} (S : SimS W M H st) {d : D} {v : V} {ds : List D} (r : Rep W M H d v) (e : items st d = some ds) :
    (∃ a vs, v = .ref a ∧ Reps W M H ds vs ∧ Rd H a (.lst vs)) ∨ (∃ a vs, v = .ref a ∧ Reps W M H ds vs ∧ H a = some (.tup vs)) := by
  unfold items at e
  rcases deref_cases S r with q | ⟨m, ds', a, vs, rfl, e1, e2, rfl, e3, e4, e5⟩
  · rw [q] at e
    cases r with
    | tup h r => cases e; exact .inr ⟨_, _, rfl, r, h⟩
    | lst h m r => cases e; exact .inl ⟨_, _, rfl, r, h⟩
    | _ => cases e
  · rw [e2] at e
    cases e
    exact .inl ⟨_, _, rfl, e5, .inl e4⟩
theorem cd_tuple {W : Wd} {K : PySem.W.Frag} : CallD W (fun xs H Q => ∃ p ys, xs = [.ref p] ∧ ((SqL K H p ys ∧ ∀ l, H l = none → Q (.ref l) (upd H l (.tup ys))) ∨ (SqT K H p ys ∧ Q (.ref p) H))) opTuple := by
  intro E M σ H env st as vs Q S rs h
  match as, rs, h with
  | [x], .cons r .nil, h =>
    simp only [opTuple] at h
    cases e : items st x with
    | none => rw [e] at h; exact h.elim
    | some ds =>
      rw [e] at h
      rcases items_tup S.s r e with ⟨a, ys, rfl, rr, rd⟩ | ⟨a, ys, rfl, rr, ht⟩
      · exact ⟨a, ys, rfl, .inl ⟨.inl rd, h.tup S rr⟩⟩
      · exact ⟨a, ys, rfl, .inr ⟨.inl (.inl ht), h.give S (.tup ht rr)⟩⟩
  | [], _, h => exact h.elim
  | _ :: _ :: _, _, h => exact h.elim
def opList (st : Store) (as : List D) : Option (List D) := match as with
  | [x] => items st x
  | _ => none
theorem cn_list {W : Wd} {K : PySem.W.Frag} : CallN W (fun xs H Q => ∃ p ys, xs = [.ref p] ∧ (SqL K H p ys ∨ SqT K H p ys) ∧ ∀ l, H l = none → Q (.ref l) (upd H l (.lst ys))) opList := by
  intro E M σ H env st as vs Q S rs h
  match as, rs, h with
  | [x], .cons r .nil, h =>
    simp only [opList] at h
    cases e : items st x with
    | none => rw [e] at h; exact h.elim
    | some ds =>
      rw [e] at h
      obtain ⟨p, ys, rfl, rr, sq⟩ := rep_items (K := K) S.s r e
      exact ⟨p, ys, rfl, sq, h.give S rr⟩
  | [], _, h => exact h.elim
  | _ :: _ :: _, _, h => exact h.elim
/-! ### ranges -/
def rgD (a b : Int) : List D := (List.range (b - a).toNat).map fun i => D.int (a + (i : Nat))
theorem rep_rg {W : Wd} {M : MW} {H : Hp} (a b : Int) : Reps W M H (rgD a b) (rgV a b) := by
  unfold rgD rgV
  generalize List.range (b - a).toNat = l
  induction l with
  | nil => exact .nil
  | cons x l ih => exact .cons (.int _) ih
def bigR : Int := 16777216
def rgOk (a b : Int) : Bool := decide (-16777216 ≤ a) && decide (a ≤ 16777216) && decide (-16777216 ≤ b) && decide (b ≤ 16777216) && decide (b - a ≤ 16777216)
theorem rgOk_ok {a b : Int} (h : rgOk a b = true) : RgOk a b := by
  simp only [rgOk, Bool.and_eq_true, decide_eq_true_eq] at h
  exact ⟨by omega, by omega, by omega, by omega, by omega⟩
/-- the ends of a range as two ints -/
abbrev EvR := Ent → Store → R (Int × Int)
def DR (X : Cx) (W : Wd) (E : XK) (e : Expr) (f : EvR) : Prop := ∃ t, PRg X e t ∧ ∀ (σ : L2.St) (H : Hp) (Q : Int → Int → Hp → Prop), Lift W E (fun _ _ a b => a = b) f σ H (fun p H1 => Q p.1 p.2 H1) → t σ H Q
def gRg1 (f : Ev) : EvR := fun env st => (f env st).bind fun a st1 => match a with
  | .int n => .ok (0, n) st1
  | _ => .no
def gRg2 (f g : Ev) : EvR := fun env st => (f env st).bind fun a st1 => (g env st1).bind fun b st2 => match a with
  | .int i => match b with
    | .int j => .ok (i, j) st2
    | _ => .no
  | _ => .no
section
variable {X : Cx} {W : Wd} {E : XK} {e a b : Expr} {f g : Ev} {k : EvR} {p pos : Pos}
theorem dr_1 (hg : Gl X "range") (hm : X.mg "range" = none) (ha : DE X W E a f) (na : starEach [a] X.env = (false, eval a X.env) :: starEach [] X.env := by rfl) : DR X W E (.Call (.Name "range" p) [a] [] pos) (gRg1 f) :=
  ⟨_, prg_1 hg hm ha na, fun σ H Q ⟨M, env, st, S, q⟩ => ⟨M, env, st, S, Fin.bind q fun d st1 M1 x H1 T1 S1 r1 q1 => by
    cases d with
    | int n => cases r1; exact ⟨n, rfl, q1 M1 (0, n) H1 .refl S1 rfl⟩
    | _ => exact q1.elim⟩⟩
theorem dr_2 (hg : Gl X "range") (hm : X.mg "range" = none) (ha : DE X W E a f) (hb : DE X W E b g) (na : starEach [a, b] X.env = (false, eval a X.env) :: starEach [b] X.env := by rfl)
    (nb : starEach [b] X.env = (false, eval b X.env) :: starEach [] X.env := by rfl) (hp : (backTo pos (starEach [b] X.env)).any (·.1) = false := by rfl) : DR X W E (.Call (.Name "range" p) [a, b] [] pos) (gRg2 f g) :=
  ⟨_, prg_2 hg hm ha hb na nb hp, fun σ H Q ⟨M, env, st, S, q⟩ => ⟨M, env, st, S, Fin.bind q fun d st1 M1 x H1 T1 S1 r1 q1 => ⟨M1, env, st1, S1, Fin.bind q1 fun d2 st2 M2 y H2 T2 S2 r2 q2 => by
    cases d with
    | int i =>
      cases d2 with
      | int j => cases r1; cases r2; exact ⟨i, j, rfl, rfl, q2 M2 (i, j) H2 .refl S2 rfl⟩
      | _ => exact q2.elim
    | _ => exact q2.elim⟩⟩⟩
def nListRg (k : EvR) : EvL := fun env st => (k env st).bind fun p st1 => if rgOk p.1 p.2 then .ok (rgD p.1 p.2) st1 else .no
def eTupRg (k : EvR) : Ev := fun env st => (k env st).bind fun p st1 => if rgOk p.1 p.2 then .ok (.tup (rgD p.1 p.2)) st1 else .no
theorem dn_listRg (hc : X.calm = true) (hg : Gl X "list") (hm : X.mg "list" = none) (he : DR X W E e k) (na : starEach [e] X.env = (false, eval e X.env) :: starEach [] X.env := by rfl) : DN X W E (.Call (.Name "list" p) [e] [] pos) (nListRg k) := by
  obtain ⟨t, pt, ht⟩ := he
  refine PEmono (pe_listRg hc hg hm pt na) fun σ H Q ⟨M, env, st, S, q⟩ => ht σ H _ ⟨M, env, st, S, Fin.bind q fun p st1 M1 p' H1 T1 S1 e1 q1 => ?_⟩
  cases e1
  by_cases ok : rgOk p.1 p.2 = true
  · rw [if_pos ok] at q1
    exact ⟨rgOk_ok ok, fun z hz => q1 M1 _ H1 .refl S1 (rep_rg _ _) z hz⟩
  · rw [if_neg ok] at q1; exact q1.elim
theorem de_tupRg (hc : X.calm = true) (hg : Gl X "tuple") (hm : X.mg "tuple" = none) (he : DR X W E e k) (na : starEach [e] X.env = (false, eval e X.env) :: starEach [] X.env := by rfl) : DE X W E (.Call (.Name "tuple" p) [e] [] pos) (eTupRg k) := by
  obtain ⟨t, pt, ht⟩ := he
  refine PEmono (pe_tupRg hc hg hm pt na) fun σ H Q ⟨M, env, st, S, q⟩ => ht σ H _ ⟨M, env, st, S, Fin.bind q fun p st1 M1 p' H1 T1 S1 e1 q1 => ?_⟩
  cases e1
  by_cases ok : rgOk p.1 p.2 = true
  · rw [if_pos ok] at q1
    exact ⟨rgOk_ok ok, q1.tup S1 (rep_rg _ _)⟩
  · rw [if_neg ok] at q1; exact q1.elim
end
/-! ### sum, abs, int -/
def allInt : List D → Option (List Int)
  | [] => some []
  | .int i :: ds => (allInt ds).map (i :: ·)
  | _ => none
theorem allInt_rep {W : Wd} {M : MW} {H : Hp} : ∀ {ds : List D} {vs : List V} {ns : List Int}, Reps W M H ds vs → allInt ds = some ns → vs = ns.map V.int
  | _, _, _, .nil, e => by simp [allInt] at e; subst e; rfl
  | _, _, ns, .cons (d := d) h r, e => by
    cases d with
    | int i =>
      cases h
      simp only [allInt, Option.map_eq_some_iff] at e
      obtain ⟨ms, e1, rfl⟩ := e
      rw [allInt_rep r e1]
      rfl
    | _ => simp [allInt] at e
def opSum (st : Store) (as : List D) : Option D := match as with
  | [x] => match deref st x with
    | .lst ds => (allInt ds).map fun ns => .int ns.sum
    | _ => none
  | _ => none
theorem cd_sum {W : Wd} {K : PySem.W.Frag} : CallD W (rSum K) opSum := by
  intro E M σ H env st as vs Q S rs h
  match as, rs, h with
  | [x], .cons r .nil, h =>
    simp only [opSum] at h
    cases e : deref st x with
    | lst ds =>
      rw [e] at h
      obtain ⟨p, ys, rfl, rr, rd⟩ := rep_lst S.s r e
      cases e2 : allInt ds with
      | none => simp only [e2] at h; exact h.elim
      | some ns =>
        simp only [e2] at h
        refine ⟨p, ns, rfl, ?_, h.give S (.int _)⟩
        rw [← allInt_rep rr e2]
        exact .inl rd
    | _ => rw [e] at h; exact h.elim
  | [], _, h => exact h.elim
  | _ :: _ :: _, _, h => exact h.elim
def opAbs (_ : Store) (as : List D) : Option D := match as with
  | [.int i] => some (.int (if i < 0 then -i else i))
  | _ => none
theorem cd_abs {W : Wd} : CallD W (fun xs H Q => ∃ i, xs = [.int i] ∧ Q (.int (if i < 0 then -i else i)) H) opAbs := by
  intro E M σ H env st as vs Q S rs h
  match as, rs, h with
  | [.int i], .cons (.int _) .nil, h => exact ⟨i, rfl, h.give S (.int _)⟩
  | [.non], _, h => exact h.elim
  | [.bl _], _, h => exact h.elim
  | [.str _], _, h => exact h.elim
  | [.tup _], _, h => exact h.elim
  | [.lst _], _, h => exact h.elim
  | [.ref _], _, h => exact h.elim
  | [.fn _], _, h => exact h.elim
  | [.rng _ _], _, h => exact h.elim
  | [], _, h => exact h.elim
  | x :: _ :: _, _, h => cases x <;> exact h.elim
def opInt (_ : Store) (as : List D) : Option D := match as with
  | [.int i] => some (.int i)
  | _ => none
theorem cd_int {W : Wd} : CallD W (fun xs H Q => (∃ i, xs = [.int i] ∧ Q (.int i) H) ∨ ∃ k, xs = [.bl k] ∧ Q (.int (if k then 1 else 0)) H) opInt := by
  intro E M σ H env st as vs Q S rs h
  match as, rs, h with
  | [.int i], .cons (.int _) .nil, h => exact .inl ⟨i, rfl, h.give S (.int _)⟩
  | [.non], _, h => exact h.elim
  | [.bl _], _, h => exact h.elim
  | [.str _], _, h => exact h.elim
  | [.tup _], _, h => exact h.elim
  | [.lst _], _, h => exact h.elim
  | [.ref _], _, h => exact h.elim
  | [.fn _], _, h => exact h.elim
  | [.rng _ _], _, h => exact h.elim
  | [], _, h => exact h.elim
  | x :: _ :: _, _, h => cases x <;> exact h.elim
end DL

set_option Elab.async false
set_option linter.all false
set_option maxRecDepth 100000
set_option maxHeartbeats 4000000
/-! DL11: sorted, repr. -/
namespace DL
open PySem PySem.Spec PyProof.Rows L2
/-! ### a sort that the kernel can run -/
section
variable {α : Type}
def ins (le : α → α → Bool) (x : α) : List α → List α
  | [] => [x]
  | y :: ys => if le x y then x :: y :: ys else y :: ins le x ys
def isort (le : α → α → Bool) : List α → List α
  | [] => []
  | x :: xs => ins le x (isort le xs)
theorem ins_mem {le : α → α → Bool} {x z : α} : ∀ {ys : List α}, z ∈ ins le x ys ↔ z = x ∨ z ∈ ys
  | [] => by simp [ins]
  | y :: ys => by
    unfold ins
    split
    · simp
    · rw [List.mem_cons, ins_mem, List.mem_cons]
      constructor
      · rintro (h | h | h) <;> simp [h]
      · rintro (h | h | h) <;> simp [h]
theorem isort_mem {le : α → α → Bool} {z : α} : ∀ {xs : List α}, z ∈ isort le xs ↔ z ∈ xs
  | [] => Iff.rfl
  | x :: xs => by
    show z ∈ ins le x (isort le xs) ↔ _
    rw [ins_mem, isort_mem, List.mem_cons]
theorem ins_length {le : α → α → Bool} {x : α} : ∀ {ys : List α}, (ins le x ys).length = ys.length + 1
  | [] => rfl
  | y :: ys => by
    unfold ins
    split
    · rfl
    · rw [List.length_cons, ins_length, List.length_cons]
theorem isort_length {le : α → α → Bool} : ∀ {xs : List α}, (isort le xs).length = xs.length
  | [] => rfl
  | x :: xs => by
    show (ins le x (isort le xs)).length = _
    rw [ins_length, isort_length, List.length_cons]
theorem ins_sorted {le : α → α → Bool} (T : PySem.W.TotalLe le) {x : α} : ∀ {ys : List α}, ys.Pairwise (fun a b => le a b = true) → (ins le x ys).Pairwise fun a b => le a b = true
  | [], _ => by simp [ins]
  | y :: ys, h => by
    unfold ins
    rw [List.pairwise_cons] at h
    split
    · rename_i l
      rw [List.pairwise_cons]
      refine ⟨fun z hz => ?_, List.pairwise_cons.mpr h⟩
      rcases List.mem_cons.mp hz with e | hz
      · rw [e]; exact l
      · exact T.trans _ _ _ l (h.1 z hz)
    · rename_i l
      rw [List.pairwise_cons]
      refine ⟨fun z hz => ?_, ins_sorted T h.2⟩
      rcases ins_mem.mp hz with e | hz
      · rw [e]
        exact (T.total x y).elim (fun q => absurd q l) id
      · exact h.1 z hz
theorem isort_sorted {le : α → α → Bool} (T : PySem.W.TotalLe le) : ∀ {xs : List α}, (isort le xs).Pairwise fun a b => le a b = true
  | [] => List.Pairwise.nil
  | _ :: _ => ins_sorted T (isort_sorted T)
theorem ins_filter {le : α → α → Bool} (T : PySem.W.TotalLe le) {x c : α} : ∀ {ys : List α}, (ins le x ys).filter (PySem.W.sameRank le c) = (x :: ys).filter (PySem.W.sameRank le c)
  | [] => rfl
  | y :: ys => by
    unfold ins
    split
    · rfl
    · rename_i l
      rw [List.filter_cons (x := y), ins_filter T]
      by_cases hx : PySem.W.sameRank le c x = true
      · have hy : ¬ PySem.W.sameRank le c y = true := fun hy => by
          simp only [PySem.W.sameRank, Bool.and_eq_true] at hx hy
          exact l (T.trans _ _ _ hx.2 hy.1)
        rw [if_neg hy, List.filter_cons, if_pos hx, List.filter_cons, if_pos hx, List.filter_cons, if_neg hy]
      · rw [List.filter_cons, if_neg hx, List.filter_cons (x := x), if_neg hx, List.filter_cons (x := y)]
theorem isort_filter {le : α → α → Bool} (T : PySem.W.TotalLe le) {c : α} : ∀ {xs : List α}, (isort le xs).filter (PySem.W.sameRank le c) = xs.filter (PySem.W.sameRank le c)
  | [] => rfl
  | x :: xs => by
    show (ins le x (isort le xs)).filter _ = _
    rw [ins_filter T, List.filter_cons, isort_filter T, List.filter_cons]
theorem isort_eq {le : α → α → Bool} (T : PySem.W.TotalLe le) (xs : List α) : isort le xs = xs.mergeSort le :=
  PySem.W.sort_unique T (isort_sorted T) fun c => isort_filter T
theorem ins_congr {le le' : α → α → Bool} {x : α} : ∀ {ys : List α}, (∀ y ∈ ys, le x y = le' x y) → ins le x ys = ins le' x ys
  | [], _ => rfl
  | y :: ys, h => by
    unfold ins
    rw [h y (List.mem_cons_self ..), ins_congr fun z hz => h z (List.mem_cons_of_mem _ hz)]
theorem isort_congr {le le' : α → α → Bool} : ∀ {xs : List α}, (∀ a ∈ xs, ∀ b ∈ xs, le a b = le' a b) → isort le xs = isort le' xs
  | [], _ => rfl
  | x :: xs, h => by
    show ins le x (isort le xs) = ins le' x (isort le' xs)
    rw [isort_congr fun a ha b hb => h a (List.mem_cons_of_mem _ ha) b (List.mem_cons_of_mem _ hb)]
    exact ins_congr fun y hy => h x (List.mem_cons_self ..) y (List.mem_cons_of_mem _ (isort_mem.mp hy))
end
def dle (a b : D) : Bool := !dlt b a
def isTup : D → Bool
  | .tup (_ :: _) => true
  | _ => false
def noTup : D → Bool
  | .tup _ => false
  | .non => false
  | _ => true
/-- each comparable with each, of one kind -/
def sortOk (ds : List D) : Bool := (ds.all fun a => fit a 40 && ds.all fun b => alk a b) && (ds.all isTup || ds.all noTup)
theorem toPs_map : ∀ ds : List D, toPs ds = ds.map toP
  | [] => rfl
  | d :: ds => by
    show toP d :: toPs ds = toP d :: ds.map toP
    rw [toPs_map ds]
theorem sortOk_fit {ds : List D} (h : sortOk ds = true) {d : D} (m : d ∈ ds) : fit d 40 = true ∧ ∀ e ∈ ds, alk d e = true := by
  simp only [sortOk, Bool.and_eq_true, List.all_eq_true] at h
  exact h.1 d m
section
variable {β : Type} {enc : β → D} {bs : List β}
theorem sortOk_alike (h : sortOk (bs.map enc) = true) : PySem.W.AllAlike (bs.map fun b => toP (enc b)) := by
  intro x hx y hy
  obtain ⟨a, ha, rfl⟩ := List.mem_map.mp hx
  obtain ⟨b, hb, rfl⟩ := List.mem_map.mp hy
  exact alike_toP _ _ ((sortOk_fit h (List.mem_map_of_mem ha)).2 _ (List.mem_map_of_mem hb))
theorem sortOk_sortable (h : sortOk (bs.map enc) = true) : PySem.W.Sortable (bs.map fun b => toP (enc b)) := by
  have q := h
  simp only [sortOk, Bool.and_eq_true, Bool.or_eq_true] at q
  rcases q.2 with q | q
  · refine .inl fun x hx => ?_
    obtain ⟨a, ha, rfl⟩ := List.mem_map.mp hx
    have t := List.all_eq_true.mp q _ (List.mem_map_of_mem ha)
    cases e : enc a with
    | tup xs =>
      rw [e] at t
      cases xs with
      | nil => cases t
      | cons y ys => exact ⟨toP y, toPs ys, rfl⟩
    | _ => rw [e] at t; cases t
  · refine .inr fun x hx => ?_
    obtain ⟨a, ha, rfl⟩ := List.mem_map.mp hx
    have t := List.all_eq_true.mp q _ (List.mem_map_of_mem ha)
    have f := (sortOk_fit h (List.mem_map_of_mem ha)).1
    cases e : enc a <;> rw [e] at t f <;> simp_all [noTup, toP, fit]
end
def rSortA (K : PySem.W.Frag) : List V → Hp → VK → Prop := fun vs H Q => ∃ (a : Addr) (ys : List V) (ds : List D) (RR : D → V → Prop), vs = [.ref a] ∧ SqL K H a ys ∧ ds.length ≤ sizeLine ∧ Paired RR ds ys ∧ (∀ d y, RR d y → fit d 40 = true → Dp K H y (toP d)) ∧ sortOk ds = true ∧
  ∀ ys' p, Paired RR (isort dle ds) ys' → H p = none → Q (.ref p) (upd H p (.lst ys'))
theorem paired_zip {α β : Type} {F : α → β → Prop} : ∀ {as : List α} {bs : List β}, Paired F as bs → ∀ p ∈ as.zip bs, F p.1 p.2
  | _, _, .nil, p, h => by simp at h
  | _, _, .cons r t, p, h => by
    rw [List.zip_cons_cons] at h
    rcases List.mem_cons.mp h with e | h
    · rw [e]; exact r
    · exact paired_zip t p h
theorem paired_map {α β : Type} {F : α → β → Prop} : ∀ {l : List (α × β)}, (∀ p ∈ l, F p.1 p.2) → Paired F (l.map (·.1)) (l.map (·.2))
  | [], _ => .nil
  | p :: l, h => .cons (h p (List.mem_cons_self ..)) (paired_map fun q hq => h q (List.mem_cons_of_mem _ hq))
theorem zip_fst {α β : Type} : ∀ {as : List α} {bs : List β}, as.length = bs.length → (as.zip bs).map (·.1) = as
  | [], _, _ => rfl
  | a :: as, b :: bs, h => by
    rw [List.zip_cons_cons, List.map_cons, zip_fst (by simpa using h)]
theorem each_zip {RV : V → Value → Prop} : ∀ {ds : List D} {ys : List V} {us : List Value}, ds.length = ys.length → Paired RV ys us → PySem.W.EachIs (fun (u : Value) (b : D × V) => RV b.2 u) us (ds.zip ys)
  | [], [], _, _, .nil => .nil
  | d :: ds, y :: ys, _, h, .cons r t => .cons r (each_zip (by simpa using h) t)
theorem each_vals : ∀ {us : List Value} {bs : List (D × V)}, PySem.W.EachIs (fun (u : Value) (b : D × V) => RelV b.2 u) us bs → Vals (bs.map (·.2)) us
  | _, _, .nil => .nil
  | _, _, .cons r t => .cons r (each_vals t)
theorem each_imp {R R' : Value → (D × V) → Prop} : ∀ {us : List Value} {bs : List (D × V)}, PySem.W.EachIs R us bs → (∀ u b, b ∈ bs → R u b → R' u b) → PySem.W.EachIs R' us bs
  | _, _, .nil, _ => .nil
  | _, _, .cons r t, h => .cons (h _ _ (List.mem_cons_self ..) r) (each_imp t fun u b hb => h u b (List.mem_cons_of_mem _ hb))
theorem dataLe_total : PySem.W.TotalLe (PySem.W.dataLe false (fun b : D × V => toP b.1)) := PySem.W.sortLe_total _ _ _
theorem cr_sortA {X : Cx} (hu : X.A.units + 64 < cLine) : CallR X (.builtin "sorted") (rSortA X.K) := by
  rintro pins s σ H vs us Q I r ⟨a, ys, ds, RR, rfl, hs, hz, pr, hdp, ok, q⟩
  obtain ⟨its, rv, hl, _⟩ := I.list hs
  rw [Vals.ref1 r]
  have len : ds.length = ys.length := Paired.length pr
  have e1 : (ds.zip ys).map (fun b => b.1) = ds := zip_fst len
  have ok' : sortOk ((ds.zip ys).map (fun b => b.1)) = true := by rw [e1]; exact ok
  have ez := each_zip (RV := RelV) len rv
  have fitz : ∀ b ∈ ds.zip ys, fit b.1 40 = true := fun b hb => (sortOk_fit ok (by rw [← e1]; exact List.mem_map_of_mem hb)).1
  refine PySem.W.sorted_data (R := fun u b => RelV b.2 u) (enc := fun b : D × V => toP b.1) (bs := ds.zip ys) hl.isList ez (each_imp ez fun u b hb ru => ?_) (sortOk_alike (enc := fun b : D × V => b.1) ok') (sortOk_sortable (enc := fun b : D × V => b.1) ok') ?_ (fun b hb => ?_) fun out h1 h2 => ?_
  · obtain ⟨as, rr⟩ := Dp.reads I _ _ _ (hdp b.1 b.2 (paired_zip pr b hb) (fitz b hb)) ru
    exact ⟨as, rr⟩
  · rw [List.length_zip, len, Nat.min_self, ← len]; exact hz
  · have := (plain_toP b.1 40 (fitz b hb)).2
    omega
  · obtain ⟨ep, he'⟩ := PyProof.Rows.sortedAll_at s.heap its out.toArray
    have es : (ds.zip ys).mergeSort (PySem.W.dataLe false (fun b : D × V => toP b.1)) = isort (fun a b : D × V => dle a.1 b.1) (ds.zip ys) := by
      rw [← isort_eq dataLe_total]
      refine isort_congr fun a ha b hb => ?_
      rw [PySem.W.dataLe_eq]
      show (!PySem.W.dataLt (toP b.1) (toP a.1)) = !dlt b.1 a.1
      have ma : a.1 ∈ ds := by rw [← e1]; exact List.mem_map_of_mem ha
      have mb : b.1 ∈ ds := by rw [← e1]; exact List.mem_map_of_mem hb
      rw [dataLt_toP _ _ 40 40 (fitz b hb) (fitz a ha) ((sortOk_fit ok mb).2 _ ma)]
    rw [es] at h2
    have ef : (isort (fun a b : D × V => dle a.1 b.1) (ds.zip ys)).map (·.1) = isort dle ds := by
      have gen : ∀ l : List (D × V), (isort (fun a b : D × V => dle a.1 b.1) l).map (·.1) = isort dle (l.map (·.1)) := by
        intro l
        induction l with
        | nil => rfl
        | cons x l ih =>
          show (ins _ x (isort _ l)).map (·.1) = ins dle x.1 (isort dle (l.map (·.1)))
          rw [← ih]
          generalize isort (fun a b : D × V => dle a.1 b.1) l = m
          induction m with
          | nil => rfl
          | cons y m ih2 =>
            unfold ins
            rw [List.map_cons]
            by_cases h : dle x.1 y.1 = true
            · rw [if_pos h]
              show x.1 :: y.1 :: m.map (·.1) = if dle x.1 y.1 = true then _ else _
              rw [if_pos h]
            · rw [if_neg h, List.map_cons, ih2]
              show y.1 :: ins dle x.1 (m.map (·.1)) = if dle x.1 y.1 = true then _ else _
              rw [if_neg h]
      rw [gen, e1]
    have vv := each_vals h2
    have pp : Paired RR (isort dle ds) ((isort (fun a b : D × V => dle a.1 b.1) (ds.zip ys)).map (·.2)) := by
      rw [← ef]
      exact paired_map fun p hp => paired_zip pr p (isort_mem.mp hp)
    refine ⟨.ref _, upd H (s.heap.objs.size + 1) (.lst ((isort (fun a b : D × V => dle a.1 b.1) (ds.zip ys)).map (·.2))), I.laid (t' := s.toks) (fun _ _ => PyProof.Rows.sortedAll_old) (Nat.le_succ _) ⟨?_, out, ep, vv, by simpa using he'⟩, rfl, q _ _ pp (I.hok.fresh (Nat.le_succ _))⟩
    rw [List.length_map, isort_length, List.length_zip, ← len, Nat.min_self]
    exact hz
def opSorted (st : Store) (as : List D) : Option (List D) := match as with
  | [x] => match deref st x with
    | .lst ds => if sortOk ds && sOk ds.length then some (isort dle ds) else none
    | _ => none
  | _ => none
theorem reps_paired {W : Wd} {M : MW} {H : Hp} : ∀ {ds : List D} {vs : List V}, Reps W M H ds vs → Paired (fun d v => Rep W M H d v) ds vs
  | _, _, .nil => .nil
  | _, _, .cons h r => .cons h (reps_paired r)
theorem paired_reps {W : Wd} {M : MW} {H : Hp} : ∀ {ds : List D} {vs : List V}, Paired (fun d v => Rep W M H d v) ds vs → Reps W M H ds vs
  | _, _, .nil => .nil
  | _, _, .cons h r => .cons h (paired_reps r)
theorem cn_sorted {W : Wd} {K : PySem.W.Frag} : CallN W (rSortA K) opSorted := by
  intro E M σ H env st as vs Q S rs h
  match as, rs, h with
  | [x], .cons r .nil, h =>
    simp only [opSorted] at h
    cases e : deref st x with
    | lst ds =>
      rw [e] at h
      simp only at h
      by_cases ok : (sortOk ds && sOk ds.length) = true
      · rw [if_pos ok] at h
        rw [Bool.and_eq_true] at ok
        obtain ⟨p, ys, rfl, rr, rd⟩ := rep_lst S.s r e
        exact ⟨p, ys, ds, fun d y => Rep W M H d y, rfl, .inl rd, sOk_le ok.2, reps_paired rr, fun d y ry f => ry.dp f, ok.1, fun ys' z pz hz => h.give S (paired_reps pz) z hz⟩
      · rw [if_neg ok] at h; exact h.elim
    | _ => rw [e] at h; exact h.elim
  | [], _, h => exact h.elim
  | _ :: _ :: _, _, h => exact h.elim

/-! ### repr -/
mutual
/-- the very same datum -/
def ideq : D → D → Bool
  | .non, y => match y with | .non => true | _ => false
  | .bl a, y => match y with | .bl b => a == b | _ => false
  | .int i, y => match y with | .int j => decide (i = j) | _ => false
  | .str x, y => match y with | .str z => decide (x = z) | _ => false
  | .tup xs, y => match y with | .tup ys => ideqs xs ys | _ => false
  | .lst xs, y => match y with | .lst ys => ideqs xs ys | _ => false
  | .ref _, _ => false
  | .fn _, _ => false
  | .rng _ _, _ => false
def ideqs : List D → List D → Bool
  | [], ys => match ys with | [] => true | _ :: _ => false
  | x :: xs, ys => match ys with | [] => false | y :: ys => ideq x y && ideqs xs ys
end
mutual
theorem ideq_eq : ∀ (a b : D), ideq a b = true → a = b
  | .non, b, h => by cases b <;> simp_all [ideq]
  | .bl x, b, h => by cases b <;> simp_all [ideq]
  | .int x, b, h => by cases b <;> simp_all [ideq]
  | .str x, b, h => by cases b <;> simp_all [ideq]
  | .tup xs, b, h => by
    cases b with
    | tup ys => rw [ideqs_eq xs ys (by simpa [ideq] using h)]
    | _ => simp_all [ideq]
  | .lst xs, b, h => by
    cases b with
    | lst ys => rw [ideqs_eq xs ys (by simpa [ideq] using h)]
    | _ => simp_all [ideq]
  | .ref _, _, h => by simp [ideq] at h
  | .fn _, _, h => by simp [ideq] at h
  | .rng _ _, _, h => by simp [ideq] at h
theorem ideqs_eq : ∀ (a b : List D), ideqs a b = true → a = b
  | [], [], _ => rfl
  | [], _ :: _, h => by simp [ideqs] at h
  | _ :: _, [], h => by simp [ideqs] at h
  | x :: xs, y :: ys, h => by
    simp only [ideqs, Bool.and_eq_true] at h
    rw [ideq_eq x y h.1, ideqs_eq xs ys h.2]
end
mutual
theorem ideq_self : ∀ (a : D) (n : Nat), fit a n = true → ideq a a = true
  | .non, _, _ => rfl
  | .bl x, _, _ => by simp [ideq]
  | .int x, _, _ => by simp [ideq]
  | .str x, _, _ => by simp [ideq]
  | .tup xs, 0, h => by simp [fit] at h
  | .tup xs, n + 1, h => by simp only [ideq]; exact ideqs_self xs n (by simpa [fit] using h)
  | .lst xs, 0, h => by simp [fit] at h
  | .lst xs, n + 1, h => by simp only [ideq]; exact ideqs_self xs n (by simpa [fit] using h)
  | .ref _, _, h => by simp [fit] at h
  | .fn _, _, h => by simp [fit] at h
  | .rng _ _, _, h => by simp [fit] at h
theorem ideqs_self : ∀ (a : List D) (n : Nat), fits a n = true → ideqs a a = true
  | [], _, _ => rfl
  | x :: xs, n, h => by
    simp only [fits, Bool.and_eq_true] at h
    simp only [ideqs, Bool.and_eq_true]
    exact ⟨ideq_self x n h.1, ideqs_self xs n h.2⟩
end
mutual
/-- leaves whose text is short -/
def shortD : D → Bool
  | .non => true
  | .bl _ => true
  | .int i => decide (i.natAbs < 10000000000000000000000000000000000000000)
  | .str x => x.cps.toList.all fun c => decide (c < 256)
  | .tup xs => shortDs xs
  | .lst xs => shortDs xs
  | .ref _ => false
  | .fn _ => false
  | .rng _ _ => false
def shortDs : List D → Bool
  | [] => true
  | x :: xs => shortD x && shortDs xs
end
mutual
def bulkD : D → Nat
  | .str x => x.cps.size
  | .tup xs => bulkDs xs
  | .lst xs => bulkDs xs
  | .non => 0
  | .bl _ => 0
  | .int _ => 0
  | .ref _ => 0
  | .fn _ => 0
  | .rng _ _ => 0
def bulkDs : List D → Nat
  | [] => 0
  | x :: xs => bulkD x + 1 + bulkDs xs
end
theorem ten40 : (10 : Nat) ^ 40 = 10000000000000000000000000000000000000000 := by decide +kernel
mutual
theorem short_toP : ∀ (d : D), shortD d = true → (toP d).leavesShort 41 = true ∧ (toP d).showable = true ∧ (toP d).bulk = bulkD d
  | .non, _ => ⟨rfl, rfl, rfl⟩
  | .bl _, _ => ⟨rfl, rfl, rfl⟩
  | .int i, h => by
    have h : i.natAbs < 10000000000000000000000000000000000000000 := by simpa [shortD] using h
    refine ⟨?_, ?_, rfl⟩
    · show decide ((PyData.shown (.int i)).length ≤ 41) = true
      have z := int_text_length_le10 (a := i) (k := 40) (by decide) (by rw [ten40]; exact h)
      apply decide_eq_true
      show (Str.ofString (toString i)).length ≤ 41
      rw [PySem.ofString_length]
      exact z
    · show decide (i.natAbs.log2 < 1920) = true
      apply decide_eq_true
      by_cases z : i.natAbs = 0
      · rw [z]; decide
      · rw [Nat.log2_lt z]
        refine Nat.lt_trans h ?_
        decide +kernel
  | .str x, h => by
    refine ⟨?_, rfl, rfl⟩
    show (x.cps.toList.all fun c => decide (c < 16 ^ 8)) = true
    have h : (x.cps.toList.all fun c => decide (c < 256)) = true := by simpa only [shortD] using h
    rw [List.all_eq_true] at h ⊢
    intro c hc
    have q := of_decide_eq_true (h c hc)
    exact decide_eq_true (Nat.lt_trans q (by decide))
  | .tup xs, h => by
    have q := short_toPs xs (by simpa [shortD] using h)
    exact q
  | .lst xs, h => by
    have q := short_toPs xs (by simpa [shortD] using h)
    exact q
  | .ref _, h => by simp [shortD] at h
  | .fn _, h => by simp [shortD] at h
  | .rng _ _, h => by simp [shortD] at h
theorem short_toPs : ∀ (ds : List D), shortDs ds = true → PyData.leavesShortAll 41 (toPs ds) = true ∧ PyData.showableAll (toPs ds) = true ∧ PyData.bulkAll (toPs ds) = bulkDs ds
  | [], _ => ⟨rfl, rfl, rfl⟩
  | d :: ds, h => by
    simp only [shortDs, Bool.and_eq_true] at h
    have q := short_toP d h.1
    have r := short_toPs ds h.2
    refine ⟨?_, ?_, ?_⟩
    · show (PyData.leavesShort 41 (toP d) && PyData.leavesShortAll 41 (toPs ds)) = true
      rw [q.1, r.1]; rfl
    · show (PyData.showable (toP d) && PyData.showableAll (toPs ds)) = true
      rw [q.2.1, r.2.1]; rfl
    · show PyData.bulk (toP d) + 1 + PyData.bulkAll (toPs ds) = bulkD d + 1 + bulkDs ds
      rw [q.2.2, r.2.2]
end
def reprOk (d : D) : Bool := fit d 40 && shortD d && Nat.ble (bulkD d) 300000
theorem noDict_plain : ∀ (d : D) (n : Nat), fit d n = true → (toP d).hasDict = false := by
  have gen : ∀ n, (∀ d : D, fit d n = true → (toP d).hasDict = false) → ∀ ds : List D, fits ds n = true → PyData.hasDictAll (toPs ds) = false := by
    intro n ih ds
    induction ds with
    | nil => intro _; rfl
    | cons d ds ihd =>
      intro h
      simp only [fits, Bool.and_eq_true] at h
      show (PyData.hasDict (toP d) || PyData.hasDictAll (toPs ds)) = false
      rw [ih d h.1, ihd h.2]
      rfl
  intro d n
  induction n generalizing d with
  | zero => intro h; cases d <;> simp_all [fit, toP, PyData.hasDict]
  | succ n ih =>
    intro h
    cases d with
    | tup xs => exact gen n (fun d => ih d) xs (by simpa [fit] using h)
    | lst xs => exact gen n (fun d => ih d) xs (by simpa [fit] using h)
    | _ => simp_all [fit, toP, PyData.hasDict]
def rReprA (K : PySem.W.Frag) : List V → Hp → VK → Prop := fun xs H Q => ∃ x d, xs = [x] ∧ Dp K H x d ∧ (d.showable = true ∧ d.hasDict = false ∧ d.depth ≤ 40 ∧ d.shown.length ≤ sizeLine) ∧ Q (.str d.shown) H
theorem cr_repr {X : Cx} (hg : X.A.guards = some []) (hu : X.A.units + 64 < cLine) : CallR X (.builtin "repr") (rReprA X.K) := by
  rintro pins s σ H vs us Q I r ⟨x, d, rfl, hd, ⟨p1, p2, p3, p4⟩, q⟩
  obtain ⟨u, rfl, ru⟩ := vals1 r
  cases hd with
  | non => cases ru; exact P.repr_of_none ⟨.str "None", H, I.tok _, ⟨_, rfl⟩, q⟩
  | bl b =>
    cases ru
    cases b with
    | false => exact P.repr_of_bool ⟨.str "False", H, I.tok _, ⟨_, rfl⟩, q⟩
    | true => exact P.repr_of_bool ⟨.str "True", H, I.tok _, ⟨_, rfl⟩, q⟩
  | int i => obtain ⟨t, rfl⟩ := ru; exact P.repr_of_int (of_decide_eq_true p1) ⟨.str (toString i), H, I.tok _, ⟨_, rfl⟩, q⟩
  | str z => obtain ⟨t, rfl⟩ := ru; exact P.repr_of_str ⟨.str (reprText z), H, I.tok _, ⟨_, rfl⟩, q⟩ p4
  | lst h1 h2 =>
    obtain ⟨as, rr⟩ := Dp.reads I _ _ _ (.lst h1 h2) ru
    cases ru
    exact repr_of_reads' rr p1 (fun z => by rw [p2] at z; cases z) hg (by omega) (fun _ _ z => z) (fun h' u tk k => ⟨.str _, H, I.kept k, ⟨_, rfl⟩, q⟩) p4
  | tup h1 h2 =>
    obtain ⟨as, rr⟩ := Dp.reads I _ _ _ (.tup h1 h2) ru
    cases ru
    exact repr_of_reads' rr p1 (fun z => by rw [p2] at z; cases z) hg (by omega) (fun _ _ z => z) (fun h' u tk k => ⟨.str _, H, I.kept k, ⟨_, rfl⟩, q⟩) p4
theorem reprOk_toP {d : D} (h : reprOk d = true) : fit d 40 = true ∧ ((toP d).showable = true ∧ (toP d).hasDict = false ∧ (toP d).depth ≤ 40 ∧ (toP d).shown.length ≤ sizeLine) := by
  simp only [reprOk, Bool.and_eq_true] at h
  obtain ⟨⟨h1, h2⟩, h3⟩ := h
  have q := short_toP d h2
  refine ⟨h1, q.2.1, noDict_plain d 40 h1, (plain_toP d 40 h1).2, ?_⟩
  have b := PyData.shown_le_bulk 41 (by decide) (toP d) q.1
  rw [q.2.2] at b
  have b2 := Nat.le_of_ble_eq_true h3
  rw [sizeLine_eq]
  omega
/-- repr(a) == repr(b), where they are the same -/
def eLike (f g : Ev) : Ev := fun env st => (f env st).bind fun a st1 => if reprOk (deref st1 a) then (g env st1).bind fun b st2 => if ideq (deref st1 a) (deref st2 b) then .ok (.bl true) st2 else .no else .no
section
variable {X : Cx} {W : Wd} {E : XK} {a b : Expr} {f g : Ev} {p1 p2 q1 q2 pos : Pos}
theorem de_like (hA : X.A.guards = some []) (hu : X.A.units + 64 < cLine) (hg : Gl X "repr") (hm : X.mg "repr" = none) (ha : DE X W E a f) (hb : DE X W E b g)
    (s1 : starEach [a] X.env = (false, eval a X.env) :: starEach [] X.env := by rfl) (s2 : starEach [b] X.env = (false, eval b X.env) :: starEach [] X.env := by rfl)
    (l1 : (backTo q1 (starEach [] X.env)).any (·.1) = false := by rfl) (l2 : (backTo q2 (starEach [] X.env)).any (·.1) = false := by rfl) :
    DE X W E (.Compare (.Call (.Name "repr" p1) [a] [] q1) [.Eq] [.Call (.Name "repr" p2) [b] [] q2] pos) (eLike f g) :=
  PEmono (pe_cmpR op_eq (pe_callB (cr_repr hA hu) hg hm (by decide +kernel) (pa_cons ha pa_nil s1) (by decide) (by decide) s1 l1) (pe_callB (cr_repr hA hu) hg hm (by decide +kernel) (pa_cons hb pa_nil s2) (by decide) (by decide) s2 l2) (nomark _)) fun σ H Q ⟨M, env, st, S, q⟩ =>
    ⟨M, env, st, S, Fin.bind q fun d st1 M1 x H1 T1 S1 r1 z1 => by
      by_cases ok : reprOk (deref st1 d) = true
      · rw [if_pos ok] at z1
        obtain ⟨f1, f2⟩ := reprOk_toP ok
        refine ⟨x, _, rfl, rep_dp S1.s r1 f1, f2, M1, env, st1, S1, Fin.bind z1 fun e st2 M2 y H2 T2 S2 r2 z2 => ?_⟩
        by_cases id : ideq (deref st1 d) (deref st2 e) = true
        · rw [if_pos id] at z2
          have ee := ideq_eq _ _ id
          have f3 : fit (deref st2 e) 40 = true := by rw [← ee]; exact f1
          refine ⟨y, _, rfl, rep_dp S2.s r2 f3, by rw [← ee]; exact f2, rfl, ?_⟩
          rw [← ee, decide_eq_true rfl]
          exact z2.give S2 (.bl true)
        · rw [if_neg id] at z2
          exact z2.elim
      · rw [if_neg ok] at z1
        exact z1.elim⟩
end
end DL

set_option Elab.async false
set_option linter.all false
set_option maxRecDepth 100000
set_option maxHeartbeats 4000000
/-! DL12: targets, what is walked, comprehensions. -/
namespace DL
open PySem PySem.Spec PyProof.Rows L2
/-! ### targets -/
abbrev TgD := D → Ent → Option Ent
def tgN (i : Nat) : TgD := fun d env => some (env.set i (some d))
def setAll : List Nat → List D → Ent → Option Ent
  | [], [], env => some env
  | i :: is, d :: ds, env => setAll is ds (env.set i (some d))
  | _, _, _ => none
def tgT (is : List Nat) : TgD := fun d env => match d with
  | .tup ds => setAll is ds env
  | _ => none
def DG (X : Cx) (W : Wd) (tg : Expr) (T : TgD) (is : List Nat) : Prop :=
  ∃ t : TG, PG X tg t ∧ ∀ (M : MW) (σ : L2.St) (H : Hp) (env env' : Ent) (st : Store) (d : D) (v : V) (Q : L2.St → Hp → Prop), Sim W M σ H env st → Rep W M H d v → T d env = some env' →
    (∀ σ', Sim W M σ' H env' st → (∀ ws, (∀ i ∈ is, i ∈ ws) → wipe σ' ws = wipe σ ws) → Q σ' H) → t v σ H Q
def DGs (X : Cx) (W : Wd) (tgs : List Expr) (is : List Nat) : Prop :=
  ∃ t : TGs, PGs X tgs t ∧ tgs.length = is.length ∧ ∀ (M : MW) (σ : L2.St) (H : Hp) (env env' : Ent) (st : Store) (ds : List D) (vs : List V) (Q : L2.St → Hp → Prop), Sim W M σ H env st → Reps W M H ds vs → setAll is ds env = some env' →
    (∀ σ', Sim W M σ' H env' st → (∀ ws, (∀ i ∈ is, i ∈ ws) → wipe σ' ws = wipe σ ws) → Q σ' H) → t vs σ H Q
theorem wipe_in {σ : L2.St} {i : Nat} : ∀ {ws : List Nat}, i ∈ ws → (wipe σ ws)[i]? = if i < σ.length then some none else none
  | w :: ws, h => by
    unfold wipe
    by_cases e : w = i
    · subst e
      by_cases l : w < σ.length
      · rw [if_pos l, List.getElem?_set_self (by rw [wipe_length]; exact l)]
      · rw [if_neg l, List.getElem?_eq_none (by rw [List.length_set, wipe_length]; omega)]
    · rw [List.getElem?_set_ne e]
      exact wipe_in ((List.mem_cons.mp h).resolve_left fun z => e z.symm)
theorem wipe_set {σ : L2.St} {i : Nat} {x : Option V} {ws : List Nat} (h : i ∈ ws) : wipe (σ.set i x) ws = wipe σ ws := by
  apply List.ext_getElem?
  intro j
  by_cases m : j ∈ ws
  · rw [wipe_in m, wipe_in m, List.length_set]
  · rw [wipe_out m, wipe_out m, List.getElem?_set_ne]
    rintro rfl
    exact m h
section
variable {X : Cx} {W : Wd} {pos : Pos}
theorem dg_name {i : Nat} {x : PySem.Str} (hN : X.N.Nodup) (hi : X.N[i]? = some x := by rfl) (hx : Loc X.env.scope x := by first | exact .inl rfl | exact .inr rfl) (hf : X.fn x = true ∨ X.env.scope.names.lookup x = some .local := by first | exact .inl rfl | exact .inr rfl) : DG X W (.Name x pos) (tgN i) [i] :=
  ⟨_, pg_name hN hi hx hf, fun M σ H env env' st d v Q S r e q => by
    cases e
    exact q _ (S.set r) fun ws h => wipe_set (h i (List.mem_singleton.mpr rfl))⟩
theorem dgs_nil : DGs X W [] [] := ⟨_, pgs_nil, rfl, fun M σ H env env' st ds vs Q S r e q => by
  cases r with
  | nil => cases e; exact ⟨rfl, q σ S fun _ _ => rfl⟩
  | cons _ _ => cases e⟩
theorem dgs_cons {i : Nat} {x : PySem.Str} {es : List Expr} {is : List Nat} (h1 : DG X W (.Name x pos) (tgN i) [i]) (h2 : DGs X W es is)
    (hs : (assignEach (.Name x pos :: es) X.env).map (·.2) = assign (.Name x pos) X.env :: (assignEach es X.env).map (·.2) := by rfl) : DGs X W (.Name x pos :: es) (i :: is) := by
  obtain ⟨t, pt, ht⟩ := h1
  obtain ⟨u, pu, lu, hu⟩ := h2
  refine ⟨_, pgs_cons pt pu hs, by simp [lu], fun M σ H env env' st ds vs Q S r e q => ?_⟩
  cases r with
  | nil => cases e
  | cons r1 rs =>
    refine ⟨_, _, rfl, ht M σ H env _ st _ _ _ S r1 rfl fun σ1 S1 w1 => ?_⟩
    refine hu M σ1 H _ env' st _ _ Q S1 rs e fun σ2 S2 w2 => q σ2 S2 fun ws hw => ?_
    rw [w2 ws fun j hj => hw j (List.mem_cons_of_mem _ hj), w1 ws fun j hj => hw j (by rw [List.mem_singleton.mp hj]; exact List.mem_cons_self ..)]
theorem dg_tup {es : List Expr} {k : Nat} {is : List Nat} (hc : X.calm = true) (h : DGs X W es is) (hn : (assignEach es X.env).length = es.length := by rfl) (hst : (assignEach es X.env).findIdx? (·.1) = none := by rfl) : DG X W (.Tuple es k pos) (tgT is) is := by
  obtain ⟨t, pt, lt, ht⟩ := h
  refine ⟨_, pg_tup (n := es.length) hc pt hn hst, fun M σ H env env' st d v Q S r e q => ?_⟩
  cases r with
  | tup h1 r1 =>
    refine ⟨_, _, rfl, .inl (.inl h1), ?_, ht M σ H env env' st _ _ Q S r1 e q⟩
    have gen : ∀ (is : List Nat) (ds : List D) (env : Ent), setAll is ds env = some env' → ds.length = is.length := by
      intro is
      induction is with
      | nil => intro ds env h; cases ds with
        | nil => rfl
        | cons _ _ => cases h
      | cons i is ih => intro ds env h; cases ds with
        | nil => cases h
        | cons d ds => rw [List.length_cons, List.length_cons, ih ds _ h]
    rw [← r1.length, gen is _ env e, ← lt]
  | _ => cases e
end
/-! ### what is walked -/
inductive Src where
  | vals (ds : List D)
  | cell (n : Nat)
def Src.get (src : Src) (st : Store) : Option (List D) := match src with
  | .vals ds => some ds
  | .cell n => match st[n]? with
    | some (.lst ds) => some ds
    | _ => none
abbrev EvS := Ent → Store → R Src
def ItOk (W : Wd) (M : MW) (H : Hp) (src : Src) (J : It) : Prop :=
  ∀ (i : Nat) (M' : MW) (H' : Hp) (st : Store) (ds : List D), Stp M H M' H' → SimS W M' H' st → src.get st = some ds →
    (i < ds.length → J.go i H' ∧ ∀ x H'', J.yld i H' x H'' → (∀ a o, H' a = some o → H'' a = some o) ∧ ∃ d, ds[i]? = some d ∧ Rep W M' H'' d x) ∧ (ds.length ≤ i → J.stop i H')
def FinI (W : Wd) (E : XK) (σ : L2.St) (env : Ent) (r : R Src) (M : MW) (H : Hp) (Q : It → Hp → Prop) : Prop :=
  match r with
  | .ok src st' => ∀ (M' : MW) (H' : Hp) (J : It), Stp M H M' H' → Sim W M' σ H' env st' → ItOk W M' H' src J → Q J H'
  | .ex c xs st' => ∀ (M' : MW) (H' : Hp) (cls : Value) (dx : Option Addr), Stp M H M' H' → SimS W M' H' st' → W.XR M' H' c xs cls dx → E cls dx H'
  | .no => False
def DI (X : Cx) (W : Wd) (E : XK) (tg iter : Expr) (f : EvS) : Prop :=
  ∃ wi : TI, PI X tg iter wi ∧ ∀ (σ : L2.St) (H : Hp) (Q : It → Hp → Prop), (∃ (M : MW) (env : Ent) (st : Store), Sim W M σ H env st ∧ FinI W E σ env (f env st) M H Q) → wi σ H Q
theorem FinI.step {W : Wd} {E : XK} {σ : L2.St} {env : Ent} {r : R Src} {M M1 : MW} {H H1 : Hp} {Q : It → Hp → Prop} (s : Stp M H M1 H1) (h : FinI W E σ env r M H Q) : FinI W E σ env r M1 H1 Q := by
  cases r with
  | ok src st' => exact fun M' H' J t => h M' H' J (s.trans t)
  | ex c xs st' => exact fun M' H' cls dx t => h M' H' cls dx (s.trans t)
  | no => exact h
theorem Fin.bindI {α β : Type} {W : Wd} {E : XK} {rel : MW → Hp → α → β → Prop} {σ : L2.St} {env : Ent} {r : R α} {k : α → Store → R Src} {M : MW} {H : Hp} {Q : β → Hp → Prop} {Q2 : It → Hp → Prop}
    (h : FinI W E σ env (r.bind k) M H Q2)
    (hk : ∀ a st' M' b H', Stp M H M' H' → Sim W M' σ H' env st' → rel M' H' a b → FinI W E σ env (k a st') M' H' Q2 → Q b H') : Fin W E rel σ env r M H Q := by
  cases r with
  | ok a st' => exact fun M' b H' t S r => hk a st' M' b H' t S r (FinI.step t h)
  | ex c xs st' => exact h
  | no => exact h
section
variable {X : Cx} {tg : Expr}
/-- a list or a tuple, walked -/
theorem pi_seq {l : Expr} {tl : TE} (hl : PE X l tl) : PI X tg l (fun σ H Q => tl σ H fun x H1 => (∃ a, x = .ref a ∧ (∃ xs, SqL X.K H1 a xs) ∧ Q (Itl X.K a) H1) ∨ ∃ a, x = .ref a ∧ (∃ xs, SqT X.K H1 a xs) ∧ Q (Itt X.K a) H1) where
  run := by
    intro pins z σ H Q I h
    refine thn (hl.run pins z σ H _ I h) ?_
    rintro v s1 ⟨x, H1, I1, r1, q1⟩
    have young : ∀ b, b ∈ [s1.heap.objs.size] → FpOk X pins H1 b := by
      intro b hb
      rw [List.mem_singleton.mp hb]
      exact I1.fpOk (Nat.le_refl _) (I1.hok.fresh (Nat.le_refl _))
    rcases q1 with ⟨a, rfl, ⟨xs, sq⟩, q⟩ | ⟨a, rfl, ⟨xs, sq⟩, q⟩
    · cases r1
      obtain ⟨its, rv, p, hz⟩ := I1.list sq
      apply wpAny_pyIter_list p.isList
      exact ⟨s1.heap.objs.size, _, _, _, H1, rfl, I1.kept (t' := s1.toks) fun b o e => Heap.get?_push_of_some _ e, turn_list a _, ⟨_, Heap.get?_push_size _ rfl, rfl, rfl⟩, young, q⟩
    · cases r1
      obtain ⟨its, rv, p, hz⟩ := I1.tuple sq
      apply wpAny_pyIter_tuple (show s1.heap.IsTuple a its.toArray from p)
      exact ⟨s1.heap.objs.size, _, _, _, H1, rfl, I1.kept (t' := s1.toks) fun b o e => Heap.get?_push_of_some _ e, turn_tuple a _, ⟨_, Heap.get?_push_size _ rfl, rfl, rfl⟩, young, q⟩
end
def srcOf (st : Store) (d : D) : Option Src := match d with
  | .lst ds => some (.vals ds)
  | .tup ds => some (.vals ds)
  | .ref n => match st[n]? with
    | some (.lst _) => some (.cell n)
    | _ => none
  | _ => none
def iSeq (f : Ev) : EvS := fun env st => (f env st).bind fun a st1 => R.ofO (srcOf st1 a) st1
section
variable {W : Wd} {M : MW} {H : Hp} {K : PySem.W.Frag}
theorem it_lst {a : Addr} {vs : List V} {ds : List D} (h : Rd H a (.lst vs)) (m : ¬ M.mu a) (r : Reps W M H ds vs) : ItOk W M H (.vals ds) (Itl K a) := by
  intro i M' H' st es T S e
  cases e
  have h' := T.rd h m
  have r' := r.mono T
  refine ⟨fun l => ?_, fun l => ⟨vs, .inl h', by rw [← r.length]; exact l⟩⟩
  obtain ⟨v, ev, rv⟩ := r'.get (List.getElem?_eq_getElem l)
  refine ⟨⟨vs, v, .inl h', ev⟩, fun x H'' y => ?_⟩
  obtain ⟨rfl, y⟩ := y
  have := y vs (.inl h')
  rw [ev] at this
  cases this
  exact ⟨fun _ _ z => z, _, List.getElem?_eq_getElem l, rv⟩
theorem it_tup {a : Addr} {vs : List V} {ds : List D} (h : H a = some (.tup vs)) (r : Reps W M H ds vs) : ItOk W M H (.vals ds) (Itt K a) := by
  intro i M' H' st es T S e
  cases e
  have h' := T.keep _ _ h (.inr (.inr notMutTup))
  have r' := r.mono T
  refine ⟨fun l => ?_, fun l => ⟨vs, .inl (.inl h'), by rw [← r.length]; exact l⟩⟩
  obtain ⟨v, ev, rv⟩ := r'.get (List.getElem?_eq_getElem l)
  refine ⟨⟨vs, v, .inl (.inl h'), ev⟩, fun x H'' y => ?_⟩
  obtain ⟨rfl, y⟩ := y
  have := y vs (.inl (.inl h'))
  rw [ev] at this
  cases this
  exact ⟨fun _ _ z => z, _, List.getElem?_eq_getElem l, rv⟩
theorem it_cell {n : Nat} {a : Addr} (h : M.rho[n]? = some a) : ItOk W M H (.cell n) (Itl K a) := by
  intro i M' H' st es T S e
  have h' : M'.rho[n]? = some a := by
    obtain ⟨more, e⟩ := T.pre
    rw [e, List.getElem?_append_left (List.getElem?_eq_some_iff.mp h).1]
    exact h
  unfold Src.get at e
  cases c : st[n]? with
  | none => simp [c] at e
  | some c' =>
    cases c' with
    | dct _ => simp [c] at e
    | lst ds =>
      simp only [c] at e
      cases e
      have ok := S.cell n _ a c h'
      cases ok with
      | lst hh rr =>
        rename_i vs
        refine ⟨fun l => ?_, fun l => ⟨vs, .inl (.inl hh), by rw [← rr.length]; exact l⟩⟩
        obtain ⟨v, ev, rv⟩ := rr.get (List.getElem?_eq_getElem l)
        refine ⟨⟨vs, v, .inl (.inl hh), ev⟩, fun x H'' y => ?_⟩
        obtain ⟨rfl, y⟩ := y
        have := y vs (.inl (.inl hh))
        rw [ev] at this
        cases this
        exact ⟨fun _ _ z => z, _, List.getElem?_eq_getElem l, rv⟩
theorem it_rng (lo : Int) (n : Nat) : ItOk W M H (.vals ((List.range n).map fun i => D.int (lo + (i : Nat)))) (Itr lo n) := by
  intro i M' H' st es T S e
  cases e
  rw [List.length_map, List.length_range]
  refine ⟨fun l => ⟨l, fun x H'' y => ?_⟩, fun l => l⟩
  obtain ⟨rfl, rfl⟩ := y
  refine ⟨fun _ _ z => z, .int (lo + i), ?_, .int _⟩
  rw [List.getElem?_map, List.getElem?_range l]
  rfl
end
section
variable {X : Cx} {W : Wd} {E : XK} {tg e a b : Expr} {f g : Ev} {k : EvR} {p pos : Pos}
theorem di_seq (h : DE X W E e f) : DI X W E tg e (iSeq f) :=
  ⟨_, pi_seq h, fun σ H Q ⟨M, env, st, S, q⟩ => ⟨M, env, st, S, Fin.bindI q fun d st1 M1 x H1 T1 S1 r1 q1 => by
    cases r1 with
    | lst hh m r => exact .inl ⟨_, rfl, ⟨_, .inl hh⟩, q1 M1 H1 _ .refl S1 (it_lst hh m r)⟩
    | tup hh r => exact .inr ⟨_, rfl, ⟨_, .inl (.inl hh)⟩, q1 M1 H1 _ .refl S1 (it_tup hh r)⟩
    | ref hh =>
      rename_i n a
      simp only [srcOf] at q1
      cases c : st1[n]? with
      | none => simp only [c] at q1; exact q1.elim
      | some c' =>
        cases c' with
        | dct _ => simp only [c] at q1; exact q1.elim
        | lst ds =>
          simp only [c] at q1
          have ok := S1.s.cell n _ a c hh
          cases ok with
          | lst h2 r2 => exact .inl ⟨_, rfl, ⟨_, .inl (.inl h2)⟩, q1 M1 H1 _ .refl S1 (it_cell hh)⟩
    | _ => exact q1.elim⟩⟩
def iRg1 (f : Ev) : EvS := fun env st => (f env st).bind fun a st1 => match a with
  | .int n => if rgOk 0 n then .ok (.vals (rgD 0 n)) st1 else .no
  | _ => .no
def iRg2 (f g : Ev) : EvS := fun env st => (f env st).bind fun a st1 => (g env st1).bind fun b st2 => match a with
  | .int i => match b with
    | .int j => if rgOk i j then .ok (.vals (rgD i j)) st2 else .no
    | _ => .no
  | _ => .no
theorem di_rg1 (hg : Gl X "range") (hm : X.mg "range" = none) (ha : DE X W E a f) (hs : starEach [a] X.env = [(false, eval a X.env)] := by rfl) : DI X W E tg (.Call (.Name "range" p) [a] [] pos) (iRg1 f) :=
  ⟨_, pi_range1 hg hm (pa_cons ha pa_nil hs) hs, fun σ H Q ⟨M, env, st, S, q⟩ => ⟨M, env, st, S, Fin.bindI q fun d st1 M1 x H1 T1 S1 r1 q1 => by
    cases d with
    | int n =>
      cases r1
      simp only at q1
      by_cases ok : rgOk 0 n = true
      · rw [if_pos ok] at q1
        obtain ⟨b1, b2, b3, b4, _⟩ := rgOk_ok ok
        refine ⟨n, rfl, b3, b4, q1 M1 H1 _ .refl S1 ?_⟩
        have := it_rng (W := W) (M := M1) (H := H1) 0 n.toNat
        unfold rgD
        rw [Int.sub_zero]
        exact this
      · rw [if_neg ok] at q1; exact q1.elim
    | _ => exact q1.elim⟩⟩
theorem di_rg2 (hg : Gl X "range") (hm : X.mg "range" = none) (ha : DE X W E a f) (hb : DE X W E b g) (hs : starEach [a, b] X.env = [(false, eval a X.env), (false, eval b X.env)] := by rfl) (hs2 : starEach [b] X.env = [(false, eval b X.env)] := by rfl) :
    DI X W E tg (.Call (.Name "range" p) [a, b] [] pos) (iRg2 f g) :=
  ⟨_, pi_range2 hg hm (pa_cons ha (pa_cons hb pa_nil hs2) (by rw [hs, hs2])) hs hs2, fun σ H Q ⟨M, env, st, S, q⟩ => ⟨M, env, st, S, Fin.bindI q fun d st1 M1 x H1 T1 S1 r1 q1 => ⟨M1, env, st1, S1, Fin.bindI q1 fun d2 st2 M2 y H2 T2 S2 r2 q2 => by
    cases d with
    | int i =>
      cases d2 with
      | int j =>
        cases r1
        cases r2
        simp only at q2
        by_cases ok : rgOk i j = true
        · rw [if_pos ok] at q2
          obtain ⟨b1, b2, b3, b4, _⟩ := rgOk_ok ok
          exact ⟨i, j, rfl, ⟨b1, b2, b3, b4⟩, q2 M2 H2 _ .refl S2 (it_rng i _)⟩
        · rw [if_neg ok] at q2; exact q2.elim
      | _ => exact q2.elim
    | _ => exact q2.elim⟩⟩⟩
end
end DL

set_option Elab.async false
set_option linter.all false
set_option maxRecDepth 100000
set_option maxHeartbeats 4000000
/-! DL13: comprehensions. -/
namespace DL
open PySem PySem.Spec PyProof.Rows L2
def wipeE (env : Ent) : List Nat → Ent
  | [] => env
  | v :: vs => (wipeE env vs).set v none
theorem wipeE_length (env : Ent) : ∀ vs : List Nat, (wipeE env vs).length = env.length
  | [] => rfl
  | v :: vs => by unfold wipeE; rw [List.length_set, wipeE_length env vs]
theorem wipeE_some {env : Ent} {i : Nat} {d : D} : ∀ {vs : List Nat}, (wipeE env vs)[i]? = some (some d) → env[i]? = some (some d) ∧ i ∉ vs
  | [], h => ⟨h, by simp⟩
  | v :: vs, h => by
    unfold wipeE at h
    by_cases e : v = i
    · subst e
      by_cases l : v < (wipeE env vs).length
      · rw [List.getElem?_set_self l] at h; cases h
      · rw [List.getElem?_eq_none (by simpa using l)] at h; cases h
    · rw [List.getElem?_set_ne e] at h
      obtain ⟨h1, h2⟩ := wipeE_some h
      exact ⟨h1, fun m => (List.mem_cons.mp m).elim (fun z => e z.symm) h2⟩
theorem Sim.wipe {W : Wd} {M : MW} {σ : L2.St} {H : Hp} {env : Ent} {st : Store} (S : Sim W M σ H env st) (vs : List Nat) : Sim W M (L2.wipe σ vs) H (wipeE env vs) st :=
  ⟨S.s, by rw [wipeE_length, wipe_length]; exact S.len, fun i d e => by
    obtain ⟨e1, n⟩ := wipeE_some e
    obtain ⟨v, h, r⟩ := S.var i d e1
    exact ⟨v, by rw [wipe_out n]; exact h, r⟩⟩
/-- an outcome without an exception -/
def noEx {α : Type} (r : R α) : R α := match r with
  | .ex _ _ _ => .no
  | r => r
def tYesD : EvB := fun _ st => .ok true st
def DTs (X : Cx) (W : Wd) (E : XK) (ifs : List Expr) (p : EvB) : Prop := PTs X ifs (lT W E p)
/-- one turn: nothing, or a new item -/
def lcTurn (T : TgD) (p : EvB) (f : Ev) (d : D) (env : Ent) (st : Store) : R (Option D) := match T d env with
  | none => .no
  | some env1 => (noEx (p env1 st)).bind fun k st1 => if k then (noEx (f env1 st1)).bind fun y st2 => .ok (some y) st2 else .ok none st1
def lcVals (T : TgD) (p : EvB) (f : Ev) (env : Ent) : List D → Store → R (List D)
  | [], st => .ok [] st
  | d :: ds, st => (lcTurn T p f d env st).bind fun o st1 => match o with
    | some y => (lcVals T p f env ds st1).bind fun ys st2 => .ok (y :: ys) st2
    | none => lcVals T p f env ds st1
def lcCell (n : Nat) (T : TgD) (p : EvB) (f : Ev) (env : Ent) : Nat → Nat → Store → R (List D)
  | 0, _, _ => .no
  | fuel + 1, i, st => match (Src.cell n).get st with
    | none => .no
    | some ds => match ds[i]? with
      | none => .ok [] st
      | some d => (lcTurn T p f d env st).bind fun o st1 => match o with
        | some y => (lcCell n T p f env fuel (i + 1) st1).bind fun ys st2 => .ok (y :: ys) st2
        | none => lcCell n T p f env fuel (i + 1) st1
/-- from turn i on, with so many turns at most -/
def lcFrom (src : Src) (T : TgD) (p : EvB) (f : Ev) (env : Ent) (m i : Nat) (st : Store) : R (List D) := match src with
  | .vals ds => lcVals T p f env (ds.drop i) st
  | .cell n => lcCell n T p f env m i st
def lcMost (src : Src) (st : Store) : Nat := match src with
  | .vals ds => ds.length
  | .cell n => match (Src.cell n).get st with
    | some ds => ds.length + 1
    | none => 0
def nLc (it : EvS) (T : TgD) (p : EvB) (f : Ev) (vs : List Nat) : EvL := fun env st => (it env st).bind fun src st1 =>
  match lcFrom src T p f (wipeE env vs) (lcMost src st1) 0 st1 with
  | .ok ds st2 => if sOk ds.length then .ok ds st2 else .no
  | _ => .no
/-- one step of the walk from i -/
theorem lcFrom_step {src : Src} {T : TgD} {p : EvB} {f : Ev} {env : Ent} {m i : Nat} {st st2 : Store} {ds : List D} (hm : ∀ es, src = .vals es → m + i = es.length) (h : lcFrom src T p f env m i st = .ok ds st2) :
    ∃ es, src.get st = some es ∧ ((es.length ≤ i ∧ ds = [] ∧ st2 = st) ∨ ∃ d o st1, i < es.length ∧ es[i]? = some d ∧ lcTurn T p f d env st = .ok o st1 ∧ ∃ m' ds', m = m' + 1 ∧ lcFrom src T p f env m' (i + 1) st1 = .ok ds' st2 ∧ ds = (match o with | some y => y :: ds' | none => ds') ∧ ∀ es, src = .vals es → m' + (i + 1) = es.length) := by
  cases src with
  | vals es =>
    have hl := hm es rfl
    refine ⟨es, rfl, ?_⟩
    simp only [lcFrom] at h
    by_cases l : i < es.length
    · refine .inr ?_
      rw [List.drop_eq_getElem_cons l] at h
      simp only [lcVals] at h
      cases e : lcTurn T p f es[i] env st with
      | ok o st1 =>
        rw [e] at h
        simp only [R.bind] at h
        refine ⟨es[i], o, st1, l, List.getElem?_eq_getElem l, e, m - 1, ?_⟩
        cases o with
        | some y =>
          simp only at h
          cases e2 : lcVals T p f env (es.drop (i + 1)) st1 with
          | ok ys st3 =>
            rw [e2] at h
            simp only [R.bind] at h
            cases h
            exact ⟨ys, by omega, e2, rfl, fun es' z => by cases z; omega⟩
          | ex c xs st3 => rw [e2] at h; cases h
          | no => rw [e2] at h; cases h
        | none =>
          simp only at h
          exact ⟨ds, by omega, h, rfl, fun es' z => by cases z; omega⟩
      | ex c xs st3 => rw [e] at h; cases h
      | no => rw [e] at h; cases h
    · rw [List.drop_eq_nil_of_le (by omega)] at h
      simp only [lcVals] at h
      cases h
      exact .inl ⟨by omega, rfl, rfl⟩
  | cell n =>
    simp only [lcFrom] at h
    cases m with
    | zero => simp only [lcCell] at h; cases h
    | succ m =>
      simp only [lcCell] at h
      cases g : (Src.cell n).get st with
      | none => rw [g] at h; cases h
      | some es =>
        rw [g] at h
        simp only at h
        refine ⟨es, rfl, ?_⟩
        cases gi : es[i]? with
        | none =>
          rw [gi] at h
          cases h
          exact .inl ⟨List.getElem?_eq_none_iff.mp gi, rfl, rfl⟩
        | some d =>
          rw [gi] at h
          simp only at h
          refine .inr ?_
          have l := (List.getElem?_eq_some_iff.mp gi).1
          cases e : lcTurn T p f d env st with
          | ok o st1 =>
            rw [e] at h
            simp only [R.bind] at h
            refine ⟨d, o, st1, l, rfl, e, m, ?_⟩
            cases o with
            | some y =>
              simp only at h
              cases e2 : lcCell n T p f env m (i + 1) st1 with
              | ok ys st3 =>
                rw [e2] at h
                simp only [R.bind] at h
                cases h
                exact ⟨ys, rfl, e2, rfl, fun es' z => by cases z⟩
              | ex c xs st3 => rw [e2] at h; cases h
              | no => rw [e2] at h; cases h
            | none =>
              simp only at h
              exact ⟨ds, rfl, h, rfl, fun es' z => by cases z⟩
          | ex c xs st3 => rw [e] at h; cases h
          | no => rw [e] at h; cases h
theorem noEx_ok {α : Type} {r : R α} {a : α} {st : Store} (h : noEx r = .ok a st) : r = .ok a st := by
  cases r with
  | ok b s => exact h
  | ex c xs s => cases h
  | no => cases h
theorem bind_ok {α β : Type} {r : R α} {k : α → Store → R β} {b : β} {st : Store} (h : r.bind k = .ok b st) : ∃ a s, r = .ok a s ∧ k a s = .ok b st := by
  cases r with
  | ok a s => exact ⟨a, s, rfl, h⟩
  | ex c xs s => cases h
  | no => cases h
/-- nothing that is represented leans on an address that is marked and no cell -/
theorem apart {W : Wd} {M : MW} {H H2 : Hp} {p : Addr} {xs : List V} (hp : H p = some (.lst xs)) (hr : p ∉ M.rho) (hm : M.mu p) (ag : ∀ a, a ≠ p → H2 a = H a) :
    (∀ {ds vs}, Reps W M H ds vs → Reps W M H2 ds vs) ∧ (∀ {d v}, Rep W M H d v → Rep W M H2 d v) ∧ ∀ {st}, SimS W M H st → SimS W M H2 st := by
  have hold : ∀ a o, H a = some o → a ≠ p → H2 a = some o := fun a o h n => by rw [ag a n]; exact h
  have tups : ∀ a vs, H a = some (HO.tup vs) → H2 a = some (HO.tup vs) := fun a vs h => hold a _ h (by rintro rfl; rw [hp] at h; cases h)
  have rngs : ∀ a (lo hi : Int), H a = some (HO.rng lo hi) → H2 a = some (HO.rng lo hi) := fun a lo hi h => hold a _ h (by rintro rfl; rw [hp] at h; cases h)
  have lsts : ∀ a vs, Rd H a (HO.lst vs) → ¬ M.mu a → Rd H2 a (HO.lst vs) := fun a vs h n => by
    have ne : a ≠ p := by rintro rfl; exact n hm
    rcases h with h | ⟨o, h⟩
    · exact .inl (hold a _ h ne)
    · exact .inr ⟨o, hold a _ h ne⟩
  have gen1 : ∀ {d v}, Rep W M H d v → Rep W M H2 d v := by
    intro d v r
    exact Rep.rec (motive_1 := fun d v _ => Rep W M H2 d v) (motive_2 := fun ds vs _ => Reps W M H2 ds vs)
      .non .bl .int .str (fun h _ ih => .tup (tups _ _ h) ih) (fun h m _ ih => .lst (lsts _ _ h m) m ih) .ref .fn (fun h => .rng (rngs _ _ _ h)) .nil (fun _ _ ih ihs => .cons ih ihs) r
  have gen : ∀ {ds vs}, Reps W M H ds vs → Reps W M H2 ds vs := by
    intro ds vs r
    exact Reps.rec (motive_1 := fun d v _ => Rep W M H2 d v) (motive_2 := fun ds vs _ => Reps W M H2 ds vs)
      .non .bl .int .str (fun h _ ih => .tup (tups _ _ h) ih) (fun h m _ ih => .lst (lsts _ _ h m) m ih) .ref .fn (fun h => .rng (rngs _ _ _ h)) .nil (fun _ _ ih ihs => .cons ih ihs) r
  refine ⟨gen, gen1, fun S => ⟨S.len, S.nd, S.mu, fun n c a e1 e2 => ?_⟩⟩
  have na : a ≠ p := by rintro rfl; exact hr (List.mem_of_getElem? e2)
  have ok := S.cell n c a e1 e2
  cases ok with
  | lst h r => exact .lst (hold _ _ h na) (gen r)
  | dct h k r => exact .dct (hold _ _ h na) k (gen r)
theorem Sim.apart {W : Wd} {M : MW} {σ : L2.St} {H H2 : Hp} {env : Ent} {st : Store} {p : Addr} {xs : List V} (S : Sim W M σ H env st) (hp : H p = some (.lst xs)) (hr : p ∉ M.rho) (hm : M.mu p) (ag : ∀ a, a ≠ p → H2 a = H a) : Sim W M σ H2 env st := by
  obtain ⟨_, g, gs⟩ := DL.apart (W := W) hp hr hm ag
  exact ⟨gs S.s, S.len, fun i d e => let ⟨v, h, r⟩ := S.var i d e; ⟨v, h, g r⟩⟩
theorem Stp.apart {M M' : MW} {H H' H2 : Hp} {p : Addr} (T : Stp M H M' H') (hn : H p = Option.none) (ag : ∀ a, a ≠ p → H2 a = H' a) : Stp M H M' H2 := by
  have ne : ∀ a o, H a = some o → a ≠ p := fun a o h => by rintro rfl; rw [hn] at h; cases h
  exact ⟨fun a o h c => by rw [ag a (ne a o h)]; exact T.keep a o h c, T.pre, T.fresh, T.mu, fun a o h => by rw [ag a (ne a o h)]; exact T.there a o h⟩
theorem wipe_wipe {σ : L2.St} {ws : List Nat} : L2.wipe (L2.wipe σ ws) ws = L2.wipe σ ws := by
  apply List.ext_getElem?
  intro j
  by_cases m : j ∈ ws
  · rw [wipe_in m, wipe_in m, wipe_length]
  · rw [wipe_out m]
section
variable {X : Cx} {W : Wd} {E : XK} {tg iter elt : Expr} {ifs : List Expr} {it : EvS} {T : TgD} {p : EvB} {f : Ev} {is : List Nat} {own : List (PySem.Str × Nat)} {scope : Scope} {pos : Pos}
theorem dts_nil : DTs X W E [] tYesD := ⟨fun pins s σ H Q I ⟨M, env, st, S, q⟩ => pts_nil.run pins s σ H Q I (q M true H .refl S rfl)⟩
theorem dts_one {c : Expr} (h : DT X W E c p) : DTs X W E [c] p := pts_one h
/-- the reading of the comprehension, from the data's -/
theorem lc_read {wi : TI} {t : TG} (hwi : ∀ (σ : L2.St) (H : Hp) (Q : It → Hp → Prop), (∃ (M : MW) (env : Ent) (st : Store), Sim W M σ H env st ∧ FinI W E σ env (it env st) M H Q) → wi σ H Q)
    (ht : ∀ (M : MW) (σ : L2.St) (H : Hp) (env env' : Ent) (st : Store) (d : D) (v : V) (Q : L2.St → Hp → Prop), Sim W M σ H env st → Rep W M H d v → T d env = some env' →
      (∀ σ', Sim W M σ' H env' st → (∀ ws, (∀ i ∈ is, i ∈ ws) → L2.wipe σ' ws = L2.wipe σ ws) → Q σ' H) → t v σ H Q)
    (hv : ∀ i ∈ is, i ∈ own.map (·.2)) {σ : L2.St} {H : Hp} {Q : VK} (q : lN W E (nLc it T p f (own.map (·.2))) σ H Q) : tLc wi t (lT W E0 p) (lE W E0 f) (own.map (·.2)) σ H Q := by
  obtain ⟨M, env, st, S, q⟩ := q
  refine hwi σ H _ ⟨M, env, st, S, ?_⟩
  unfold FinN nLc at q
  cases e : it env st with
  | ex c xs st' => rw [e] at q; exact q
  | no => rw [e] at q; exact q
  | ok src st1 =>
    rw [e] at q
    intro M1 H1 J T1 S1 ok D hD
    simp only [R.bind] at q
    cases e2 : lcFrom src T p f (wipeE env (own.map (·.2))) (lcMost src st1) 0 st1 with
    | ex c xs st' => rw [e2] at q; exact q.elim
    | no => rw [e2] at q; exact q.elim
    | ok ds st2 =>
      rw [e2] at q
      simp only at q
      by_cases hs : sOk ds.length = true
      · rw [if_pos hs] at q
        have hs' := sOk_le hs
        -- the made list stands at D, marked as one that is written
        refine ⟨fun i m H' => ∃ (M' : MW) (st' : Store) (done rest : List DL.D) (vs : List V), Stp M1 H1 M' H' ∧ Sim W M' σ H' env st' ∧ M'.mu D ∧ D ∉ M'.rho ∧ H' D = some (.lst vs) ∧ Reps W M' H' done vs ∧ done ++ rest = ds ∧
            lcFrom src T p f (wipeE env (own.map (·.2))) m i st' = .ok rest st2 ∧ ∀ es, src = .vals es → m + i = es.length, ⟨lcMost src st1, ?_⟩, fun i m H' w => ?_⟩
        · have T2 : Stp M1 H1 ⟨fun a => M1.mu a ∨ a = D, M1.rho⟩ (upd H1 D (.lst [])) :=
            ⟨fun a u h _ => updNew hD a u h, ⟨[], by simp⟩, fun a h => .inl h, fun a u h => ⟨fun z => z.elim (fun z => z) fun z => absurd z (ne_of_none h hD), .inl⟩, fun a u h => ⟨u, updNew hD a u h⟩⟩
          have nD : D ∉ M1.rho := fun z => by obtain ⟨u, h⟩ := S1.s.here z; rw [hD] at h; cases h
          refine ⟨⟨fun a => M1.mu a ∨ a = D, M1.rho⟩, st1, [], ds, [], T2, S1.step T2 ⟨S1.s.len, S1.s.nd, fun a h => .inl (S1.s.mu a h), fun n c a e1 e2 => (S1.s.cell n c a e1 e2).mono T2 (updNew hD a)⟩, .inr rfl, nD, upd_same, .nil, rfl, e2, fun es z => ?_⟩
          subst z
          rfl
        · obtain ⟨M', st', done, rest, vs, T2, S2, mD, nD, hDl, rd, eq, run, hm⟩ := w
          obtain ⟨es, ge, st3⟩ := lcFrom_step hm run
          obtain ⟨go, stop⟩ := ok i M' H' st' es T2 S2.s ge
          rcases st3 with ⟨l, rfl, rfl⟩ | ⟨d, o, st4, l, ed, turn, m', rest', rfl, run', er, hm'⟩
          · refine .inl ⟨stop l, ?_⟩
            rw [List.append_nil] at eq
            subst eq
            have ag : ∀ a, a ≠ D → (fun b => if b = D then none else H' b) a = H' a := fun a n => if_neg n
            obtain ⟨g, _, _⟩ := DL.apart (W := W) hDl nD mD ag
            have e3 : upd (fun b => if b = D then none else H' b) D (.lst vs) = H' := by
              funext b
              unfold upd
              by_cases hb : b = D
              · subst hb; rw [if_pos rfl, hDl]
              · rw [if_neg hb]
                show (if b = D then none else H' b) = _
                rw [if_neg hb]
            have fin := q M' vs _ (T1.trans (T2.apart hD ag)) (S2.apart hDl nD mD ag) (g rd) D (if_pos rfl)
            rw [e3] at fin
            exact fin
          · refine .inr ⟨(go l).1, fun H3 => ∃ (M3 : MW) (st3 : Store) (done' : List DL.D) (vs' : List V), Stp M1 H1 M3 H3 ∧ Sim W M3 σ H3 env st3 ∧ M3.mu D ∧ D ∉ M3.rho ∧ H3 D = some (.lst vs') ∧ Reps W M3 H3 done' vs' ∧ done' ++ rest' = ds ∧ lcFrom src T p f (wipeE env (own.map (·.2))) m' (i + 1) st3 = .ok rest' st2, fun H3 ⟨M3, st3, done', vs', a1, a2, a3, a4, a5, a6, a7, a8⟩ => ⟨m', Nat.lt_succ_self _, M3, st3, done', rest', vs', a1, a2, a3, a4, a5, a6, a7, a8, hm'⟩, fun x H3 y => ?_⟩
            obtain ⟨gr, d', ed', rx⟩ := (go l).2 x H3 y
            rw [ed] at ed'
            cases ed'
            have S3 : Sim W M' σ H3 env st' := S2.grow gr
            have hD3 := gr _ _ hDl
            unfold lcTurn at turn
            cases et : T d (wipeE env (own.map (·.2))) with
            | none => rw [et] at turn; cases turn
            | some env1 =>
              rw [et] at turn
              simp only at turn
              obtain ⟨k, st5, ek, turn⟩ := bind_ok turn
              have ek := noEx_ok ek
              refine ht M' _ H3 _ env1 st' d x _ (S3.wipe _) rx et fun σ2 S4 w2 => ⟨?_, M', env1, st', S4, ?_⟩
              · rw [w2 _ hv, wipe_wipe]
              · rw [ek]
                intro M4 b H4 T4 S5 eb
                cases eb
                have keep4 := T4.keep _ _ hD3 (.inl nD)
                have mu4 : M4.mu D := (T4.mu _ _ hD3).mpr mD
                have nr4 : D ∉ M4.rho := fun z => (T4.fresh D z).elim nD fun z => by rw [hD3] at z; cases z
                have TT4 : Stp M1 H1 M4 H4 := (T2.trans (Stp.grow gr)).trans T4
                cases k with
                | false =>
                  rw [if_neg Bool.false_ne_true] at turn ⊢
                  cases turn
                  subst er
                  exact ⟨M4, _, done, vs, TT4, (S3.step T4 S5.s), mu4, nr4, keep4, (rd.mono (Stp.grow gr)).mono T4, eq, run'⟩
                | true =>
                  rw [if_pos rfl] at turn ⊢
                  obtain ⟨yv, st6, ey, turn⟩ := bind_ok turn
                  have ey := noEx_ok ey
                  cases turn
                  refine ⟨M4, env1, st5, S5, ?_⟩
                  rw [ey]
                  intro M5 yy H5 T5 S6 ry
                  have keep5 := T5.keep _ _ keep4 (.inl nr4)
                  have mu5 : M5.mu D := (T5.mu _ _ keep4).mpr mu4
                  have nr5 : D ∉ M5.rho := fun z => (T5.fresh D z).elim nr4 fun z => by rw [keep4] at z; cases z
                  have rd5 := ((rd.mono (Stp.grow gr)).mono T4).mono T5
                  have ag : ∀ a, a ≠ D → upd H5 D (.lst (vs ++ [yy])) a = H5 a := fun a n => upd_ne n
                  obtain ⟨g, g1, _⟩ := DL.apart (W := W) keep5 nr5 mu5 ag
                  subst er
                  refine ⟨vs, keep5, ?_, M5, _, done ++ [yv], vs ++ [yy], (TT4.trans T5).apart hD ag, ((S3.step T4 S5.s).step T5 S6.s).apart keep5 nr5 mu5 ag, mu5, nr5, upd_same, (g rd5).append (.cons (g1 ry) .nil), by rw [← eq]; simp, run'⟩
                  have : done.length < ds.length := by rw [← eq]; simp
                  rw [← rd.length]
                  omega
      · rw [if_neg hs] at q; exact q.elim

theorem dn_lc (hc : X.calm = true) (hN : X.N.Nodup) (hi : DI X W E tg iter it) (ok : BlkOk X.N X.env.scope scope own)
    (hg : ∃ t : TG, (∀ (s : Shared) (H : Hp) (C : Addr) (cl : List (PySem.Str × Addr)) (fp : List Addr), PG (X.blk s H scope (compEnvC scope cl C X.env) fp) tg t) ∧
      ∀ (M : MW) (σ : L2.St) (H : Hp) (env env' : Ent) (st : Store) (d : D) (v : V) (Q : L2.St → Hp → Prop), Sim W M σ H env st → Rep W M H d v → T d env = some env' →
        (∀ σ', Sim W M σ' H env' st → (∀ ws, (∀ i ∈ is, i ∈ ws) → L2.wipe σ' ws = L2.wipe σ ws) → Q σ' H) → t v σ H Q)
    (ht : ∀ (s : Shared) (H : Hp) (C : Addr) (cl : List (PySem.Str × Addr)) (fp : List Addr), DTs (X.blk s H scope (compEnvC scope cl C X.env) fp) W E0 ifs p)
    (he : ∀ (s : Shared) (H : Hp) (C : Addr) (cl : List (PySem.Str × Addr)) (fp : List Addr), DE (X.blk s H scope (compEnvC scope cl C X.env) fp) W E0 elt f)
    (hv : ∀ i ∈ is, i ∈ own.map (·.2)) (hs : ∀ x, foldedSetIterable iter X.env x = pure x := by intro _; rfl) :
    DN X W E (.ListComp elt [⟨tg, iter, ifs, 0⟩] scope pos) (nLc it T p f (own.map (·.2))) := by
  obtain ⟨wi, pw, hw⟩ := hi
  obtain ⟨t, pt, htt⟩ := hg
  exact PEmono (pe_lc hc hN pw ok pt ht he hs) fun σ H Q q => lc_read hw htt hv q
end
end DL

set_option Elab.async false
set_option linter.all false
set_option maxRecDepth 100000
set_option maxHeartbeats 4000000
/-! DL14: statements, defs, calls. -/
namespace DL
open PySem PySem.Spec PyProof.Rows L2
/-! ### targets of a comprehension -/
def TgRead (W : Wd) (t : TG) (T : TgD) (is : List Nat) : Prop :=
  ∀ (M : MW) (σ : L2.St) (H : Hp) (env env' : Ent) (st : Store) (d : D) (v : V) (Q : L2.St → Hp → Prop), Sim W M σ H env st → Rep W M H d v → T d env = some env' →
    (∀ σ', Sim W M σ' H env' st → (∀ ws, (∀ i ∈ is, i ∈ ws) → L2.wipe σ' ws = L2.wipe σ ws) → Q σ' H) → t v σ H Q
def gsOf : List Nat → TGs
  | [] => gNil
  | i :: is => gCons (gName i) (gsOf is)
section
variable {W : Wd}
theorem tr_name {i : Nat} : TgRead W (gName i) (tgN i) [i] := fun M σ H env env' st d v Q S r e q => by
  cases e
  exact q _ (S.set r) fun ws h => wipe_set (h i (List.mem_singleton.mpr rfl))
theorem tr_names : ∀ (is : List Nat) (M : MW) (σ : L2.St) (H : Hp) (env env' : Ent) (st : Store) (ds : List D) (vs : List V) (Q : L2.St → Hp → Prop), Sim W M σ H env st → Reps W M H ds vs → setAll is ds env = some env' →
    (∀ σ', Sim W M σ' H env' st → (∀ ws, (∀ i ∈ is, i ∈ ws) → L2.wipe σ' ws = L2.wipe σ ws) → Q σ' H) → gsOf is vs σ H Q
  | [], M, σ, H, env, env', st, ds, vs, Q, S, r, e, q => by
    cases r with
    | nil => cases e; exact ⟨rfl, q σ S fun _ _ => rfl⟩
    | cons _ _ => cases e
  | i :: is, M, σ, H, env, env', st, ds, vs, Q, S, r, e, q => by
    cases r with
    | nil => cases e
    | cons r1 rs =>
      refine ⟨_, _, rfl, ?_⟩
      refine tr_names is M _ H _ env' st _ _ Q (S.set r1) rs e fun σ2 S2 w2 => q σ2 S2 fun ws hw => ?_
      rw [w2 ws fun j hj => hw j (List.mem_cons_of_mem _ hj), wipe_set (hw i (List.mem_cons_self ..))]
theorem setAll_len : ∀ {is : List Nat} {ds : List D} {env env' : Ent}, setAll is ds env = some env' → ds.length = is.length
  | [], [], _, _, _ => rfl
  | [], _ :: _, _, _, h => by cases h
  | _ :: _, [], _, _, h => by cases h
  | _ :: is, _ :: ds, _, _, h => by rw [List.length_cons, List.length_cons, setAll_len (is := is) h]
theorem tr_tup {K : PySem.W.Frag} {is : List Nat} {n : Nat} (hn : is.length = n) : TgRead W (gTup K n (gsOf is)) (tgT is) is := fun M σ H env env' st d v Q S r e q => by
  cases r with
  | tup h1 r1 => exact ⟨_, _, rfl, .inl (.inl h1), by rw [← r1.length, setAll_len e, hn], tr_names is M σ H env env' st _ _ Q S r1 e q⟩
  | _ => cases e
end
/-! ### statements -/
inductive Out where
  | nx | bk | ct
  | rt (d : D)
abbrev EvT := Ent → Store → R (Out × Ent)
def FinS (W : Wd) (E : XK) (r : R (Out × Ent)) (M : MW) (H : Hp) (D0 : Ends) : Prop :=
  match r with
  | .ok (.nx, env') st' => ∀ (M' : MW) (σ' : L2.St) (H' : Hp), Stp M H M' H' → Sim W M' σ' H' env' st' → D0.nx σ' H'
  | .ok (.bk, env') st' => ∀ (M' : MW) (σ' : L2.St) (H' : Hp), Stp M H M' H' → Sim W M' σ' H' env' st' → D0.bk σ' H'
  | .ok (.ct, env') st' => ∀ (M' : MW) (σ' : L2.St) (H' : Hp), Stp M H M' H' → Sim W M' σ' H' env' st' → D0.ct σ' H'
  | .ok (.rt d, _) st' => ∀ (M' : MW) (v : V) (H' : Hp), Stp M H M' H' → SimS W M' H' st' → Rep W M' H' d v → D0.rt v H'
  | .ex c xs st' => ∀ (M' : MW) (H' : Hp) (cls : Value) (dx : Option Addr), Stp M H M' H' → SimS W M' H' st' → W.XR M' H' c xs cls dx → E cls dx H'
  | .no => False
theorem FinS.step {W : Wd} {E : XK} {r : R (Out × Ent)} {M M1 : MW} {H H1 : Hp} {D0 : Ends} (s : Stp M H M1 H1) (h : FinS W E r M H D0) : FinS W E r M1 H1 D0 := by
  match r, h with
  | .ok (.nx, _) _, h => exact fun M' σ' H' t => h M' σ' H' (s.trans t)
  | .ok (.bk, _) _, h => exact fun M' σ' H' t => h M' σ' H' (s.trans t)
  | .ok (.ct, _) _, h => exact fun M' σ' H' t => h M' σ' H' (s.trans t)
  | .ok (.rt _, _) _, h => exact fun M' v H' t => h M' v H' (s.trans t)
  | .ex _ _ _, h => exact fun M' H' cls dx t => h M' H' cls dx (s.trans t)
  | .no, h => exact h
def lS (W : Wd) (E : XK) (f : EvT) : TS := fun D0 σ H => ∃ (M : MW) (env : Ent) (st : Store), Sim W M σ H env st ∧ FinS W E (f env st) M H D0
def DS (X : Cx) (W : Wd) (E : XK) (s : Stmt) (f : EvT) : Prop := PS X s (lS W E f)
def DSs (X : Cx) (W : Wd) (E : XK) (s : List Stmt) (f : EvT) : Prop := PSs X s (lS W E f)
theorem Fin.bindS {α β : Type} {W : Wd} {E : XK} {rel : MW → Hp → α → β → Prop} {σ : L2.St} {env : Ent} {r : R α} {k : α → Store → R (Out × Ent)} {M : MW} {H : Hp} {Q : β → Hp → Prop} {D0 : Ends}
    (h : FinS W E (r.bind k) M H D0)
    (hk : ∀ a st' M' b H', Stp M H M' H' → Sim W M' σ H' env st' → rel M' H' a b → FinS W E (k a st') M' H' D0 → Q b H') : Fin W E rel σ env r M H Q := by
  cases r with
  | ok a st' => exact fun M' b H' t S r => hk a st' M' b H' t S r (h.step t)
  | ex c xs st' => exact h
  | no => exact h
def sNx : EvT := fun env st => .ok (.nx, env) st
def sBk : EvT := fun env st => .ok (.bk, env) st
def sCt : EvT := fun env st => .ok (.ct, env) st
def sSeq (f g : EvT) : EvT := fun env st => (f env st).bind fun o st1 => match o with
  | (.nx, env1) => g env1 st1
  | o => .ok o st1
def sRet (f : Ev) : EvT := fun env st => (f env st).bind fun d st1 => .ok (.rt d, env) st1
def sRetN : EvT := fun env st => .ok (.rt .non, env) st
def sExpr (f : Ev) : EvT := fun env st => (f env st).bind fun _ st1 => .ok (.nx, env) st1
def sIf (p : EvB) (f g : EvT) : EvT := fun env st => (p env st).bind fun k st1 => if k then f env st1 else g env st1
def sAsg (f : Ev) (T : TgD) : EvT := fun env st => (f env st).bind fun d st1 => match T d env with
  | some env1 => .ok (.nx, env1) st1
  | none => .no
def sPar (i j : Nat) (f g : Ev) : EvT := fun env st => (f env st).bind fun a st1 => (g env st1).bind fun b st2 => .ok (.nx, (env.set i (some a)).set j (some b)) st2
def sAug (i : Nat) (op : Store → D → D → Option D) (f : Ev) : EvT := fun env st => match env[i]? with
  | some (some a) => (f env st).bind fun b st1 => match op st1 a b with
    | some d => .ok (.nx, env.set i (some d)) st1
    | none => .no
  | _ => .no
section
variable {X : Cx} {W : Wd} {E : XK} {s : Stmt} {ss : List Stmt} {f g : EvT} {e a b c : Expr} {x y : Ev} {p : EvB} {pos pos' : Pos}
theorem dss_nil : DSs X W E [] sNx := PSsmono pss_nil fun D0 σ H ⟨M, env, st, S, q⟩ => q M σ H .refl S
theorem dss_cons (h1 : DS X W E s f) (h2 : DSs X W E ss g) : DSs X W E (s :: ss) (sSeq f g) :=
  PSsmono (pss_cons h1 h2) fun D0 σ H ⟨M, env, st, S, q⟩ => ⟨M, env, st, S, by
    unfold sSeq at q
    match hf : f env st, q with
    | .ok (.nx, env1) st1, q => exact fun M' σ' H' t S' => ⟨M', env1, st1, S', FinS.step t q⟩
    | .ok (.bk, env1) st1, q => exact q
    | .ok (.ct, env1) st1, q => exact q
    | .ok (.rt d, env1) st1, q => exact q
    | .ex _ _ _, q => exact q
    | .no, q => exact q⟩
theorem dss_one (h1 : DS X W E s f) : DSs X W E [s] f := pss_one h1
theorem ds_pass : DS X W E (.Pass pos) sNx := PSmono ps_pass fun D0 σ H ⟨M, env, st, S, q⟩ => q M σ H .refl S
theorem ds_break : DS X W E (.Break pos) sBk := PSmono ps_break fun D0 σ H ⟨M, env, st, S, q⟩ => q M σ H .refl S
theorem ds_continue : DS X W E (.Continue pos) sCt := PSmono ps_continue fun D0 σ H ⟨M, env, st, S, q⟩ => q M σ H .refl S
theorem ds_expr (h : DE X W E e x) (hs : swapsWith e none pos.line X.env = pure false := by rfl) : DS X W E (.Expr e pos) (sExpr x) :=
  PSmono (ps_expr h hs) fun D0 σ H ⟨M, env, st, S, q⟩ => ⟨M, env, st, S, Fin.bindS q fun d st1 M1 v H1 T1 S1 r1 q1 => q1 M1 σ H1 .refl S1⟩
theorem ds_ret (h : DE X W E e x) : DS X W E (.Return (some e) pos) (sRet x) :=
  PSmono (ps_ret h) fun D0 σ H ⟨M, env, st, S, q⟩ => ⟨M, env, st, S, Fin.bindS q fun d st1 M1 v H1 T1 S1 r1 q1 => q1 M1 v H1 .refl S1.s r1⟩
theorem ds_retN : DS X W E (.Return none pos) sRetN := PSmono ps_retN fun D0 σ H ⟨M, env, st, S, q⟩ => q M .non H .refl S.s .non
theorem ds_if {tb eb : List Stmt} (h : DT X W E c p) (h1 : DSs X W E tb f) (h2 : DSs X W E eb g) : DS X W E (.If c tb eb pos) (sIf p f g) :=
  PSmono (ps_if h h1 h2) fun D0 σ H ⟨M, env, st, S, q⟩ => ⟨M, env, st, S, Fin.bindS q fun k st1 M1 k' H1 T1 S1 e1 q1 => by
    subst e1
    cases k with
    | true => rw [if_pos rfl]; exact ⟨M1, env, st1, S1, q1⟩
    | false => rw [if_neg Bool.false_ne_true]; exact ⟨M1, env, st1, S1, q1⟩⟩
theorem ds_set {i : Nat} {n : PySem.Str} (hN : X.N.Nodup) (hi : X.N[i]? = some n) (hx : Loc X.env.scope n) (h : DE X W E e x) (hs : swapsWith e (some (.Name n pos')) pos.line X.env = pure false := by rfl) (hf : X.fn n = true ∨ X.env.scope.names.lookup n = some .local := by first | exact .inl rfl | exact .inr rfl | assumption) :
    DS X W E (.Assign [.Name n pos'] e pos) (sAsg x (tgN i)) :=
  PSmono (ps_set hN hi hx h hs hf) fun D0 σ H ⟨M, env, st, S, q⟩ => ⟨M, env, st, S, Fin.bindS q fun d st1 M1 v H1 T1 S1 r1 q1 => q1 M1 _ H1 .refl (S1.set r1)⟩
theorem ds_asg {tg : Expr} {T : TgD} {is : List Nat} (h : DE X W E e x) (hg : DG X W tg T is) (hs : swapsWithSole [tg] e pos.line X.env = pure false := by rfl) (hw : swappedStores [tg] e X.env = pure none := by rfl)
    (h1 : (assignEach [tg] X.env).map (·.2) = [assign tg X.env] := by rfl) : DS X W E (.Assign [tg] e pos) (sAsg x T) := by
  obtain ⟨t, pt, ht⟩ := hg
  refine PSmono (ps_asg h pt hs hw h1) fun D0 σ H ⟨M, env, st, S, q⟩ => ⟨M, env, st, S, Fin.bindS q fun d st1 M1 v H1 T1 S1 r1 q1 => ?_⟩
  cases e1 : T d env with
  | none => rw [e1] at q1; exact q1.elim
  | some env1 => rw [e1] at q1; exact ht M1 σ H1 env env1 st1 d v _ S1 r1 e1 fun σ' S' _ => q1 M1 σ' H1 .refl S'
theorem ds_par {i j : Nat} {n m : PySem.Str} {px py pt : Pos} {kt k2 pt2} (hc : X.calm = true) (hN : X.N.Nodup) (hi : X.N[i]? = some n) (hj : X.N[j]? = some m) (hij : i ≠ j)
    (hx : X.env.scope.names.lookup n = some .local) (hy : X.env.scope.names.lookup m = some .local) (ha : DE X W E a x) (hb : DE X W E b y)
    (hw : swappedStores [.Tuple [.Name n px, .Name m py] kt pt] (.Tuple [a, b] k2 pt2) X.env = pure (some [n, m]))
    (s1 : starEach [a, b] X.env = (false, eval a X.env) :: starEach [b] X.env := by rfl) (s2 : starEach [b] X.env = (false, eval b X.env) :: starEach [] X.env := by rfl)
    (hs : swapsWithSole [.Tuple [.Name n px, .Name m py] kt pt] (.Tuple [a, b] k2 pt2) pos.line X.env = pure false := by rfl) :
    DS X W E (.Assign [.Tuple [.Name n px, .Name m py] kt pt] (.Tuple [a, b] k2 pt2) pos) (sPar i j x y) :=
  PSmono (ps_par hc hN hi hj hij hx hy (pa_cons ha (pa_cons hb pa_nil s2) s1) hw hs) fun D0 σ H ⟨M, env, st, S, q⟩ => ⟨M, env, st, S, Fin.bindS q fun d1 st1 M1 v1 H1 T1 S1 r1 q1 => ⟨M1, env, st1, S1, Fin.bindS q1 fun d2 st2 M2 v2 H2 T2 S2 r2 q2 =>
    ⟨v1, v2, rfl, q2 M2 _ H2 .refl ((S2.set (r1.mono T2)).set r2)⟩⟩⟩
theorem ds_aug {i : Nat} {n : PySem.Str} {op : Operator} {r : R2} {opD : Store → D → D → Option D} (hN : X.N.Nodup) (hi : X.N[i]? = some n) (hx : Loc X.env.scope n) (ho : OpR X (inplaceOp op) r) (hd : OpD W r opD) (h : DE X W E e x)
    (hf : X.fn n = true ∨ X.env.scope.names.lookup n = some .local := by first | exact .inl rfl | exact .inr rfl | assumption) : DS X W E (.AugAssign (.Name n pos') op e pos) (sAug i opD x) :=
  PSmono (ps_aug hN hi hx h (ti := r) ho hf) fun D0 σ H ⟨M, env, st, S, q⟩ => by
    unfold sAug at q
    cases e1 : env[i]? with
    | none => rw [e1] at q; exact q.elim
    | some o =>
      cases o with
      | none => rw [e1] at q; exact q.elim
      | some d0 =>
        rw [e1] at q
        simp only at q
        obtain ⟨v0, ev, r0⟩ := S.var i d0 e1
        refine ⟨v0, ev, M, env, st, S, Fin.bindS q fun d st1 M1 v H1 T1 S1 r1 q1 => hd E M1 σ H1 env st1 d0 d v0 v _ S1 (r0.mono T1) r1 ?_⟩
        cases e2 : opD st1 d0 d with
        | none => rw [e2] at q1; exact q1.elim
        | some dd =>
          rw [e2] at q1
          exact fun M2 w H2 T2 S2 r2 => q1 M2 _ H2 T2 (S2.set r2)
/-! ### for -/
def forVals (T : TgD) (body : EvT) : List D → Ent → Store → R (Out × Ent)
  | [], env, st => .ok (.nx, env) st
  | d :: ds, env, st => match T d env with
    | none => .no
    | some env1 => (body env1 st).bind fun o st2 => match o with
      | (.nx, env2) => forVals T body ds env2 st2
      | (.ct, env2) => forVals T body ds env2 st2
      | (.bk, env2) => .ok (.nx, env2) st2
      | (.rt d, env2) => .ok (.rt d, env2) st2
def forCell (n : Nat) (T : TgD) (body : EvT) : Nat → Nat → Ent → Store → R (Out × Ent)
  | 0, _, _, _ => .no
  | fuel + 1, i, env, st => match (Src.cell n).get st with
    | none => .no
    | some ds => match ds[i]? with
      | none => .ok (.nx, env) st
      | some d => match T d env with
        | none => .no
        | some env1 => (body env1 st).bind fun o st2 => match o with
          | (.nx, env2) => forCell n T body fuel (i + 1) env2 st2
          | (.ct, env2) => forCell n T body fuel (i + 1) env2 st2
          | (.bk, env2) => .ok (.nx, env2) st2
          | (.rt d, env2) => .ok (.rt d, env2) st2
def sFor (fuel : Nat) (it : EvS) (T : TgD) (body : EvT) : EvT := fun env st => (it env st).bind fun src st1 => match src with
  | .vals ds => forVals T body ds env st1
  | .cell n => forCell n T body fuel 0 env st1
theorem ds_for {fuel : Nat} {tg iter : Expr} {body : List Stmt} {it : EvS} {T : TgD} {is : List Nat} (hp : PassesOwn (model X.prog X.w) X.A X.env X.xe) (hc : X.calm = true) (hi : DI X W E tg iter it) (hg : DG X W tg T is) (hb : DSs X W E body f)
    (hs : ∀ x, foldedSetIterable iter X.env x = pure x := by intro _; rfl) : DS X W E (.For tg iter body [] pos) (sFor fuel it T f) := by
  obtain ⟨wi, pw, hw⟩ := hi
  obtain ⟨t, pt, ht⟩ := hg
  refine PSmono (ps_for hp hc pw pt hb hs) fun D0 σ H ⟨M, env, st, S, q⟩ => hw σ H _ ⟨M, env, st, S, ?_⟩
  unfold sFor at q
  cases e : it env st with
  | ex c xs st' => rw [e] at q; exact q
  | no => rw [e] at q; exact q
  | ok src st1 =>
    rw [e] at q
    intro M1 H1 J T1 S1 ok
    have q := FinS.step T1 q
    simp only [R.bind] at q
    have body_ok : ∀ {M' : MW} {σ' : L2.St} {H' : Hp} {env' : Ent} {st' : Store} {i : Nat} {es : List D} {m : Nat} {W' : Nat → Nat → L2.St → Hp → Prop} {rest : Ent → Store → R (Out × Ent)} {env1 : Ent} {d : D}, Stp M1 H1 M' H' → Sim W M' σ' H' env' st' → src.get st' = some es → es[i]? = some d → T d env' = some env1 →
        FinS W E ((f env1 st').bind fun o st2 => match o with | (.nx, env2) => rest env2 st2 | (.ct, env2) => rest env2 st2 | (.bk, env2) => .ok (.nx, env2) st2 | (.rt d, env2) => .ok (.rt d, env2) st2) M' H' D0 →
        (∀ M2 σ2 H2 env2 st2, Stp M1 H1 M2 H2 → Sim W M2 σ2 H2 env2 st2 → FinS W E (rest env2 st2) M2 H2 D0 → W' (i + 1) m σ2 H2) →
        J.go i H' ∧ ∃ N : L2.St → Hp → Prop, (∀ σ2 H2, N σ2 H2 → ∃ m', m' < m + 1 ∧ W' (i + 1) m' σ2 H2) ∧ ∀ x H3, J.yld i H' x H3 → t x σ' H3 fun σ2 H2 => lS W E f { D0 with nx := N, ct := N, bk := D0.nx } σ2 H2 := by
      intro M' σ' H' env' st' i es m W' rest env1 d TT SS ge ed et fin go
      have l := (List.getElem?_eq_some_iff.mp ed).1
      obtain ⟨g1, g2⟩ := (ok i M' H' st' es TT SS.s ge).1 l
      refine ⟨g1, fun σ2 H2 => W' (i + 1) m σ2 H2, fun σ2 H2 w => ⟨m, Nat.lt_succ_self _, w⟩, fun x H3 y => ?_⟩
      obtain ⟨gr, d', ed', rx⟩ := g2 x H3 y
      rw [ed] at ed'
      cases ed'
      have S3 := SS.grow gr
      refine ht M' σ' H3 env' env1 st' d x _ S3 rx et fun σ2 S4 _ => ⟨M', env1, st', S4, ?_⟩
      have fin := FinS.step (Stp.grow gr) fin
      match hf : f env1 st', fin with
      | .ok (.nx, env2) st2, fin => exact fun M5 σ5 H5 T5 S5 => go M5 σ5 H5 env2 st2 ((TT.trans (Stp.grow gr)).trans T5) S5 (FinS.step T5 fin)
      | .ok (.ct, env2) st2, fin => exact fun M5 σ5 H5 T5 S5 => go M5 σ5 H5 env2 st2 ((TT.trans (Stp.grow gr)).trans T5) S5 (FinS.step T5 fin)
      | .ok (.bk, env2) st2, fin => exact fin
      | .ok (.rt _, env2) st2, fin => exact fin
      | .ex _ _ _, fin => exact fin
      | .no, fin => exact fin
    cases src with
    | vals ds =>
      simp only at q
      refine ⟨fun i m σ' H' => ∃ (M' : MW) (env' : Ent) (st' : Store), Stp M1 H1 M' H' ∧ Sim W M' σ' H' env' st' ∧ m + i = ds.length ∧ FinS W E (forVals T f (ds.drop i) env' st') M' H' D0, ⟨ds.length, M1, env, st1, .refl, S1, rfl, q⟩, ?_⟩
      rintro i m σ' H' ⟨M', env', st', TT, SS, hm, fin⟩
      by_cases l : i < ds.length
      · rw [List.drop_eq_getElem_cons l] at fin
        simp only [forVals] at fin
        cases et : T ds[i] env' with
        | none => rw [et] at fin; exact fin.elim
        | some env1 =>
          rw [et] at fin
          obtain ⟨m', rfl⟩ : ∃ m', m = m' + 1 := ⟨m - 1, by omega⟩
          exact .inr (body_ok (m := m') (W' := (fun i m σ' H' => ∃ (M' : MW) (env' : Ent) (st' : Store), Stp M1 H1 M' H' ∧ Sim W M' σ' H' env' st' ∧ m + i = ds.length ∧ FinS W E (forVals T f (ds.drop i) env' st') M' H' D0)) (rest := forVals T f (ds.drop (i + 1))) TT SS rfl (List.getElem?_eq_getElem l) et fin fun M2 σ2 H2 env2 st2 T2 S2 fin2 => ⟨M2, env2, st2, T2, S2, by omega, fin2⟩)
      · rw [List.drop_eq_nil_of_le (by omega)] at fin
        exact .inl ⟨(ok i M' H' st' ds TT SS.s rfl).2 (by omega), fin M' σ' H' .refl SS⟩
    | cell n =>
      simp only at q
      refine ⟨fun i m σ' H' => ∃ (M' : MW) (env' : Ent) (st' : Store), Stp M1 H1 M' H' ∧ Sim W M' σ' H' env' st' ∧ FinS W E (forCell n T f m i env' st') M' H' D0, ⟨fuel, M1, env, st1, .refl, S1, q⟩, ?_⟩
      rintro i m σ' H' ⟨M', env', st', TT, SS, fin⟩
      cases m with
      | zero => simp only [forCell] at fin; exact fin.elim
      | succ m =>
        simp only [forCell] at fin
        cases ge : (Src.cell n).get st' with
        | none => rw [ge] at fin; exact fin.elim
        | some es =>
          rw [ge] at fin
          simp only at fin
          cases gi : es[i]? with
          | none =>
            rw [gi] at fin
            exact .inl ⟨(ok i M' H' st' es TT SS.s ge).2 (List.getElem?_eq_none_iff.mp gi), fin M' σ' H' .refl SS⟩
          | some d =>
            rw [gi] at fin
            simp only at fin
            cases et : T d env' with
            | none => rw [et] at fin; exact fin.elim
            | some env1 =>
              rw [et] at fin
              exact .inr (body_ok (m := m) (W' := (fun i m σ' H' => ∃ (M' : MW) (env' : Ent) (st' : Store), Stp M1 H1 M' H' ∧ Sim W M' σ' H' env' st' ∧ FinS W E (forCell n T f m i env' st') M' H' D0)) (rest := forCell n T f m (i + 1)) TT SS ge gi et fin fun M2 σ2 H2 env2 st2 T2 S2 fin2 => ⟨M2, env2, st2, T2, S2, fin2⟩)
/-! ### while -/
def whileGo (p : EvB) (body : EvT) : Nat → Ent → Store → R (Out × Ent)
  | 0, _, _ => .no
  | fuel + 1, env, st => (p env st).bind fun k st1 => if k then (body env st1).bind fun o st2 => match o with
      | (.nx, env2) => whileGo p body fuel env2 st2
      | (.ct, env2) => whileGo p body fuel env2 st2
      | (.bk, env2) => .ok (.nx, env2) st2
      | (.rt d, env2) => .ok (.rt d, env2) st2
    else .ok (.nx, env) st1
def sWhile (fuel : Nat) (p : EvB) (body : EvT) : EvT := whileGo p body fuel
theorem ds_while {fuel : Nat} {body : List Stmt} (hp : PassesOwn (model X.prog X.w) X.A X.env X.xe) (hc : DT X W E c p) (hb : DSs X W E body f) : DS X W E (.While c body [] pos) (sWhile fuel p f) := by
  refine PSmono (ps_while hp hc hb) fun D0 σ H ⟨M, env, st, S, q⟩ => ?_
  refine ⟨fun m σ' H' => ∃ (M' : MW) (env' : Ent) (st' : Store), Sim W M' σ' H' env' st' ∧ FinS W E (whileGo p f m env' st') M' H' D0, ⟨fuel, M, env, st, S, q⟩, ?_⟩
  rintro m σ' H' ⟨M', env', st', SS, fin⟩
  cases m with
  | zero => exact fin.elim
  | succ m =>
    simp only [whileGo] at fin
    refine ⟨M', env', st', SS, Fin.bindS fin fun k st1 M1 k' H1 T1 S1 e1 fin1 => ?_⟩
    subst e1
    cases k with
    | false => rw [if_neg Bool.false_ne_true] at fin1 ⊢; exact fin1 M1 σ' H1 .refl S1
    | true =>
      rw [if_pos rfl] at fin1 ⊢
      refine ⟨fun σ2 H2 => ∃ (M' : MW) (env' : Ent) (st' : Store), Sim W M' σ2 H2 env' st' ∧ FinS W E (whileGo p f m env' st') M' H2 D0, fun σ2 H2 w => ⟨m, Nat.lt_succ_self _, w⟩, M1, env', st1, S1, ?_⟩
      match hf : f env' st1, fin1 with
      | .ok (.nx, env2) st2, fin1 => exact fun M5 σ5 H5 T5 S5 => ⟨M5, env2, st2, S5, FinS.step T5 fin1⟩
      | .ok (.ct, env2) st2, fin1 => exact fun M5 σ5 H5 T5 S5 => ⟨M5, env2, st2, S5, FinS.step T5 fin1⟩
      | .ok (.bk, env2) st2, fin1 => exact fin1
      | .ok (.rt _, env2) st2, fin1 => exact fin1
      | .ex _ _ _, fin1 => exact fin1
      | .no, fin1 => exact fin1
end
end DL

set_option Elab.async false
set_option linter.all false
set_option maxRecDepth 100000
set_option maxHeartbeats 4000000
/-! DL15: defs and their calls. -/
namespace DL
open PySem PySem.Spec PyProof.Rows L2
def FinC (W : Wd) (E : XK) (r : R D) (M : MW) (H : Hp) (Q : VK) : Prop :=
  match r with
  | .ok d st' => ∀ (M' : MW) (v : V) (H' : Hp), Stp M H M' H' → SimS W M' H' st' → Rep W M' H' d v → Q v H'
  | .ex c xs st' => ∀ (M' : MW) (H' : Hp) (cls : Value) (dx : Option Addr), Stp M H M' H' → SimS W M' H' st' → W.XR M' H' c xs cls dx → E cls dx H'
  | .no => False
theorem FinC.step {W : Wd} {E : XK} {r : R D} {M M1 : MW} {H H1 : Hp} {Q : VK} (s : Stp M H M1 H1) (h : FinC W E r M H Q) : FinC W E r M1 H1 Q := by
  cases r with
  | ok a st' => exact fun M' b H' t => h M' b H' (s.trans t)
  | ex c xs st' => exact fun M' H' cls dx t => h M' H' cls dx (s.trans t)
  | no => exact h
def spD (W : Wd) (n : Nat) (g : List D → Store → R D) : Sp := fun vs H Q E => vs.length = n ∧ ∃ (M : MW) (ds : List D) (st : Store), SimS W M H st ∧ Reps W M H ds vs ∧ FinC W E (g ds st) M H Q
def runF (n N : Nat) (f : EvT) : List D → Store → R D := fun ds st => (f (ds.map some ++ List.replicate (N - n) none) st).bind fun o st' => match o with
  | (.nx, _) => .ok .non st'
  | (.rt d, _) => .ok d st'
  | _ => .no
theorem sim_start {W : Wd} {M : MW} {H : Hp} {ds : List D} {vs : List V} {st : Store} {N : List PySem.Str} {n : Nat} (S : SimS W M H st) (r : Reps W M H ds vs) (hn : vs.length = n) : Sim W M (L2.start N vs) H (ds.map some ++ List.replicate (N.length - n) none) st := by
  have l := r.length
  subst hn
  refine ⟨S, by simp [L2.start, l], fun i d e => ?_⟩
  by_cases h : i < ds.length
  · rw [List.getElem?_append_left (by simpa using h), List.getElem?_map] at e
    have e' : ds[i]? = some d := by
      cases q : ds[i]? with
      | none => rw [q] at e; cases e
      | some x => rw [q] at e; cases e; rfl
    obtain ⟨v, h1, h2⟩ := r.get e'
    refine ⟨v, ?_, h2⟩
    unfold L2.start
    rw [List.getElem?_append_left (by simpa [← l] using h), List.getElem?_map, h1]
    rfl
  · rw [List.getElem?_append_right (by simpa using h), List.getElem?_replicate] at e
    split at e <;> cases e
section
variable {P : Program} {w : World} {K : PySem.W.Frag} {mg : PySem.Str → Option Value} {base : Heap} {W : Wd}
theorem gokD {x qual : PySem.Str} {params : Arguments} {body : List Stmt} {scope : Scope} {dvs : List V} {kws : List (PySem.Str × V)} {fa : Addr} {fd : FuncData} {k n m : Nat} {N ps : List PySem.Str} {f : EvT} {T : CXT} (F : FunD K x qual params body scope dvs kws fa fd) (S : FnScope N ps scope)
    (hb : ∀ (cdv : Value) (B : Around) (up : List Env) (z : Shared) (H : Hp) (E : XK), Free k (B.deeper (envOfC qual scope z.heap.objs.size fa cdv)) → DSs (cxOf T P w K mg base N qual scope fa cdv B up z H E) W E body f)
    (hn : ps.length = n := by rfl) (hm : N.length = m := by rfl) :
    GOk P w K mg base T (k + 1) fa fd ps (spD W n (runF n m f)) := by
  subst hn hm
  obtain ⟨oc, od, dV, kV, doc, pm, an, cdv, ct, osl, rfl, lk, hcd, _, _⟩ := F.ex
  refine gok_of lk hcd S (fun vs H Q E h => h.1) fun B up z H vs Q E fr hsp => ⟨_, hb cdv B up z H E fr, ?_⟩
  obtain ⟨hl, M, ds, st, SS, r, fin⟩ := hsp
  refine ⟨M, _, st, sim_start SS r hl, ?_⟩
  unfold runF at fin
  match hf : f (ds.map some ++ List.replicate (N.length - ps.length) none) st, fin with
  | .ok (.nx, env1) st1, fin => exact fun M' σ' H' t S' => fin M' .non H' t S'.s .non
  | .ok (.bk, env1) st1, fin => exact fin.elim
  | .ok (.ct, env1) st1, fin => exact fin.elim
  | .ok (.rt d, env1) st1, fin => exact fin
  | .ex _ _ _, fin => exact fin
  | .no, fin => exact fin
/-- a def that may be called -/
def Cal (P : Program) (w : World) (K : PySem.W.Frag) (mg : PySem.Str → Option Value) (base : Heap) (T : CXT) (W : Wd) (k : Nat) (x : PySem.Str) (i n : Nat) (g : List D → Store → R D) : Prop :=
  ∃ (fd : FuncData) (ps : List PySem.Str), GOk P w K mg base T k (W.F i) fd ps (spD W n g) ∧ mg x = some (.ref (W.F i)) ∧ PySem.W.keepIn K (.ref (W.F i)) = true ∧ Binds K fd ps []
end
/-! ### calls -/
mutual
/-- data without a cell -/
def pur : D → Bool
  | .ref _ => false
  | .tup xs => purs xs
  | .lst xs => purs xs
  | _ => true
def purs : List D → Bool
  | [] => true
  | d :: ds => pur d && purs ds
end
section
variable {W : Wd} {M M' : MW} {H : Hp}
mutual
theorem Rep.re (hm : ∀ a : Addr, ∀ o, H a = some o → ¬ M.mu a → ¬ M'.mu a) : ∀ {d : D} {v : V}, pur d = true → Rep W M H d v → Rep W M' H d v
  | _, _, _, .non => .non
  | _, _, _, .bl b => .bl b
  | _, _, _, .int b => .int b
  | _, _, _, .str b => .str b
  | _, _, p, .tup h r => .tup h (Reps.re hm p r)
  | _, _, p, .lst h m r => .lst h (by
      obtain ⟨o, e⟩ := Rd.some h
      exact hm _ o e m) (Reps.re hm p r)
  | _, _, p, .ref _ => nomatch p
  | _, _, _, .fn n => .fn n
  | _, _, _, .rng h => .rng h
theorem Reps.re (hm : ∀ a : Addr, ∀ o, H a = some o → ¬ M.mu a → ¬ M'.mu a) : ∀ {ds : List D} {vs : List V}, purs ds = true → Reps W M H ds vs → Reps W M' H ds vs
  | _, _, _, .nil => .nil
  | _, _, p, .cons h r => .cons (Rep.re hm (by
      simp only [purs, Bool.and_eq_true] at p; exact p.1) h) (Reps.re hm (by
      simp only [purs, Bool.and_eq_true] at p; exact p.2) r)
end
end
/-- what comes back from a call on an empty store -/
def outD (d : D) (st : Store) : Option D := match d with
  | .ref n => match st[n]? with
    | some (.lst xs) => if purs xs then some (.lst xs) else none
    | _ => none
  | d => if pur d then some d else none
/-- a call that shares the store -/
def eCallR (g : List D → Store → R D) (as : EvL) : Ev := fun env st => (as env st).bind fun ds st1 => g ds st1
/-- a call upon data alone -/
def appP (g : List D → Store → R D) (ds : List D) : Option D := if purs ds then match g ds [] with
  | .ok d st => outD d st
  | _ => none else none
def eCallP (g : List D → Store → R D) (as : EvL) : Ev := fun env st => (as env st).bind fun ds st1 => R.ofO (appP g ds) st1
section
variable {X : Cx} {T : CXT} {W : Wd} {E : XK} {k lv i n : Nat} {x : PySem.Str} {g : List D → Store → R D} {as : EvL} {e : Expr} {es : List Expr} {p pos : Pos}
theorem Fin.call {σ : L2.St} {env : Ent} {r : R D} {M : MW} {H : Hp} {st : Store} {Q : VK} (S : Sim W M σ H env st) (h : Fin W E (relD W) σ env r M H Q) : FinC W E r M H Q := by
  cases r with
  | ok d st' => exact fun M' v H' t S' => h M' v H' t (S.step t S')
  | ex c xs st' => exact h
  | no => exact h
theorem callP {M : MW} {H : Hp} {st : Store} {σ : L2.St} {env : Ent} {Q : VK} {ds : List D} {vs : List V} (S : Sim W M σ H env st) (r : Reps W M H ds vs) (h : Fin W E (relD W) σ env (R.ofO (appP g ds) st) M H Q) (hl : vs.length = n) : spD W n g vs H Q E := by
  unfold appP at h
  by_cases hp : purs ds = true
  · rw [if_pos hp] at h
    let M0 : MW := ⟨M.mu, []⟩
    refine ⟨hl, M0, ds, [], ⟨rfl, List.nodup_nil, fun a m => (nomatch m), fun n c a m => by simp at m⟩, Reps.re (M := M) (M' := M0) (fun _ _ _ m => m) hp r, ?_⟩
    cases hg : g ds [] with
    | ex c xs s => rw [hg] at h; exact h.elim
    | no => rw [hg] at h; exact h.elim
    | ok d s =>
      rw [hg] at h
      simp only at h
      intro M' v H' t S' r'
      let M2 : MW := ⟨fun a => M'.mu a ∧ a ∉ M'.rho, M.rho⟩
      have keep : ∀ a o, H a = some o → H' a = some o := fun a o q => t.keep a o q (.inl (by simp [M0]))
      have old : ∀ a o, H a = some o → a ∉ M'.rho := fun a o q m => by
        rcases t.fresh a m with z | z
        · cases z
        · rw [q] at z; cases z
      have mu2 : ∀ a o, H a = some o → (M2.mu a ↔ M.mu a) := fun a o q => ⟨fun z => (t.mu a o q).mp z.1, fun z => ⟨(t.mu a o q).mpr z, old a o q⟩⟩
      have T2 : Stp M H M2 H' := ⟨fun a o q _ => keep a o q, ⟨[], by simp [M2]⟩, fun a m => .inl m, mu2, fun a o q => ⟨o, keep a o q⟩⟩
      have S2 : SimS W M2 H' st := ⟨S.s.len, S.s.nd, fun a m => by
        obtain ⟨o, q⟩ := S.s.here m
        exact (mu2 a o q).mpr (S.s.mu a m), fun n c a h1 h2 => (S.s.cell n c a h1 h2).mono T2 fun o q => keep a o q⟩
      have wk : ∀ a o, H' a = some o → ¬ M'.mu a → ¬ M2.mu a := fun a o _ m z => m z.1
      cases ho : outD d s with
      | none => rw [ho] at h; exact h.elim
      | some d2 =>
        rw [ho] at h
        refine h M2 v H' T2 (S.step T2 S2) ?_
        have plain : (if pur d = true then some d else none) = some d2 → Rep W M2 H' d2 v := fun q => by
          by_cases pd : pur d = true
          · rw [if_pos pd] at q; cases q; exact r'.re wk pd
          · rw [if_neg pd] at q; cases q
        cases d with
        | ref m =>
          simp only [outD] at ho
          cases r' with
          | ref hm =>
            rename_i a
            cases hc : s[m]? with
            | none => rw [hc] at ho; cases ho
            | some c =>
              rw [hc] at ho
              cases c with
              | dct kvs => cases ho
              | lst xs =>
                simp only at ho
                by_cases px : purs xs = true
                · rw [if_pos px] at ho
                  cases ho
                  cases S'.cell m _ a hc hm with
                  | lst ha rx => exact .lst (.inl ha) (fun z => z.2 (List.mem_of_getElem? hm)) (rx.re wk px)
                · rw [if_neg px] at ho; cases ho
        | non => exact plain ho
        | bl b => exact plain ho
        | int b => exact plain ho
        | str b => exact plain ho
        | tup b => exact plain ho
        | lst b => exact plain ho
        | fn b => exact plain ho
        | rng b c => exact plain ho
  · rw [if_neg hp] at h; exact h.elim
theorem de_callR (C : Cal X.prog X.w X.K X.mg X.base T W lv x i n g) (fr : Free k X.A) (hx : Passes T X E) (hg : Gl X x) (ha : DA X W E (e :: es) as) (hk : lv ≤ k := by decide) (hn : (e :: es).length = n := by rfl)
    (hdb : (x == ("__debug__" : PySem.Str)) = false := by decide) (he : starEach (e :: es) X.env = (false, eval e X.env) :: starEach es X.env := by rfl) (hpl : (backTo pos (starEach es X.env)).any (·.1) = false := by rfl)
    (hlen : ∀ env st ds st1, as env st = .ok ds st1 → ds.length = n) :
    DE X W E (.Call (.Name x p) (e :: es) [] pos) (eCallR g as) := by
  obtain ⟨fd, ps, G, hm, hkp, hb⟩ := C
  refine PEmono (ge_call G (fr.mono hk) hg hm hkp hb hx ha hdb he hpl) fun σ H Q ⟨M, env, st, S, q⟩ => ⟨M, env, st, S, ?_⟩
  unfold eCallR at q
  cases hf : as env st with
  | ex c xs s => rw [hf] at q; exact q
  | no => rw [hf] at q; exact q
  | ok ds st1 =>
    rw [hf] at q
    intro M1 vs H1 T1 S1 r1
    exact ⟨r1.length.symm.trans (hlen _ _ _ _ hf), M1, ds, st1, S1.s, r1, Fin.call S1 (Fin.step T1 q)⟩
theorem de_callP (C : Cal X.prog X.w X.K X.mg X.base T W lv x i n g) (fr : Free k X.A) (hx : Passes T X E) (hg : Gl X x) (ha : DA X W E (e :: es) as) (hk : lv ≤ k := by decide) (hn : (e :: es).length = n := by rfl)
    (hdb : (x == ("__debug__" : PySem.Str)) = false := by decide) (he : starEach (e :: es) X.env = (false, eval e X.env) :: starEach es X.env := by rfl) (hpl : (backTo pos (starEach es X.env)).any (·.1) = false := by rfl)
    (hlen : ∀ env st ds st1, as env st = .ok ds st1 → ds.length = n) :
    DE X W E (.Call (.Name x p) (e :: es) [] pos) (eCallP g as) := by
  obtain ⟨fd, ps, G, hm, hkp, hb⟩ := C
  refine PEmono (ge_call G (fr.mono hk) hg hm hkp hb hx ha hdb he hpl) fun σ H Q ⟨M, env, st, S, q⟩ => ⟨M, env, st, S, ?_⟩
  unfold eCallP at q
  cases hf : as env st with
  | ex c xs s => rw [hf] at q; exact q
  | no => rw [hf] at q; exact q
  | ok ds st1 =>
    rw [hf] at q
    intro M1 vs H1 T1 S1 r1
    exact callP S1 r1 (Fin.step T1 q) (r1.length.symm.trans (hlen _ _ _ _ hf))
end
/-! lengths of the arguments -/
def LenA (as : EvL) (n : Nat) : Prop := ∀ env st ds st1, as env st = .ok ds st1 → ds.length = n
theorem len_nil : LenA aNil 0 := fun env st ds st1 h => by cases h; rfl
theorem len_cons {f : Ev} {g : EvL} {n : Nat} (h : LenA g n) : LenA (aCons f g) (n + 1) := fun env st ds st1 q => by
  unfold aCons at q
  cases hf : f env st with
  | ex c xs s => rw [hf] at q; cases q
  | no => rw [hf] at q; cases q
  | ok a s =>
    rw [hf] at q
    simp only [R.bind] at q
    cases hg : g env s with
    | ex c xs s => rw [hg] at q; cases q
    | no => rw [hg] at q; cases q
    | ok as s2 => rw [hg] at q; cases q; rw [List.length_cons, h _ _ _ _ hg]
end DL

set_option Elab.async false
set_option linter.all false
set_option maxRecDepth 100000
set_option maxHeartbeats 4000000
/-! DL16: the law's own call, K without the script. -/
namespace DL
open PySem PySem.Spec PyProof.Rows L2
def less (K : PySem.W.Frag) (a : Addr) : PySem.W.Frag := K.filter fun p => !(p.1 == a)
theorem less_at (K : PySem.W.Frag) (a : Addr) : (less K a).lookup a = none := by
  unfold less
  induction K with
  | nil => rfl
  | cons p r ih =>
    obtain ⟨b, x⟩ := p
    by_cases h : b = a
    · subst h; simpa using ih
    · rw [List.filter_cons_of_pos (by simpa using h)]
      have h2 : (a == b) = false := by simpa using fun z : a = b => h z.symm
      rw [List.lookup_cons, h2]
      exact ih
theorem less_ne (K : PySem.W.Frag) {a b : Addr} (h : b ≠ a) : (less K a).lookup b = K.lookup b := by
  unfold less
  induction K with
  | nil => rfl
  | cons p r ih =>
    obtain ⟨c, x⟩ := p
    by_cases q : c = a
    · subst q
      rw [List.filter_cons_of_neg (by simp), List.lookup_cons]
      have h2 : (b == c) = false := by simpa using h
      rw [h2]
      exact ih
    · rw [List.filter_cons_of_pos (by simpa using q), List.lookup_cons, List.lookup_cons, ih]
theorem less_in {K : PySem.W.Frag} {a : Addr} {h : Heap} (X : K.In h) : (less K a).In h := fun b o e => by
  by_cases q : b = a
  · subst q; rw [less_at] at e; cases e
  · rw [less_ne K q] at e; exact X b o e
/-- what stands at a is no def and no code -/
def NoFn (K : PySem.W.Frag) (a : Addr) : Prop := ∀ o, K.lookup a = some o → ∃ vs n, o.data = .seq vs n
theorem NoFn.look {K : PySem.W.Frag} {a b : Addr} {o : Obj} (N : NoFn K a) (h : K.lookup b = some o) (hd : ∀ vs n, o.data ≠ .seq vs n) : (less K a).lookup b = some o := by
  by_cases q : b = a
  · subst q
    obtain ⟨vs, n, e⟩ := N o h
    exact absurd e (hd vs n)
  · rw [less_ne K q, h]
theorem NoFn.funD {K : PySem.W.Frag} {a f : Addr} {fd : FuncData} {x qual : PySem.Str} {params : Arguments} {body : List Stmt} {scope : Scope} (N : NoFn K a) (F : FunD K x qual params body scope [] [] f fd) : FunD (less K a) x qual params body scope [] [] f fd := by
  obtain ⟨oc, od, dV, kV, doc, pm, an, cdv, ct, osl, e, lk, hcd, hD, _⟩ := F.ex
  have kp := F.kp
  refine ⟨⟨oc, od, dV, kV, doc, pm, an, cdv, ct, osl, e, N.look lk (fun _ _ z => by simp at z), ?_, ?_, .inl rfl⟩, ?_⟩
  · unfold PySem.W.codeIn at hcd ⊢
    cases cdv with
    | ref c =>
      simp only at hcd ⊢
      cases hl : K.lookup c with
      | none => rw [hl] at hcd; simp at hcd
      | some o =>
        rw [hl] at hcd
        obtain ⟨c1, d1, dt, s1⟩ := o
        cases dt with
        | fields vs => rw [N.look hl (fun _ _ z => by simp at z)]; exact hcd
        | _ => simp at hcd
    | _ => simp at hcd
  · rcases hD with ⟨h1, h2⟩ | ⟨h1, _⟩
    · exact .inl ⟨h1, h2⟩
    · exact absurd rfl h1
  · show (match (less K a).lookup f with | some ⟨_, _, .func _, _⟩ => true | some ⟨_, _, .cls _, _⟩ => PySem.W.specialIn (less K a) (.ref f) "__call__" == some (some (.builtin "type.__call__")) | _ => false) = true
    rw [N.look lk (fun _ _ z => by simp at z)]
section
/-- the goal that the head leaves -/
theorem gwalk2 {l : PySem.W.OpenLaw} {n k : Nat} {q : Program} {loose : List PySem.Str} {XP : (PySem.Str → Option Value) → Heap → Prop} {YP : World → Heap → Prop} {d : DefRec} {T : World → CXT} {x : PySem.Str}
    (hn : l.most = some n) (hn2 : n ≤ sizeLine) (hdf : d.params.defaults = []) (hr : Room k callerA)
    (F : ∀ (w : World) (mg : PySem.Str → Option Value) (f a : Addr) (h : Heap) (us : List Value), YP w h → h.Ns mainGlobals mg → mg d.name = some (.ref f) → h.get? a = some { cls := .type "list", data := .seq us.toArray } →
      ∃ (K : PySem.W.Frag) (fd : FuncData) (sp : Sp), K.lookup a = none ∧ K.In h ∧ (∀ (s : Shared) (u : Value), BindsTo s fd ⟨[u], []⟩ [(x, u)]) ∧
        (∀ (H : Hp) (ns : List Int), ns.length ≤ n → OnlyAt a H → Rd H a (.lst (ns.map V.int)) → sp [.ref a] H (fun v _ => v = .bl true) fun _ _ _ => False) ∧
        ∀ base : Heap, K.In base → base.Ns mainGlobals mg → GOk l.prog w K mg base (T w) k f fd [x] sp)
    (noT : ∀ (w : World) (H : Hp) (s : Shared) (e : Value) (s' : Shared), T w [] H s (fun _ _ _ => False) e s' → False) :
    PySem.W.WalkO q loose XP YP l.row.toRowW d [] (fun f vs => PySem.call f vs) := by
  apply Att.attach_call hn hdf
  intro w s0 z mg mb f o pm cd doc a us ns G Y ho hd hcd hmg hobj hints hlen hg
  obtain ⟨K, fd, sp, hK, KX, bind, hsp, hF⟩ := F w mg f a _ us Y G.T.g hmg hobj
  exact glaw KX G.T.g G.T.b G.T.builtins G.T.nolimit hg hobj hints (Nat.le_trans hlen hn2) hr hF bind hK (fun H hO hS => hsp H ns hlen hO hS) fun H e s' t => noT w H z e s' t
end
end DL

set_option Elab.async false
set_option linter.all false
set_option maxRecDepth 100000
set_option maxHeartbeats 4000000
/-! DL17: enumerate over a list or a tuple; reversed; range with step. -/
namespace DL
open PySem PySem.Spec PyProof.Rows L2
set_option maxHeartbeats 1000000 in
theorem meets_enum1 {v : Value} {o : Obj} {H : Heap → Prop} (B : Begins v o H) :
    Meets (Builtin.«enumerate.__new__» ⟨[.type "enumerate", v], []⟩) (fun _ R s => H s.heap ∧
      R (.ok (.ret (.ref (s.heap.push o).objs.size))) { s with heap := (s.heap.push o).push { cls := .type "enumerate", data := .fields #[.none, .bool false, .ref s.heap.objs.size, rawInt 0, .none, .none] } }) :=
  .of_wp fun prog w A R s h => by
    obtain ⟨hp, g, d, tk, os⟩ := s; obtain ⟨h1, h⟩ := h
    have hsub := sub_enumerate
    have q1 : ∀ {A' : Around} {E : Value → Shared → Prop} {Q : Value → Shared → Prop}, Q (.ref hp.objs.size) ⟨hp.push o, g, d, tk, os⟩ → wpAny (model prog w) A' (pyIter v) Q E ⟨hp, g, d, tk, os⟩ :=
      fun q => B.iter prog w _ _ ⟨hp, g, d, tk, os⟩ _ h1 q
    wp_walk using q1
    refine wpAny_stack_any fun st => wpAny_pure ?_
    split
    · rename_i c _ _ _ _ _
      cases (c == Value.type "enumerate")
      · wp_walk using q1
        exact ⟨_, rfl, h⟩
      · wp_walk using q1
        exact ⟨_, rfl, h⟩
    · wp_walk using q1
      exact ⟨_, rfl, h⟩
section
variable {prog : Program} {w : World} {A : Around} {E : Value → Shared → Prop} {s : Shared}
theorem call_enum1 {v : Value} {o : Obj} {H : Heap → Prop} {Q : Value → Shared → Prop} (B : Begins v o H) (h1 : H s.heap)
    (h : ∀ h', IsEnum h' (s.heap.objs.size + 1) s.heap.objs.size 0 .none → h'.get? s.heap.objs.size = some o → h'.objs.size = s.heap.objs.size + 2 →
      (∀ b o, s.heap.get? b = some o → h'.get? b = some o) → Q (.ref (s.heap.objs.size + 1)) { s with heap := h' }) :
    wpAny (model prog w) A (call (.type "enumerate") [v]) Q E s := by
  refine callType_new F.called_enumerate (by decide) (F.typeCall_enumerate_1 _) (F.newCall_enumerate_1 _) (fun obj => F.args_object_init_2 obj _) F.entry_enumerate_new
    (meets_enum1 B) ⟨h1, ?_⟩
  have hz : (s.heap.push o).objs.size = s.heap.objs.size + 1 := Heap.size_push ..
  show _ ∧ _
  rw [hz]
  have he : IsEnum ((s.heap.push o).push { cls := .type "enumerate", data := .fields #[.none, .bool false, .ref s.heap.objs.size, rawInt 0, .none, .none] }) (s.heap.objs.size + 1) s.heap.objs.size 0 .none := by
    have := Heap.get?_push_size (s.heap.push o) (o := { cls := .type "enumerate", data := .fields #[.none, .bool false, .ref s.heap.objs.size, rawInt 0, .none, .none] }) rfl
    rw [hz] at this; exact this
  refine ⟨⟨_, he, rfl⟩, h _ he (Heap.get?_push_of_some _ (Heap.get?_push_size _ B.free)) (by rw [Heap.size_push, hz]) fun b o x => Heap.get?_push_of_some _ (Heap.get?_push_of_some _ x)⟩
end
def IteT (K : PySem.W.Frag) (a : Addr) : It :=
  ⟨fun i H => ∃ (xs : List V) (x : V), SqT K H a xs ∧ xs[i]? = some x, fun i H v H' => ∃ T x, v = .ref T ∧ H T = none ∧ H' = upd H T (.tup [.int (i : Nat), x]) ∧ ∀ xs, SqT K H a xs → xs[i]? = some x, fun i H => ∃ xs : List V, SqT K H a xs ∧ xs.length ≤ i⟩
theorem turn_enumT {P : Program} {w : World} {K : PySem.W.Frag} {elts : List Expr} {kk : Nat} {tpos : Pos} (a e it : Addr) (hae : a ≠ it) :
    Turn P w K (.Tuple elts kk tpos) (IteT K a) [e, it] e (fun i h => (∃ old, IsEnum h e it ((i : Nat) : Int) old) ∧ h.IsTupleIter it a i ∧ e ≠ it ∧ a ≠ e) where
  mem := by simp
  obj := fun i h st b hb => by
    obtain ⟨⟨old, he⟩, ⟨o, ho, hc, hd⟩, _⟩ := st
    have e' : b = e ∨ b = it := by simpa using hb
    rcases e' with z | z
    · rw [z]; exact ⟨_, he, fun v q => nomatch q⟩
    · rw [z]; exact ⟨o, ho, fun v q => by rw [hd] at q; cases q⟩
  keep := fun i h h' st k => let ⟨⟨old, he⟩, hi, hne⟩ := st; ⟨⟨old, k e (by simp) _ he⟩, hi.at fun o q => k it (by simp) o q, hne⟩
  item := by
    intro X hP hw hK hc i pins s σ H E I hf st hg
    subst hP hw hK
    obtain ⟨⟨old, he⟩, hit, hne, hne2⟩ := st
    obtain ⟨xs, x, hq, hx⟩ := hg
    obtain ⟨its, rv, p, hz⟩ := I.tuple hq
    obtain ⟨u, hu, ru⟩ := rv.get hx
    have hel : e < s.heap.objs.size := Heap.lt_size he
    have hil : it < s.heap.objs.size := by obtain ⟨_, q, _⟩ := hit; exact Heap.lt_size q
    have p' : s.heap.IsTuple a its.toArray := p
    have D := Draws.tuple (prog := X.prog) (w := X.w) (A := X.A.in1) (I.ok.hd hc) it a hae its.toArray
    have hil2 : i < its.toArray.size := by
      rw [List.size_toArray]; exact (List.getElem?_eq_some_iff.mp hu).1
    refine wpAny_pyNext_enum_itemD D he ⟨hit, p'⟩ hil2 hne (by simp [hne, hne2.symm]) fun x1 h' tk hP ho hs' hT hsz hk => ?_
    have ex : x1 = u := by
      have z : its.toArray[i]? = some u := by simpa using hu
      exact Option.some.inj (hP.symm.trans z)
    subst ex
    refine ⟨_, rfl, wpAny_letOwnedTupleGo_enum (s := { s with heap := h', toks := tk + 1 }) ho fun h'' he' sb => ?_⟩
    have hT2 : h''.get? s.heap.objs.size = some { cls := .type "tuple", data := .seq #[.int i tk, x1] } := (sb.2 _ (Nat.ne_of_gt hel)).trans hT
    have new : ObjOk X.prog X.w (upd H s.heap.objs.size (.tup [.int (i : Nat), x])) h'' s.heap.objs.size (.tup [.int (i : Nat), x]) :=
      ⟨by show 2 ≤ sizeLine; decide, [.int i tk, x1], .cons ⟨_, rfl⟩ (.cons ru .nil), ⟨_, hT2, rfl, _, rfl⟩⟩
    have I1 : Inv X pins σ (upd H s.heap.objs.size (.tup [.int (i : Nat), x])) { s with heap := h'', toks := tk + 1 } :=
      I.turnedNew (ch := [e, it]) (fun b ob hb q => (sb.2 b (fun z => hb (by simp [z]))).trans (hk b ob (fun z => hb (by simp [z])) (fun z => hb (by simp [z])) q)) hf (Nat.le_refl _) new
    refine ⟨.ref s.heap.objs.size, _, I1, rfl, ⟨_, x, rfl, I.hok.fresh (Nat.le_refl _), rfl, fun ys hy => by rw [I.tuple_inj hy hq]; exact hx⟩, ⟨⟨x1, ?_⟩, hs'.1.at fun o q => (sb.2 it (Ne.symm hne)).trans q, hne, hne2⟩, fun b hb => ?_⟩
    · have e1 : ((i + 1 : Nat) : Int) = (i : Int) + 1 := by omega
      rw [e1]; exact he'
    · have hb' : b < s.heap.objs.size := by
        have e' : b = e ∨ b = it := by simpa using hb
        rcases e' with z | z
        · rw [z]; exact hel
        · rw [z]; exact hil
      rw [upd_ne (Nat.ne_of_lt hb')]
      exact (hf b hb).1
  done := by
    intro X hP hw hK hc i pins s σ H E I hf st hg
    subst hP hw hK
    obtain ⟨⟨old, he⟩, hit, hne, hne2⟩ := st
    obtain ⟨xs, hq, hx⟩ := hg
    obtain ⟨its, rv, p, hz⟩ := I.tuple hq
    obtain ⟨f0, f1, f2, f3, f4, f5⟩ := hf it (by simp)
    have hl := rv.length
    have p' : s.heap.IsTuple a its.toArray := p
    have hend : its.toArray[i]? = none := by simp; omega
    have D : Draws X.prog X.w X.A.in1 it [it, a] i (fun _ _ => True) (fun j h => j = i ∧ h.IsTupleIter it a i ∧ h.IsTuple a its.toArray) := {
      live := fun _ _ st => let ⟨o, ho, _⟩ := st.2.1; ⟨o, ho⟩
      frame := fun _ _ _ st hk => ⟨st.1, st.2.1.at fun o e => hk it (by simp) o e, st.2.2.at fun o e => hk a (by simp) o e⟩
      item := fun j s Q E hj st hQ => absurd st.1 (Nat.ne_of_lt hj)
      done := fun s Q E st hE => wpAny_nextOf_tuple_end (show X.A.in1.handled = none from I.ok.hd hc) st.2.1 st.2.2 hend hE }
    exact wpAny_pyNext_enum_endD D he ⟨rfl, hit, p'⟩ fun h' eb => ⟨rfl, I.turned (t' := s.toks) (fun b o hb q => eb b o hb q) f0 f1 f3 f4 f5⟩
  self := fun A i s Q E st h => let ⟨⟨_, he⟩, _⟩ := st; wpAny_pyIter_enum he h
def iEnumA (K : PySem.W.Frag) (te : TE) : TI := fun σ H R => te σ H fun v H1 => ∃ (a : Addr) (xs : List V), v = .ref a ∧ ((SqL K H1 a xs ∧ R (Ite K a) H1) ∨ (SqT K H1 a xs ∧ R (IteT K a) H1))
section
variable {X : Cx}
theorem pi_enumA {e : Expr} {te : TE} {p pos tpos : Pos} {elts : List Expr} {kk : Nat} (hg : Gl X "enumerate") (hm : X.mg "enumerate" = none) (he : PE X e te) (hs : starEach [e] X.env = (false, eval e X.env) :: starEach [] X.env := by rfl) :
    PI X (.Tuple elts kk tpos) (.Call (.Name "enumerate" p) [e] [] pos) (iEnumA X.K te) := by
  refine ⟨fun pins s σ H R I h => ?_⟩
  refine Call_ (ld_blt I hg hm boot_enumerate (PyProof.Rows.callWith_type1 (args_cons (thn (he.run pins s σ H _ I h) fun u s1 ⟨v, H1, I1, r1, q1⟩ => args_nil ?_) hs) hs rfl))
  obtain ⟨a, xs, ev, q⟩ := q1
  subst ev
  obtain rfl : u = Value.ref a := r1
  rcases q with ⟨hq, q⟩ | ⟨hq, q⟩
  · obtain ⟨its, rv, p', hz⟩ := I1.list hq
    refine call_enumerate_list p'.isList fun h' he hit hsz hk => wpAny_pyIter_enum he ?_
    have I2 : Inv X pins σ H1 { s1 with heap := h' } := I1.kept (t' := s1.toks) hk
    refine ⟨s1.heap.objs.size + 1, [s1.heap.objs.size + 1, s1.heap.objs.size], _, _, H1, rfl, I2, turn_enum a (s1.heap.objs.size + 1) s1.heap.objs.size, ⟨⟨.none, he⟩, hit, Nat.succ_ne_self _⟩, fun b hb => ?_, q⟩
    have e' : b = s1.heap.objs.size + 1 ∨ b = s1.heap.objs.size := by simpa using hb
    have hle : s1.heap.objs.size ≤ b := by
      rcases e' with z | z
      · rw [z]; exact Nat.le_add_right _ _
      · rw [z]; exact Nat.le_refl _
    exact I1.fpOk hle (I1.hok.fresh hle)
  · obtain ⟨its, rv, p', hz⟩ := I1.tuple hq
    have pt : s1.heap.IsTuple a its.toArray := p'
    have al : a < s1.heap.objs.size := by obtain ⟨o, q, _⟩ := pt; exact Heap.lt_size q
    refine call_enum1 (B := begins_tuple a its.toArray) pt fun h' he ho hsz hk => wpAny_pyIter_enum he ?_
    have hit : h'.IsTupleIter s1.heap.objs.size a 0 := ⟨_, ho, rfl, rfl⟩
    have I2 : Inv X pins σ H1 { s1 with heap := h' } := I1.kept (t' := s1.toks) hk
    refine ⟨s1.heap.objs.size + 1, [s1.heap.objs.size + 1, s1.heap.objs.size], _, _, H1, rfl, I2, turn_enumT a (s1.heap.objs.size + 1) s1.heap.objs.size (Nat.ne_of_lt al), ⟨⟨.none, he⟩, hit, Nat.succ_ne_self _, Nat.ne_of_lt (Nat.lt_succ_of_lt al)⟩, fun b hb => ?_, q⟩
    have e' : b = s1.heap.objs.size + 1 ∨ b = s1.heap.objs.size := by simpa using hb
    have hle : s1.heap.objs.size ≤ b := by
      rcases e' with z | z
      · rw [z]; exact Nat.le_add_right _ _
      · rw [z]; exact Nat.le_refl _
    exact I1.fpOk hle (I1.hok.fresh hle)
end
/-! ### data -/
def enumGo : Nat → List D → List D
  | _, [] => []
  | i, d :: ds => .tup [.int (i : Nat), d] :: enumGo (i + 1) ds
def enumD (ds : List D) : List D := enumGo 0 ds
theorem enumGo_get : ∀ (ds : List D) (k i : Nat), (enumGo k ds)[i]? = ds[i]?.map fun d => .tup [.int ((k + i : Nat) : Int), d]
  | [], k, i => rfl
  | d :: ds, k, 0 => rfl
  | d :: ds, k, i + 1 => by
    show (enumGo (k + 1) ds)[i]? = _
    rw [enumGo_get ds (k + 1) i, List.getElem?_cons_succ]
    have e : k + 1 + i = k + (i + 1) := by omega
    rw [e]
theorem enumD_len (ds : List D) : (enumD ds).length = ds.length := by
  have : ∀ (ds : List D) (k : Nat), (enumGo k ds).length = ds.length := by
    intro ds
    induction ds with
    | nil => intro k; rfl
    | cons d ds ih => intro k; show (enumGo (k + 1) ds).length + 1 = _; rw [ih, List.length_cons]
  exact this ds 0
def valsOf (d : D) : Option (List D) := match d with
  | .lst ds => some ds
  | .tup ds => some ds
  | _ => none
def iEnum (f : Ev) : EvS := fun env st => (f env st).bind fun a st1 => match valsOf a with
  | some ds => .ok (.vals (enumD ds)) st1
  | none => .no
def iRev (f : Ev) : EvS := fun env st => (f env st).bind fun a st1 => match valsOf a with
  | some ds => .ok (.vals ds.reverse) st1
  | none => .no
/-- i, i - 1, .. above j -/
def downGo : Nat → Int → List D
  | 0, _ => []
  | n + 1, i => .int i :: downGo n (i - 1)
def downOk (i j : Int) : Bool := decide (-1000000000000 < i) && (decide (i < 1000000000000) && (decide (-1000000000000 < j) && decide (j < 1000000000000)))
def iDown (f g h : Ev) : EvS := fun env st => (f env st).bind fun a st1 => (g env st1).bind fun b st2 => (h env st2).bind fun c st3 => match a with
  | .int i => match b with
    | .int j => match c with
      | .int k => if k = -1 then if downOk i j then .ok (.vals (downGo (i - j).toNat i)) st3 else .no else .no
      | _ => .no
    | _ => .no
  | _ => .no
theorem downGo_get : ∀ (n : Nat) (i : Int) (m : Nat), (downGo n i)[m]? = if m < n then some (.int (i + (m : Nat) * (-1))) else none
  | 0, i, m => by simp [downGo]
  | n + 1, i, 0 => by simp [downGo]
  | n + 1, i, m + 1 => by
    show (downGo n (i - 1))[m]? = _
    rw [downGo_get n (i - 1) m]
    by_cases h : m < n
    · rw [if_pos h, if_pos (by omega)]
      congr 2
      omega
    · rw [if_neg h, if_neg (by omega)]
theorem downGo_len : ∀ (n : Nat) (i : Int), (downGo n i).length = n
  | 0, i => rfl
  | n + 1, i => by show (downGo n (i - 1)).length + 1 = _; rw [downGo_len]
section
variable {W : Wd} {M : MW} {H : Hp} {K : PySem.W.Frag}
/-- a value whose items do not change -/
theorem rep_vals {d : D} {v : V} {ds : List D} (r : Rep W M H d v) (e : valsOf d = some ds) : ∃ a vs, v = .ref a ∧ Reps W M H ds vs ∧ ((Rd H a (.lst vs) ∧ ¬ M.mu a) ∨ H a = some (.tup vs)) := by
  cases r with
  | tup h r => cases e; exact ⟨_, _, rfl, r, .inr h⟩
  | lst h m r => cases e; exact ⟨_, _, rfl, r, .inl ⟨h, m⟩⟩
  | _ => cases e
theorem it_enum {a : Addr} {vs : List V} {ds : List D} {G : Hp → List V → Prop} {J : It} (hJ : J = ⟨fun i H => ∃ (xs : List V) (x : V), G H xs ∧ xs[i]? = some x, fun i H v H' => ∃ T x, v = .ref T ∧ H T = none ∧ H' = upd H T (.tup [.int (i : Nat), x]) ∧ ∀ xs, G H xs → xs[i]? = some x, fun i H => ∃ xs : List V, G H xs ∧ xs.length ≤ i⟩)
    (hG : ∀ M' H', Stp M H M' H' → G H' vs) (r : Reps W M H ds vs) : ItOk W M H (.vals (enumD ds)) J := by
  subst hJ
  intro i M' H' st es T S e
  cases e
  have r' := r.mono T
  rw [enumD_len]
  refine ⟨fun l => ?_, fun l => ⟨vs, hG _ _ T, by rw [← r.length]; exact l⟩⟩
  obtain ⟨v, ev, rv⟩ := r'.get (List.getElem?_eq_getElem l)
  refine ⟨⟨vs, v, hG _ _ T, ev⟩, fun x H'' y => ?_⟩
  obtain ⟨t, y, rfl, hn, rfl, hy⟩ := y
  have e2 := hy vs (hG _ _ T)
  rw [ev] at e2
  cases e2
  have k : ∀ a o, H' a = some o → upd H' t (.tup [.int (i : Nat), v]) a = some o := updNew hn
  refine ⟨k, _, ?_, .tup upd_same (.cons (.int _) (.cons (rv.mono (Stp.grow k)) .nil))⟩
  show (enumGo 0 ds)[i]? = _
  rw [enumGo_get, List.getElem?_eq_getElem l, Nat.zero_add]
  rfl
theorem it_rev {a : Addr} {vs : List V} {ds : List D} {G : Hp → List V → Prop} {J : It} (hJ : J = ⟨fun i H => i < vs.length ∧ ∃ (xs : List V) (x : V), G H xs ∧ xs[vs.length - 1 - i]? = some x, fun i H x H' => H' = H ∧ ∀ xs, G H xs → xs[vs.length - 1 - i]? = some x, fun i _ => vs.length ≤ i⟩)
    (hG : ∀ M' H', Stp M H M' H' → G H' vs) (r : Reps W M H ds vs) : ItOk W M H (.vals ds.reverse) J := by
  subst hJ
  intro i M' H' st es T S e
  cases e
  have r' := r.mono T
  have hl := r.length
  rw [List.length_reverse]
  refine ⟨fun l => ?_, fun l => by rw [← hl]; exact l⟩
  have l2 : ds.length - 1 - i < ds.length := by omega
  obtain ⟨v, ev, rv⟩ := r'.get (List.getElem?_eq_getElem l2)
  rw [hl] at ev
  refine ⟨⟨by rw [← hl]; exact l, vs, v, hG _ _ T, ev⟩, fun x H'' y => ?_⟩
  obtain ⟨rfl, hy⟩ := y
  have e2 := hy vs (hG _ _ T)
  rw [ev] at e2
  cases e2
  refine ⟨fun _ _ z => z, _, ?_, rv⟩
  rw [List.getElem?_reverse l, List.getElem?_eq_getElem l2]
end
section
variable {X : Cx} {W : Wd} {E : XK} {tg e a b c : Expr} {f g h : Ev} {p pos : Pos}
theorem di_enum {elts : List Expr} {kk : Nat} {tpos : Pos} (hg : Gl X "enumerate") (hm : X.mg "enumerate" = none) (he : DE X W E e f) (hs : starEach [e] X.env = (false, eval e X.env) :: starEach [] X.env := by rfl) :
    DI X W E (.Tuple elts kk tpos) (.Call (.Name "enumerate" p) [e] [] pos) (iEnum f) :=
  ⟨_, pi_enumA hg hm he hs, fun σ H Q ⟨M, env, st, S, q⟩ => ⟨M, env, st, S, Fin.bindI q fun d st1 M1 x H1 T1 S1 r1 q1 => by
    cases hv : valsOf d with
    | none => rw [hv] at q1; exact q1.elim
    | some ds =>
      rw [hv] at q1
      obtain ⟨a, vs, rfl, r, hh⟩ := rep_vals r1 hv
      refine ⟨a, vs, rfl, ?_⟩
      rcases hh with ⟨hh, hm⟩ | hh
      · exact .inl ⟨.inl hh, q1 M1 H1 _ .refl S1 (it_enum (a := a) (G := fun H xs => SqL X.K H a xs) rfl (fun M' H' T => .inl (T.rd hh hm)) r)⟩
      · exact .inr ⟨.inl (.inl hh), q1 M1 H1 _ .refl S1 (it_enum (a := a) (G := fun H xs => SqT X.K H a xs) rfl (fun M' H' T => .inl (.inl (T.keep _ _ hh (.inr (.inr notMutTup))))) r)⟩⟩⟩
theorem di_rev (hg : Gl X "reversed") (hm : X.mg "reversed" = none) (he : DE X W E e f) (hs : starEach [e] X.env = (false, eval e X.env) :: starEach [] X.env := by rfl) :
    DI X W E tg (.Call (.Name "reversed" p) [e] [] pos) (iRev f) :=
  ⟨_, RT.pi_revA hg hm he hs, fun σ H Q ⟨M, env, st, S, q⟩ => ⟨M, env, st, S, Fin.bindI q fun d st1 M1 x H1 T1 S1 r1 q1 => by
    cases hv : valsOf d with
    | none => rw [hv] at q1; exact q1.elim
    | some ds =>
      rw [hv] at q1
      obtain ⟨a, vs, rfl, r, hh⟩ := rep_vals r1 hv
      refine ⟨a, vs, rfl, ?_⟩
      rcases hh with ⟨hh, hm⟩ | hh
      · exact .inl ⟨.inl hh, q1 M1 H1 _ .refl S1 (it_rev (a := a) (G := fun H xs => SqL X.K H a xs) rfl (fun M' H' T => .inl (T.rd hh hm)) r)⟩
      · exact .inr ⟨.inl (.inl hh), q1 M1 H1 _ .refl S1 (it_rev (a := a) (G := fun H xs => SqT X.K H a xs) rfl (fun M' H' T => .inl (.inl (T.keep _ _ hh (.inr (.inr notMutTup))))) r)⟩⟩⟩
theorem di_down (hg : Gl X "range") (hm : X.mg "range" = none) (ha : DE X W E a f) (hb : DE X W E b g) (hc : DE X W E c h)
    (hs : starEach [a, b, c] X.env = (false, eval a X.env) :: starEach [b, c] X.env := by rfl) (hs2 : starEach [b, c] X.env = (false, eval b X.env) :: starEach [c] X.env := by rfl) (hs3 : starEach [c] X.env = (false, eval c X.env) :: starEach [] X.env := by rfl) (hpl : (backTo pos (starEach [b, c] X.env)).any (·.1) = false := by rfl) :
    DI X W E tg (.Call (.Name "range" p) [a, b, c] [] pos) (iDown f g h) :=
  ⟨_, pi_range3 hg hm (pa_cons ha (pa_cons hb (pa_cons hc pa_nil hs3) hs2) hs) hs hpl, fun σ H Q ⟨M, env, st, S, q⟩ => ⟨M, env, st, S, Fin.bindI q fun d1 st1 M1 x H1 T1 S1 r1 q1 => ⟨M1, env, st1, S1, Fin.bindI q1 fun d2 st2 M2 y H2 T2 S2 r2 q2 => ⟨M2, env, st2, S2, Fin.bindI q2 fun d3 st3 M3 z H3 T3 S3 r3 q3 => by
    cases d1 with
    | int i =>
      cases d2 with
      | int j =>
        cases d3 with
        | int k =>
          simp only at q3
          by_cases hk : k = -1
          · subst hk
            rw [if_pos rfl] at q3
            by_cases hd : downOk i j = true
            · rw [if_pos hd] at q3
              simp only [downOk, Bool.and_eq_true, decide_eq_true_eq] at hd
              cases r1; cases r2; cases r3
              refine ⟨i, j, -1, (i - j).toNat, rfl, RgC.neg (by omega) (by omega) (by omega) (by omega), q3 M3 H3 _ .refl S3 ?_⟩
              intro n M' H' st es T SS e
              cases e
              rw [downGo_len]
              refine ⟨fun l => ⟨l, fun x H'' y => ?_⟩, fun l => l⟩
              obtain ⟨rfl, rfl⟩ := y
              refine ⟨fun _ _ z => z, .int (i + (n : Nat) * (-1)), ?_, .int _⟩
              rw [downGo_get, if_pos l]
            · rw [if_neg hd] at q3; exact q3.elim
          · rw [if_neg hk] at q3; exact q3.elim
        | _ => exact q3.elim
      | _ => exact q3.elim
    | _ => exact q3.elim⟩⟩⟩⟩
end
end DL

set_option Elab.async false
set_option linter.all false
set_option maxRecDepth 100000
set_option maxHeartbeats 4000000
/-! DL18: default=, dicts, append, calls through a slot, statements that are not reached. -/
namespace DL
open PySem PySem.Spec PyProof.Rows L2
section
variable {X : Cx} {W : Wd} {E : XK} {x : PySem.Str} {p pos apos cpos kpos : Pos} {e o : Expr} {es : List Expr} {kws : List Keyword} {g kf : EvL} {f fo : Ev} {id : String} {ks : List PySem.Str} {r : List V → List V → Hp → VK → Prop} {op : Store → List D → List D → Option D} {nm : Option PySem.Str}
theorem dkw_one (h : DE X W E e f) : DKw X W E [⟨nm, e, kpos⟩] (aCons f aNil) :=
  (fun (z : PK X [⟨nm, e, kpos⟩] (tCons (lE W E f) tNil)) => ⟨fun pos pins s σ H Q I ⟨M, env, st, S, q⟩ => z.run pos pins s σ H Q I ⟨M, env, st, S, Fin.bind q fun d st1 M1 v H1 T1 S1 r1 q1 => q1 M1 [v] H1 .refl S1 (.cons r1 .nil)⟩⟩) (pk_cons h pk_nil)
theorem de_callBK (hc : CallRK X (.builtin id) ks r) (hd : CallKD W r op) (hg : Gl X x) (hm : X.mg x = none) (hv : bootBuiltins x = some (.builtin id)) (ha : DA X W E (e :: es) g) (hk : DKw X W E kws kf) (hn : x ≠ "__name__" := by decide) (hdb : (x == ("__debug__" : PySem.Str)) = false := by decide)
    (he : backTo pos (starEach (e :: es) X.env) = (false, eval e X.env) :: backTo pos (starEach es X.env) := by rfl) (hpl : (backTo pos (starEach (e :: es) X.env)).any (·.1) = false := by rfl)
    (hall : (backToKw pos (keywordEach kws X.env)).all (·.1.isSome) = true := by rfl) (hnone : (backToKw pos (keywordEach kws X.env)).any (·.1.isNone) = false := by rfl) (hks : (backToKw pos (keywordEach kws X.env)).filterMap (·.1) = ks := by rfl) :
    DE X W E (.Call (.Name x p) (e :: es) kws pos) (eCallBK op g kf) :=
  PEmono (pe_callBK hc hg hm hv ha hk hn hdb he hpl hall hnone hks) fun σ H Q ⟨M, env, st, S, q⟩ => ⟨M, env, st, S, Fin.bind q fun as st1 M1 vs H1 T1 S1 r1 q1 => ⟨M1, env, st1, S1, Fin.bind q1 fun zs st2 M2 ws H2 T2 S2 r2 q2 => hd E M2 σ H2 env st2 as zs vs ws Q S2 (r1.mono T2) r2 q2⟩⟩
/-! ### append -/
def isLst : Option Cell → Bool
  | some (.lst _) => true
  | _ => false
def eAppend (fo f : Ev) : Ev := fun env st => (fo env st).bind fun a st1 => match a with
  | .ref n => if isLst st1[n]? then (f env st1).bind fun d st2 => match st2[n]? with
      | some (.lst xs) => if sOk (xs.length + 1) then .ok .non (st2.set n (.lst (xs ++ [d]))) else .no
      | _ => .no
    else .no
  | _ => .no
/-- where a cell stands, a list stands -/
theorem SimS.lstAt {M : MW} {H : Hp} {st : Store} {n : Nat} {a : Addr} (S : SimS W M H st) (h : M.rho[n]? = some a) : ∃ c, st[n]? = some c ∧ CellOk W M H c a := by
  have l : n < st.length := by rw [← S.len]; exact (List.getElem?_eq_some_iff.mp h).1
  exact ⟨_, List.getElem?_eq_getElem l, S.cell n _ a (List.getElem?_eq_getElem l) h⟩
theorem Stp.rhoAt {M M' : MW} {H H' : Hp} {n : Nat} {a : Addr} (T : Stp M H M' H') (h : M.rho[n]? = some a) : M'.rho[n]? = some a := by
  obtain ⟨more, e⟩ := T.pre
  rw [e, List.getElem?_append_left (List.getElem?_eq_some_iff.mp h).1]
  exact h
theorem de_append (ho : DE X W E o fo) (he : DE X W E e f)
    (hbase : attributeBase o "append" X.env (eval o X.env) = eval o X.env := by rfl)
    (hfew : ((backTo cpos (starEach [e] X.env)).all (fun x => !x.1) && (backToKw cpos (keywordEach [] X.env)).all (fun x => x.1.isSome)
      && decide ([e].length + ([] : List Keyword).length + (if ([] : List Keyword).isEmpty then 0 else 1) < 30)) = true := by rfl)
    (hline : (apos.endLine == cpos.line) = true := by rfl) (hs : starEach [e] X.env = (false, eval e X.env) :: starEach [] X.env := by rfl) :
    DE X W E (.Call (.Attribute o "append" apos) [e] [] cpos) (eAppend fo f) :=
  PEmono (pe_bm PySem.F.plainAttrs_list PySem.F.slot_list_append PySem.F.type_list_append mt_append ho (pa_cons he pa_nil hs) hbase hfew hline hs) fun σ H Q ⟨M, env, st, S, q⟩ => ⟨M, env, st, S, by
    unfold eAppend at q
    refine Fin.bind q fun a st1 M1 v H1 T1 S1 r1 q1 => ?_
    cases r1 with
    | ref hn =>
      rename_i n p
      simp only at q1
      by_cases hl : isLst st1[n]? = true
      · rw [if_pos hl] at q1
        obtain ⟨c0, hc0, ok0⟩ := S1.s.lstAt hn
        refine ⟨?_, M1, env, st1, S1, Fin.bind q1 fun d st2 M2 w H2 T2 S2 r2 q2 => ?_⟩
        · rw [hc0] at hl
          cases ok0 with
          | lst h _ => exact .inl ⟨rfl, _, .inl (.inl h)⟩
          | dct h _ _ => cases hl
        · have hn2 : M2.rho[n]? = some p := T2.rhoAt hn
          obtain ⟨c2, hc2, ok2⟩ := S2.s.lstAt hn2
          rw [hc2] at q2
          cases ok2 with
          | dct h _ _ => exact q2.elim
          | lst h rr =>
            rename_i xs vs
            simp only at q2
            by_cases hk : sOk (xs.length + 1) = true
            · rw [if_pos hk] at q2
              have hz := sOk_le hk
              rw [rr.length] at hz
              obtain ⟨T3, S3⟩ := written S2.s (o := .lst (vs ++ [w])) (c := .lst (xs ++ [d])) hn2 (by rw [h]; trivial) trivial fun T => .lst upd_same ((rr.mono T).append (.cons (r2.mono T) .nil))
              exact ⟨p, vs, w, rfl, rfl, h, by omega, q2 M2 .non _ T3 (S2.step T3 S3) .non⟩
            · rw [if_neg hk] at q2; exact q2.elim
      · rw [if_neg hl] at q1; exact q1.elim
    | _ => exact q1.elim⟩
end
/-! ### dicts -/
def keyD : D → Option L2.Key
  | .int i => some (.inl i)
  | .str x => some (.inr x)
  | _ => none
def valD (kds : List (L2.Key × D)) (k : L2.Key) : Option D := match kds with
  | [] => none
  | kd :: r => if kd.1 = k then some kd.2 else valD r k
def putD (kds : List (L2.Key × D)) (k : L2.Key) (d : D) : List (L2.Key × D) := match kds with
  | [] => [(k, d)]
  | kd :: r => if kd.1 = k then (k, d) :: r else kd :: putD r k d
def opDGet (st : Store) (a b : D) : Option D := match a with
  | .ref n => match st[n]? with
    | some (.dct kds) => match keyD b with
      | some k => valD kds k
      | none => none
    | _ => none
  | _ => none
theorem keyD_kV {W : Wd} {M : MW} {H : Hp} {d : D} {v : V} {k : L2.Key} (r : Rep W M H d v) (h : keyD d = some k) : v = kV k := by
  cases r <;> cases h <;> rfl
theorem valD_rep {W : Wd} {M : MW} {H : Hp} {k : L2.Key} : ∀ {kds : List (L2.Key × D)} {kvs : List (L2.Key × V)} {d : D}, kds.map (·.1) = kvs.map (·.1) → Reps W M H (kds.map (·.2)) (kvs.map (·.2)) → valD kds k = some d → ∃ v, valV kvs k = some v ∧ Rep W M H d v
  | [], _, _, _, _, h => by cases h
  | kd :: kds, [], _, e, _, _ => by cases e
  | kd :: kds, kv :: kvs, d, e, r, h => by
    simp only [List.map_cons, List.cons.injEq] at e
    obtain ⟨e1, e2⟩ := e
    simp only [List.map_cons] at r
    cases r with
    | cons r1 r2 =>
      unfold valD at h
      by_cases q : kd.1 = k
      · rw [if_pos q] at h
        cases h
        exact ⟨kv.2, valV_pos (e1 ▸ q), r1⟩
      · rw [if_neg q] at h
        rw [valV_neg (fun z => q (e1.trans z))]
        exact valD_rep e2 r2 h
theorem putK_cons {p : L2.Key × V} {r : List (L2.Key × V)} {k : L2.Key} {v : V} (e : ¬ p.1 = k) : putK (p :: r) k v = p :: putK r k v := by
  unfold putK
  rw [List.any_cons]
  simp only [e, decide_false, Bool.false_or]
  split
  · rw [List.map_cons, if_neg e]
  · rfl
theorem putK_nodup {r : List (L2.Key × V)} {k : L2.Key} {v : V} (h : k ∉ r.map (·.1)) : r.map (fun kv => if kv.1 = k then (kv.1, v) else kv) = r := by
  induction r with
  | nil => rfl
  | cons p r ih =>
    simp only [List.map_cons, List.mem_cons, not_or] at h
    rw [List.map_cons, if_neg (fun z => h.1 z.symm), ih h.2]
/-- the keys are different -/
theorem putD_rep {W : Wd} {M : MW} {H : Hp} {k : L2.Key} {d : D} {v : V} (rd : Rep W M H d v) : ∀ {kds : List (L2.Key × D)} {kvs : List (L2.Key × V)}, (kds.map (·.1)).Nodup → kds.map (·.1) = kvs.map (·.1) → Reps W M H (kds.map (·.2)) (kvs.map (·.2)) →
    (putD kds k d).map (·.1) = (putK kvs k v).map (·.1) ∧ Reps W M H ((putD kds k d).map (·.2)) ((putK kvs k v).map (·.2))
  | [], kvs, _, e, r => by
    cases kvs with
    | nil => exact ⟨rfl, .cons rd .nil⟩
    | cons _ _ => cases e
  | kd :: kds, [], _, e, _ => by cases e
  | kd :: kds, kv :: kvs, nd, e, r => by
    simp only [List.map_cons, List.cons.injEq] at e
    obtain ⟨e1, e2⟩ := e
    simp only [List.map_cons] at r nd
    obtain ⟨nd1, nd2⟩ := List.nodup_cons.mp nd
    cases r with
    | cons r1 r2 =>
      unfold putD
      by_cases q : kd.1 = k
      · rw [if_pos q]
        have q' : kv.1 = k := e1 ▸ q
        have hp : putK (kv :: kvs) k v = (k, v) :: kvs := by
          unfold putK
          rw [List.any_cons]
          simp only [q', decide_true, Bool.true_or, if_true, List.map_cons]
          rw [putK_nodup (by rw [← e2, ← q]; exact nd1)]
        rw [hp]
        exact ⟨by simp only [List.map_cons, e2], .cons rd r2⟩
      · rw [if_neg q, putK_cons (fun z => q (e1.trans z))]
        obtain ⟨a1, a2⟩ := putD_rep rd nd2 e2 r2
        exact ⟨by simp only [List.map_cons, e1, a1], .cons r1 a2⟩
/-- are the keys different -/
def ndK (kds : List (L2.Key × D)) : Bool := match kds with
  | [] => true
  | kd :: r => (valD r kd.1).isNone && ndK r
theorem valD_none {k : L2.Key} : ∀ {r : List (L2.Key × D)}, valD r k = none → k ∉ r.map (·.1)
  | [], _ => by simp
  | kd :: r, h => by
    unfold valD at h
    by_cases q : kd.1 = k
    · rw [if_pos q] at h; cases h
    · rw [if_neg q] at h
      simp only [List.map_cons, List.mem_cons, not_or]
      exact ⟨fun z => q z.symm, valD_none h⟩
theorem ndK_nodup : ∀ {kds : List (L2.Key × D)}, ndK kds = true → (kds.map (·.1)).Nodup
  | [], _ => List.nodup_nil
  | kd :: r, h => by
    unfold ndK at h
    simp only [Bool.and_eq_true, Option.isNone_iff_eq_none] at h
    rw [List.map_cons, List.nodup_cons]
    exact ⟨valD_none h.1, ndK_nodup h.2⟩
def sDPutD (fd fk fv : Ev) : EvT := fun env st => (fv env st).bind fun v st1 => (fd env st1).bind fun a st2 => (fk env st2).bind fun b st3 => match a with
  | .ref n => match st3[n]? with
    | some (.dct kds) => match keyD b with
      | some k => if ndK kds && sOk (kds.length + 1) then .ok (.nx, env) (st3.set n (.dct (putD kds k v))) else .no
      | none => .no
    | _ => .no
  | _ => .no
def eAll : List Ev → EvL
  | [] => aNil
  | f :: fs => aCons f (eAll fs)
/-- {k: v, ..}: the cell stands empty while the values are made -/
def eDict (ks : List L2.Key) (fs : List Ev) : Ev := fun env st => (eAll fs env (st ++ [.dct []])).bind fun ds st1 => match st1[st.length]? with
  | some (.dct []) => if ds.length = ks.length then .ok (.ref st.length) (st1.set st.length (.dct (ks.zip ds))) else .no
  | _ => .no
section
variable {X : Cx} {W : Wd} {E : XK} {pos pos' : Pos} {e o i value : Expr} {f fo fv : Ev}
theorem od_dget {W : Wd} : OpD W (fun x y H Q => ∃ a v, x = .ref a ∧ DGet H a y (some v) ∧ Q v H) opDGet := fun E M σ H env st a b v w Q S ra rb q => by
  unfold opDGet at q
  cases ra with
  | ref hn =>
    rename_i n p
    simp only at q
    obtain ⟨c0, hc0, ok0⟩ := S.s.lstAt hn
    rw [hc0] at q
    cases ok0 with
    | lst _ _ => exact q.elim
    | dct h k r =>
      rename_i kds kvs
      simp only at q
      cases hk : keyD b with
      | none => rw [hk] at q; exact q.elim
      | some k0 =>
        rw [hk] at q
        simp only at q
        cases hv : valD kds k0 with
        | none => rw [hv] at q; exact q.elim
        | some d =>
          rw [hv] at q
          obtain ⟨v, ev, rv⟩ := valD_rep k r hv
          exact ⟨p, v, rfl, .inl ⟨kvs, k0, .inl h, keyD_kV rb hk, ev.symm⟩, Fin.give q S rv⟩
  | _ => exact q.elim
theorem de_dget (hu : X.A.units + 1 < cLine) (ho : DE X W E o fo) (hi : DE X W E i f) (hs : NoSl i := by exact fun _ _ => rfl) : DE X W E (.Subscript o i pos) (eOp opDGet fo f) :=
  PEmono (pe_dget hu ho hi hs) fun σ H Q q => lift_bin od_dget q
theorem ds_dput (hu : X.A.units + 1 < cLine) (ho : DE X W E o fo) (hi : DE X W E i f) (hv : DE X W E value fv) (hs : swapsWith value (some (.Subscript o i pos')) pos.line X.env = pure false := by rfl) :
    DS X W E (.Assign [.Subscript o i pos'] value pos) (sDPutD fo f fv) :=
  PSmono (ps_dput hu ho hi hv hs) fun D0 σ H ⟨M, env, st, S, q⟩ => ⟨M, env, st, S, Fin.bindS q fun d1 st1 M1 v1 H1 T1 S1 r1 q1 => ⟨M1, env, st1, S1, Fin.bindS q1 fun d2 st2 M2 v2 H2 T2 S2 r2 q2 => ⟨M2, env, st2, S2, Fin.bindS q2 fun d3 st3 M3 v3 H3 T3 S3 r3 q3 => by
    cases r2 with
    | ref hn2 =>
      rename_i n p
      simp only at q3
      have hn := T3.rhoAt hn2
      obtain ⟨c0, hc0, ok0⟩ := S3.s.lstAt hn
      rw [hc0] at q3
      cases ok0 with
      | lst _ _ => exact q3.elim
      | dct h k r =>
        rename_i kds kvs
        simp only at q3
        cases hk : keyD d3 with
        | none => rw [hk] at q3; exact q3.elim
        | some k0 =>
          rw [hk] at q3
          simp only at q3
          by_cases hz : (ndK kds && sOk (kds.length + 1)) = true
          · rw [if_pos hz] at q3
            simp only [Bool.and_eq_true] at hz
            obtain ⟨hz1, hz2⟩ := hz
            have hz3 := sOk_le hz2
            have hl : kds.length = kvs.length := by simpa using congrArg List.length k
            have nd := ndK_nodup hz1
            have rd := (r1.mono T2).mono T3
            obtain ⟨T4, S4⟩ := written S3.s (o := .dK (putK kvs k0 v1)) (c := .dct (putD kds k0 d1)) hn (by rw [h]; trivial) trivial fun T =>
              .dct upd_same (putD_rep rd nd k r).1 ((putD_rep rd nd k r).2.mono T)
            exact ⟨p, _, rfl, .inl ⟨kvs, k0, h, keyD_kV r3 hk, by omega, rfl⟩, q3 M3 σ _ T4 (S3.step T4 S4)⟩
          · rw [if_neg hz] at q3; exact q3.elim
    | _ => exact q3.elim⟩⟩⟩
/-- the pairs of a display -/
def prs (W : Wd) (E : XK) (l : List (L2.Key × Ev)) : List (TE × TE) := l.map fun q => (tC (kV q.1), lE W E q.2)
theorem lift_pairs {σ : L2.St} {env : Ent} : ∀ (l : List (L2.Key × Ev)) (M : MW) (H : Hp) (st : Store) (Q0 : List V → Hp → Prop) (Q : List (V × V) → Hp → Prop), Sim W M σ H env st → Fin W E (relDs W) σ env (eAll (l.map (·.2)) env st) M H Q0 →
    (∀ vs H', Q0 vs H' → Q ((l.map fun q => kV q.1).zip vs) H') → tPairs (prs W E l) σ H Q
  | [], M, H, st, Q0, Q, S, q, h => h [] H (q M [] H .refl S .nil)
  | (k, f) :: l, M, H, st, Q0, Q, S, q, h => ⟨M, env, st, S, Fin.bind q fun d st1 M1 v H1 T1 S1 r1 q1 =>
      lift_pairs l M1 H1 st1 (fun vs H' => Q0 (v :: vs) H') _ S1 (Fin.bind q1 fun ds st2 M2 vs H2 T2 S2 r2 q2 => q2 M2 (v :: vs) H2 .refl S2 (.cons (r1.mono T2) r2)) fun vs H' z => h (v :: vs) H' z⟩
theorem mergeK_new : ∀ (kvs acc : List (L2.Key × V)), ((acc ++ kvs).map (·.1)).Nodup → mergeK acc kvs = acc ++ kvs
  | [], acc, _ => by simp [mergeK]
  | kv :: kvs, acc, nd => by
    have e : putK acc kv.1 kv.2 = acc ++ [kv] := by
      unfold putK
      rw [if_neg]
      intro z
      obtain ⟨p, hp, hq⟩ := List.any_eq_true.mp z
      rw [List.map_append, List.nodup_append] at nd
      exact nd.2.2 p.1 (List.mem_map_of_mem hp) kv.1 (by simp) (of_decide_eq_true hq)
    show mergeK (putK acc kv.1 kv.2) kvs = _
    rw [e, mergeK_new kvs (acc ++ [kv]) (by simpa using nd)]
    simp
theorem eAll_len : ∀ (fs : List Ev) env st ds st1, eAll fs env st = .ok ds st1 → ds.length = fs.length
  | [] => len_nil
  | f :: fs => len_cons (eAll_len fs)
theorem de_dict {keys : List (Option Expr)} {values : List Expr} {l : List (L2.Key × Ev)} (hp : PPs X pos keys values (prs W E l)) (hall : keys.all (·.isSome) = true := by rfl) (hl : keys.length = values.length := by rfl) (h0 : keys ≠ [] := by simp) (h15 : keys.length ≤ 15 := by decide)
    (nd : (l.map (·.1)).Nodup := by decide) (hl15 : l.length ≤ 15 := by decide) : DE X W E (.Dict keys values pos) (eDict (l.map (·.1)) (l.map (·.2))) :=
  PEmono (pe_disp hp hall hl h0 h15) fun σ H Q ⟨M, env, st, S, q⟩ p hpn => by
    obtain ⟨T0, S0⟩ := celled S.s (o := .dK []) (c := .dct []) hpn fun M' T => .dct (kds := []) (kvs := []) upd_same rfl .nil
    have SS := S.step T0 S0
    have q := Fin.step T0 q
    have hr : (⟨fun a => M.mu a ∨ a = p, M.rho ++ [p]⟩ : MW).rho[st.length]? = some p := by
      show (M.rho ++ [p])[st.length]? = _
      rw [List.getElem?_append_right (by rw [S.s.len]; exact Nat.le_refl _), S.s.len]
      simp
    unfold eDict at q
    cases hf : eAll (l.map (·.2)) env (st ++ [.dct []]) with
    | no => rw [hf] at q; exact q.elim
    | ex c xs s =>
      rw [hf] at q
      exact lift_pairs l _ _ _ (fun _ _ => False) _ SS (by rw [hf]; exact q) fun _ _ z => z.elim
    | ok ds st1 =>
      rw [hf] at q
      have hlen := eAll_len _ _ _ _ _ hf
      refine lift_pairs l _ _ _ (fun vs H' => ∃ (M' : MW), Stp ⟨fun a => M.mu a ∨ a = p, M.rho ++ [p]⟩ (upd H p (.dK [])) M' H' ∧ Sim W M' σ H' env st1 ∧ Reps W M' H' ds vs) _ SS (by
        rw [hf]
        exact fun M' vs H' T S' r => ⟨M', T, S', r⟩) ?_
      rintro vs H' ⟨M', T, S', r⟩
      have q := Fin.step T q
      simp only [R.bind] at q
      have hn := T.rhoAt hr
      obtain ⟨c0, hc0, ok0⟩ := S'.s.lstAt hn
      rw [hc0] at q
      cases ok0 with
      | lst _ _ => exact q.elim
      | dct h k rr =>
        rename_i kds kvs
        cases kds with
        | cons _ _ => exact q.elim
        | nil =>
          have ek : kvs = [] := by
            cases kvs with
            | nil => rfl
            | cons _ _ => cases k
          subst ek
          simp only at q
          by_cases hq : ds.length = (l.map (·.1)).length
          · rw [if_pos hq] at q
            have lv := r.length
            have e1 : ((l.map (·.1)).zip vs).map (·.1) = l.map (·.1) := List.map_fst_zip (by omega)
            have e2 : ((l.map (·.1)).zip vs).map (·.2) = vs := List.map_snd_zip (by omega)
            have e3 : ((l.map (·.1)).zip ds).map (·.1) = l.map (·.1) := List.map_fst_zip (by omega)
            have e4 : ((l.map (·.1)).zip ds).map (·.2) = ds := List.map_snd_zip (by omega)
            refine ⟨h, (l.map (·.1)).zip vs, ?_, ?_, ?_⟩
            · rw [show (l.map fun q => kV q.1) = (l.map (·.1)).map kV by rw [List.map_map]; rfl, List.zip_map_left]
              rfl
            · rw [List.length_zip, List.length_map]; omega
            · rw [mergeK_new _ [] (by rw [List.nil_append, e1]; exact nd), List.nil_append]
              obtain ⟨T4, S4⟩ := written S'.s (o := .dK ((l.map (·.1)).zip vs)) (c := .dct ((l.map (·.1)).zip ds)) hn (by rw [h]; trivial) trivial fun T =>
                .dct upd_same (by rw [e1, e3]) (by rw [e2, e4]; exact r.mono T)
              exact q M' (.ref p) _ T4 (S'.step T4 S4) (.ref hn)
          · rw [if_neg hq] at q; exact q.elim
end
/-! ### calls through a slot -/
def eCallS (i : Nat) (tbl : Nat → Option (List D → Store → R D)) (as : EvL) : Ev := fun env st => match env[i]? with
  | some (some (.fn m)) => match tbl m with
    | some g => (as env st).bind fun ds st1 => R.ofO (appP g ds) st1
    | none => .no
  | _ => .no
section
variable {X : Cx} {W : Wd} {E : XK} {s : Stmt} {e : Expr}
theorem ds_no : DS X W E s (fun _ _ => .no) := ⟨fun pins s σ H D I ⟨M, env, st, S, q⟩ => q.elim⟩
theorem de_no : DE X W E e (fun _ _ => .no) := ⟨fun pins s σ H D I ⟨M, env, st, S, q⟩ => q.elim⟩
end
section
variable {X : Cx} {T : CXT} {W : Wd} {E : XK} {k lv i n : Nat} {x : PySem.Str} {as : EvL} {e : Expr} {es : List Expr} {p pos : Pos} {tbl : Nat → Option (List D → Store → R D)}
theorem de_callS (C : ∀ m g, tbl m = some g → ∃ y, Cal X.prog X.w X.K X.mg X.base T W lv y m n g) (fr : Free k X.A) (hx : Passes T X E) (hN : X.N[i]? = some x) (hv : Vis X.env.scope x) (ha : DA X W E (e :: es) as) (hk : lv ≤ k := by decide) (hn : (e :: es).length = n := by rfl)
    (hdb : (x == ("__debug__" : PySem.Str)) = false := by decide) (hcd : (x == ("__classdict__" : PySem.Str)) = false := by decide) (he : starEach (e :: es) X.env = (false, eval e X.env) :: starEach es X.env := by rfl) (hpl : (backTo pos (starEach es X.env)).any (·.1) = false := by rfl)
    (hlen : LenA as n) :
    DE X W E (.Call (.Name x p) (e :: es) [] pos) (eCallS i tbl as) := by
  refine ⟨fun pins s σ H Q I ⟨M, env, st, S, q⟩ => ?_⟩
  unfold eCallS at q
  cases e1 : env[i]? with
  | none => rw [e1] at q; exact q.elim
  | some o =>
    cases o with
    | none => rw [e1] at q; exact q.elim
    | some d =>
      rw [e1] at q
      obtain ⟨v, hv1, rv⟩ := S.var i d e1
      cases rv with
      | fn m =>
        simp only at q
        cases ht : tbl m with
        | none => rw [ht] at q; exact q.elim
        | some g =>
          rw [ht] at q
          obtain ⟨y, fd, ps, G, hm, hkp, hb⟩ := C m g ht
          refine (ge_callS G (fr.mono hk) hN hv hkp hb hx ha hdb hcd he hpl).run pins s σ H Q I ⟨hv1, M, env, st, S, ?_⟩
          simp only at q
          cases hf : as env st with
          | ex c xs s => rw [hf] at q; exact q
          | no => rw [hf] at q; exact q
          | ok ds st1 =>
            rw [hf] at q
            intro M1 vs H1 T1 S1 r1
            exact callP S1 r1 (Fin.step T1 q) (r1.length.symm.trans (hlen _ _ _ _ hf))
      | _ => exact q.elim
end
end DL

set_option Elab.async false
set_option linter.all false
set_option maxRecDepth 100000
set_option maxHeartbeats 4000000
/-! DL19: truth of any value; what a def's body has at hand. -/
namespace DL
open PySem PySem.Spec PyProof.Rows L2
def truD (st : Store) (d : D) : Option Bool := match d with
  | .non => some false
  | .bl k => some k
  | .int i => some (i != 0)
  | .tup xs => some (!xs.isEmpty)
  | .lst xs => some (!xs.isEmpty)
  | .ref n => match st[n]? with
    | some (.lst xs) => some (!xs.isEmpty)
    | some (.dct kds) => some (!kds.isEmpty)
    | none => none
  | _ => none
def tTru (f : Ev) : EvB := fun env st => (f env st).bind fun a st1 => R.ofO (truD st1 a) st1
section
variable {X : Cx} {W : Wd} {E : XK} {a : Expr} {f : Ev}
theorem Reps.isEmpty {M : MW} {H : Hp} {ds : List D} {vs : List V} (r : Reps W M H ds vs) : ds.isEmpty = vs.isEmpty := by cases r <;> rfl
theorem dt_tru (h : DE X W E a f) (he : ∀ whole, isTrue a X.env whole = (do let v ← whole; standAt a.pos; holding [v] (truthy v)) := by intro _; rfl) : DT X W E a (tTru f) :=
  PTmono (pt_truth h he) fun σ H Q ⟨M, env, st, S, q⟩ => ⟨M, env, st, S, Fin.bind q fun d st1 M1 v H1 T1 S1 r1 q1 => by
    cases ht : truD st1 d with
    | none => rw [ht] at q1; exact q1.elim
    | some k =>
      rw [ht] at q1
      refine ⟨k, ?_, q1 M1 k H1 .refl S1 rfl⟩
      cases r1 with
      | non => cases ht; rfl
      | bl b => cases ht; rfl
      | int i => cases ht; rfl
      | str _ => cases ht
      | fn _ => cases ht
      | rng _ => cases ht
      | tup h r => cases ht; rw [r.isEmpty]; exact .inr (.inl ⟨_, .inl (.inl h), rfl⟩)
      | lst h m r => cases ht; rw [r.isEmpty]; exact .inl ⟨_, .inl h, rfl⟩
      | ref hn =>
        obtain ⟨c0, hc0, ok0⟩ := S1.s.lstAt hn
        simp only [truD, hc0] at ht
        cases ok0 with
        | lst h r => cases ht; rw [r.isEmpty]; exact .inl ⟨_, .inl (.inl h), rfl⟩
        | dct h k r =>
          rename_i kds kvs
          cases ht
          have : kds.isEmpty = kvs.isEmpty := by cases kds <;> cases kvs <;> first | rfl | cases k
          rw [this]
          exact .inr (.inr ⟨_, h, rfl⟩)⟩
end
section
variable {P : Program} {w : World} {K : PySem.W.Frag} {mg : PySem.Str → Option Value} {base : Heap} {N : List PySem.Str} {qual : PySem.Str} {scope : Scope} {fa : Addr} {cdv : Value} {B : Around} {up : List Env} {z : Shared} {H : Hp} {E : XK}
theorem px : Passes (L2.CX P w) (cxOf (L2.CX P w) P w K mg base N qual scope fa cdv B up z H E) E := passes_call (takes_of rfl rfl rfl rfl) fun _ _ _ _ h => h
theorem pown : PassesOwn (model P w) (B.deeper (envOfC qual scope z.heap.objs.size fa cdv)) (envOfC qual scope z.heap.objs.size fa cdv) (cxOf (L2.CX P w) P w K mg base N qual scope fa cdv B up z H E).xe := passes_of (X := cxOf (L2.CX P w) P w K mg base N qual scope fa cdv B up z H E) rfl
theorem Cal.at_ {T : CXT} {W : Wd} {k : Nat} {x : PySem.Str} {i n : Nat} {g : List D → Store → R D} (C : Cal P w K mg base T W k x i n g) : mg x = some (.ref (W.F i)) := let ⟨_, _, _, h, _⟩ := C; h
theorem Cal.lift {T : CXT} {W : Wd} {j k : Nat} {x : PySem.Str} {i n : Nat} {g : List D → Store → R D} (C : Cal P w K mg base T W j x i n g) (h : j ≤ k) : Cal P w K mg base T W k x i n g := let ⟨fd, ps, G, r⟩ := C; ⟨fd, ps, G.mono h, r⟩
theorem _root_.L2.Room.units1 {k : Nat} {A : Around} (r : Room k A) : A.units + 1 < cLine := by have := r.un; omega
theorem noCX {H : Hp} {s : Shared} {e : Value} {s' : Shared} {up : List Env} : L2.CX P w up H s (fun _ _ _ => False) e s' → False := fun ⟨_, _, _, _, _, _, _, _, _, _, _, _, h⟩ => h
end
end DL

set_option Elab.async false
set_option linter.all false
set_option maxRecDepth 100000
set_option maxHeartbeats 4000000
/-! DL20: sorted over a tuple. -/
namespace DL
open PySem PySem.Spec PyProof.Rows L2 PySem.W
section
variable {prog : Program} {w : World} {A : Around} {E : Value → Shared → Prop} {s : Shared}
/-- the heap behind collect: a list of the items is left -/
def gath (h : Heap) (vs : List Value) : Heap := (h.push (seqObj "list" #[] 0)).update h.objs.size (Obj.mapSeq (· ++ vs.toArray))
theorem collect_tup {t : Addr} {vs : List Value} {Q : List Value → Shared → Prop} (ht : IsTup s.heap t vs.toArray) (hz : vs.length ≤ sizeLine) (h : Q vs { s with heap := gath s.heap vs }) : wpAny (model prog w) A (collect (.ref t)) Q E s := by
  obtain ⟨o, ho, hc, n, hd⟩ := ht
  have hz' : vs.toArray.size ≤ sizeLine := by rw [List.size_toArray]; exact hz
  unfold collect
  refine wpAny_bind ?_
  apply wpAny_runValue
  apply codeAny_builtin F.entry_proto_collect
  rw [Around.under_plainId F.plain_proto_collect _]
  show wpAny _ A.in1 (newList [] >>= fun l => again (.builtin "list.__iadd__" ⟨[l, .ref t], []⟩)) _ _ s
  refine wpAny_bind (wpAny_newObj_type ?_)
  refine wpAny_pure ⟨plainId_quiet F.plain_list_iadd _, ?_⟩
  apply codeAny_builtin F.entry_list_iadd
  rw [Around.under_plainId F.plain_list_iadd _]
  show wpAny _ A.in1 (Builtin.List.listExtendWith (.ref s.heap.objs.size) (.ref t) (.ref s.heap.objs.size)) _ _ _
  have e0 : (s.heap.push { cls := .type "list", data := .seq ([] : List Value).toArray }).get? s.heap.objs.size = some { cls := .type "list", data := .seq #[] 0 } := Heap.get?_push_size _ rfl
  have e1 := Heap.get?_update_self (Obj.mapSeq (· ++ vs.toArray)) e0 rfl
  have last : wpAny (model prog w) A (match Value.ref s.heap.objs.size with
      | Value.ref a => do
        match (← load a).data with
          | Data.seq xs _ => pure xs.toList
          | _ => unsupported "internal:collect"
      | _ => unsupported "internal:collect") Q E { s with heap := gath s.heap vs } := by
    show wpAny _ A (load s.heap.objs.size >>= _) _ _ _
    refine wpAny_bind (wpAny_load e1 (wpAny_pure ?_))
    show Q ((#[] : Array Value) ++ vs.toArray).toList _
    rw [show ((#[] : Array Value) ++ vs.toArray).toList = vs by simp]
    exact h
  refine wpAny_mono (wpAny_extend_seq (hsz := hz') (A := A) (R := fun r s' => r = .ok (.ret (.ref s.heap.objs.size)) ∧ s' = { s with heap := gath s.heap vs })
    (s := { s with heap := s.heap.push { cls := .type "list", data := .seq ([] : List Value).toArray } }) _ t _ 0 (.inr rfl) e0 (Heap.get?_push_of_some _ ho) hc hd ⟨rfl, rfl⟩) (fun fin s' q => ?_) (fun e s' q => absurd q.1 (by simp))
  cases fin with
  | done f => obtain ⟨e, rfl⟩ := q; cases e; exact last
  | again c' => exact ⟨q.1, codeAny_mono q.2 fun r s2 ⟨z1, z2⟩ => by subst z1 z2; exact last⟩
theorem sortedT_vals {κ : PyProof.Rows.KeyKind} {t : Addr} {vs : List Value} {Q : Value → Shared → Prop} (ht : IsTup s.heap t vs.toArray) (S : SortsAt prog w A.in1.in1 { s with heap := sortingHeap (copyHeap s.heap vs) (s.heap.objs.size + 1) vs } κ vs) (hL : vs.length ≤ sizeLine)
    (h : Q (.ref (s.heap.objs.size + 1)) { s with heap := sortedAll s.heap vs (sortVals κ false vs vs).toArray }) : wpAny (model prog w) A (call (.builtin "sorted") [.ref t]) Q E s := by
  refine call_function_entry_kw kind_sorted plain_sorted entry_sorted (args_sorted1 _) ?_
  unfold Builtin.«sorted»
  refine wpAny_bind (m := checkCount "sorted" 1 1 _) (wpAny_pure ?_)
  refine wpAny_bind (collect_tup ht hL ?_)
  refine wpAny_bind ?_
  refine wpAny_newList ?_ hL
  have hsz : (gath s.heap vs).objs.size = s.heap.objs.size + 1 := by
    unfold gath
    rw [Heap.size_update, size_push']
  show wpAny _ _ _ _ _ { s with heap := copyHeap s.heap vs }
  rw [hsz]
  refine wpAny_bind (wpAny_holding ?_)
  refine wpAny_call_entry_kw slot_list_sort ⟨_, copyHeap_at s.heap vs, rfl⟩ entry_list_sort ?_ (args_list_sort _)
  show wpAny _ A.in1.in1 (Builtin.«list.sort» ⟨[.ref (s.heap.objs.size + 1)], []⟩) _ _ _
  refine wpAny_mono (list_sort_vals (P := fun f s' => f = .done (.ret .none) ∧ Q (.ref (s.heap.objs.size + 1)) s') (s := { s with heap := copyHeap s.heap vs }) (copyHeap_at s.heap vs) S hL ⟨rfl, h⟩) (fun f s' hf => ?_) fun _ _ e => e
  obtain ⟨rfl, q⟩ := hf
  exact ⟨_, rfl, wpAny_pure ⟨_, rfl, q⟩⟩
theorem sortedT_data {β : Type} {R : Value → β → Prop} {enc : β → PyData} {bs : List β} {vs : List Value} {t : Addr} {Q : Value → Shared → Prop} (ht : IsTup s.heap t vs.toArray) (e : EachIs R vs bs) (er : EachIs (fun v b => ∃ as, Reads s.heap v (enc b) as) vs bs) (hal : AllAlike (bs.map enc)) (hk : Sortable (bs.map enc)) (hL : bs.length ≤ sizeLine)
    (hu : ∀ b, b ∈ bs → A.units + 2 + (enc b).depth < cLine) (h : ∀ out, out.length = bs.length → EachIs R out (bs.mergeSort (dataLe false enc)) → Q (.ref (s.heap.objs.size + 1)) { s with heap := sortedAll s.heap vs (List.toArray out) }) :
    wpAny (model prog w) A (call (.builtin "sorted") [.ref t]) Q E s := by
  have er2 := er.mono (R' := fun v b => ∃ as, Reads (sortingHeap (copyHeap s.heap vs) (s.heap.objs.size + 1) vs) v (enc b) as) fun _ _ ⟨as, r⟩ => ⟨as, PyProof.Rows.Reads.keeps (fun _ _ => sorting_copy_old) r⟩
  have SS := SortsAt.data (prog := prog) (w := w) (A := A.in1.in1) (s := { s with heap := sortingHeap (copyHeap s.heap vs) (s.heap.objs.size + 1) vs }) (each_map (R := fun v d => ∃ as, Reads (sortingHeap (copyHeap s.heap vs) (s.heap.objs.size + 1) vs) v d as) enc er2) hal hk (bound_map hu)
  exact sortedT_vals ht SS (by rw [e.length]; exact hL) (h _ (by rw [sortVals_length false rfl]; exact e.length) (sortVals_data false e er2 hal))
end
def rSortT (K : PySem.W.Frag) : List V → Hp → VK → Prop := fun vs H Q => ∃ (a : Addr) (ys : List V) (ds : List D) (RR : D → V → Prop), vs = [.ref a] ∧ SqT K H a ys ∧ ds.length ≤ sizeLine ∧ Paired RR ds ys ∧ (∀ d y, RR d y → fit d 40 = true → Dp K H y (toP d)) ∧ sortOk ds = true ∧
  ∀ ys' p, Paired RR (isort dle ds) ys' → H p = none → Q (.ref p) (upd H p (.lst ys'))
theorem cr_sortT {X : Cx} (hu : X.A.units + 64 < cLine) : CallR X (.builtin "sorted") (rSortT X.K) := by
  rintro pins s σ H vs us Q I r ⟨a, ys, ds, RR, rfl, hs, hz, pr, hdp, ok, q⟩
  obtain ⟨its, rv, hl, _⟩ := I.tuple hs
  rw [Vals.ref1 r]
  have len : ds.length = ys.length := Paired.length pr
  have e1 : (ds.zip ys).map (fun b => b.1) = ds := zip_fst len
  have ok' : sortOk ((ds.zip ys).map (fun b => b.1)) = true := by rw [e1]; exact ok
  have ez := each_zip (RV := RelV) len rv
  have fitz : ∀ b ∈ ds.zip ys, fit b.1 40 = true := fun b hb => (sortOk_fit ok (by rw [← e1]; exact List.mem_map_of_mem hb)).1
  refine sortedT_data (R := fun u b => RelV b.2 u) (enc := fun b : D × V => toP b.1) (bs := ds.zip ys) hl ez (each_imp ez fun u b hb ru => ?_) (sortOk_alike (enc := fun b : D × V => b.1) ok') (sortOk_sortable (enc := fun b : D × V => b.1) ok') ?_ (fun b hb => ?_) fun out h1 h2 => ?_
  · obtain ⟨as, rr⟩ := Dp.reads I _ _ _ (hdp b.1 b.2 (paired_zip pr b hb) (fitz b hb)) ru
    exact ⟨as, rr⟩
  · rw [List.length_zip, len, Nat.min_self, ← len]; exact hz
  · have := (plain_toP b.1 40 (fitz b hb)).2
    omega
  · obtain ⟨ep, he'⟩ := PyProof.Rows.sortedAll_at s.heap its out.toArray
    have es : (ds.zip ys).mergeSort (PySem.W.dataLe false (fun b : D × V => toP b.1)) = isort (fun a b : D × V => dle a.1 b.1) (ds.zip ys) := by
      rw [← isort_eq dataLe_total]
      refine isort_congr fun a ha b hb => ?_
      rw [PySem.W.dataLe_eq]
      show (!PySem.W.dataLt (toP b.1) (toP a.1)) = !dlt b.1 a.1
      have ma : a.1 ∈ ds := by rw [← e1]; exact List.mem_map_of_mem ha
      have mb : b.1 ∈ ds := by rw [← e1]; exact List.mem_map_of_mem hb
      rw [dataLt_toP _ _ 40 40 (fitz b hb) (fitz a ha) ((sortOk_fit ok mb).2 _ ma)]
    rw [es] at h2
    have ef : (isort (fun a b : D × V => dle a.1 b.1) (ds.zip ys)).map (·.1) = isort dle ds := by
      have gen : ∀ l : List (D × V), (isort (fun a b : D × V => dle a.1 b.1) l).map (·.1) = isort dle (l.map (·.1)) := by
        intro l
        induction l with
        | nil => rfl
        | cons x l ih =>
          show (ins _ x (isort _ l)).map (·.1) = ins dle x.1 (isort dle (l.map (·.1)))
          rw [← ih]
          generalize isort (fun a b : D × V => dle a.1 b.1) l = m
          induction m with
          | nil => rfl
          | cons y m ih2 =>
            unfold ins
            rw [List.map_cons]
            by_cases h : dle x.1 y.1 = true
            · rw [if_pos h]
              show x.1 :: y.1 :: m.map (·.1) = if dle x.1 y.1 = true then _ else _
              rw [if_pos h]
            · rw [if_neg h, List.map_cons, ih2]
              show y.1 :: ins dle x.1 (m.map (·.1)) = if dle x.1 y.1 = true then _ else _
              rw [if_neg h]
      rw [gen, e1]
    have vv := each_vals h2
    have pp : Paired RR (isort dle ds) ((isort (fun a b : D × V => dle a.1 b.1) (ds.zip ys)).map (·.2)) := by
      rw [← ef]
      exact paired_map fun p hp => paired_zip pr p (isort_mem.mp hp)
    refine ⟨.ref _, upd H (s.heap.objs.size + 1) (.lst ((isort (fun a b : D × V => dle a.1 b.1) (ds.zip ys)).map (·.2))), I.laid (t' := s.toks) (fun _ _ => PyProof.Rows.sortedAll_old) (Nat.le_succ _) ⟨?_, out, ep, vv, by simpa using he'⟩, rfl, q _ _ pp (I.hok.fresh (Nat.le_succ _))⟩
    rw [List.length_map, isort_length, List.length_zip, ← len, Nat.min_self]
    exact hz
def opSortB (st : Store) (as : List D) : Option (List D) := match as with
  | [x] => match items st x with
    | some ds => if sortOk ds && sOk ds.length then some (isort dle ds) else none
    | none => none
  | _ => none
theorem cn_sortB {W : Wd} {K : PySem.W.Frag} : CallN W (fun vs H Q => rSortA K vs H Q ∨ rSortT K vs H Q) opSortB := by
  intro E M σ H env st as vs Q S rs h
  match as, rs, h with
  | [x], .cons r .nil, h =>
    simp only [opSortB] at h
    cases e : items st x with
    | none => rw [e] at h; exact h.elim
    | some ds =>
      rw [e] at h
      simp only at h
      by_cases ok : (sortOk ds && sOk ds.length) = true
      · rw [if_pos ok] at h
        rw [Bool.and_eq_true] at ok
        obtain ⟨p, ys, rfl, rr, sq⟩ := rep_items (K := K) S.s r e
        rcases sq with sq | sq
        · exact .inl ⟨p, ys, ds, fun d y => Rep W M H d y, rfl, sq, sOk_le ok.2, reps_paired rr, fun d y ry f => ry.dp f, ok.1, fun ys' z pz hz => h.give S (paired_reps pz) z hz⟩
        · exact .inr ⟨p, ys, ds, fun d y => Rep W M H d y, rfl, sq, sOk_le ok.2, reps_paired rr, fun d y ry f => ry.dp f, ok.1, fun ys' z pz hz => h.give S (paired_reps pz) z hz⟩
      · rw [if_neg ok] at h; exact h.elim
  | [], _, h => exact h.elim
  | _ :: _ :: _, _, h => exact h.elim
theorem cr_sortB {X : Cx} (hu : X.A.units + 64 < cLine) : CallR X (.builtin "sorted") (fun vs H Q => rSortA X.K vs H Q ∨ rSortT X.K vs H Q) := (cr_sortA hu).or (cr_sortT hu)
end DL

set_option Elab.async false
set_option linter.all false
set_option maxRecDepth 100000
set_option maxHeartbeats 4000000
/-! DL21: a comprehension straight into a local name. -/
namespace DL
open PySem PySem.Spec PyProof.Rows L2
section
variable {X : Cx} {W : Wd} {E : XK} {tg iter elt : Expr} {ifs : List Expr} {it : EvS} {T : TgD} {p : EvB} {f : Ev} {fs : EvL} {is : List Nat} {own : List (PySem.Str × Nat)} {scope : Scope} {pos py spos : Pos} {i : Nat} {y : PySem.Str}
theorem lift_frz {σ : L2.St} {H : Hp} {Q : VK} : lE W E (eFrz fs) σ H Q → lN W E fs σ H Q :=
  fun ⟨M, env, st, S, z⟩ => ⟨M, env, st, S, Fin.bind z fun ds st1 M1 xs H1 T1 S1 rs z1 => fun p hp => by
    obtain ⟨T, S2⟩ := frozen S1.s (o := .lst xs) hp
    exact z1 _ _ _ T (S1.step T S2) (.lst (.inl upd_same) (fun z => z.2 rfl) (rs.mono T))⟩
theorem lift_new {σ : L2.St} {H : Hp} {Q : VK} : lE W E (eNew fs) σ H Q → lN W E fs σ H Q :=
  fun ⟨M, env, st, S, z⟩ => ⟨M, env, st, S, Fin.bind z fun ds st1 M1 xs H1 T1 S1 rs z1 => fun p hp => by
    obtain ⟨T, S2⟩ := celled S1.s (o := .lst xs) (c := .lst ds) hp fun M' T => .lst upd_same (rs.mono T)
    refine z1 _ _ _ T (S1.step T S2) (.ref ?_)
    show (M1.rho ++ [p])[st1.length]? = some p
    rw [← S1.s.len, List.getElem?_append_right (Nat.le_refl _)]
    simp⟩
theorem ds_setLc {g : Ev} (key : ∀ σ H Q, lE W E g σ H Q → lN W E (nLc it T p f (own.map (·.2))) σ H Q) (hc : X.calm = true) (hN : X.N.Nodup) (hy : X.N[i]? = some y) (hyl : X.env.scope.names.lookup y = some .local)
    (hsw : swapsWith (.ListComp elt [⟨tg, iter, ifs, 0⟩] scope pos) (some (.Name y py)) spos.line X.env = pure true) (hi : DI X W E tg iter it) (ok : BlkOk X.N X.env.scope scope own)
    (hg : ∃ t : TG, (∀ (s : Shared) (H : Hp) (C : Addr) (cl : List (PySem.Str × Addr)) (fp : List Addr), PG (X.blk s H scope (compEnvC scope cl C X.env) fp) tg t) ∧
      ∀ (M : MW) (σ : L2.St) (H : Hp) (env env' : Ent) (st : Store) (d : D) (v : V) (Q : L2.St → Hp → Prop), Sim W M σ H env st → Rep W M H d v → T d env = some env' →
        (∀ σ', Sim W M σ' H env' st → (∀ ws, (∀ i ∈ is, i ∈ ws) → L2.wipe σ' ws = L2.wipe σ ws) → Q σ' H) → t v σ H Q)
    (ht : ∀ (s : Shared) (H : Hp) (C : Addr) (cl : List (PySem.Str × Addr)) (fp : List Addr), DTs (X.blk s H scope (compEnvC scope cl C X.env) fp) W E0 ifs p)
    (he : ∀ (s : Shared) (H : Hp) (C : Addr) (cl : List (PySem.Str × Addr)) (fp : List Addr), DE (X.blk s H scope (compEnvC scope cl C X.env) fp) W E0 elt f)
    (hv : ∀ i ∈ is, i ∈ own.map (·.2)) (hs : ∀ x, foldedSetIterable iter X.env x = pure x := by intro _; rfl) :
    DS X W E (.Assign [.Name y py] (.ListComp elt [⟨tg, iter, ifs, 0⟩] scope pos) spos) (sAsg g (tgN i)) := by
  obtain ⟨wi, pw, hw⟩ := hi
  obtain ⟨t, pt, htt⟩ := hg
  refine PSmono (ps_setLc hc hN hy hyl hsw pw ok pt ht he hs) fun D0 σ H ⟨M, env, st, S, q⟩ => ?_
  exact lc_read hw htt hv (key _ _ _ ⟨M, env, st, S, Fin.bindS q fun d st1 M1 v H1 T1 S1 r1 q1 => q1 M1 _ H1 .refl (S1.set r1)⟩)
end
end DL

set_option Elab.async false
set_option linter.all false
set_option maxRecDepth 100000
set_option maxHeartbeats 4000000
/-! DL22: range objects, calls without arguments, xs[i] = v, list + list as a cell, calls that share the store and leave no cell behind. -/
namespace DL
open PySem PySem.Spec PyProof.Rows L2
/-! ### range objects -/
def opRng (_ : Store) (as : List D) : Option D := match as with
  | [.int i, .int j] => if rgOk i j then some (.rng i j) else none
  | _ => none
theorem cd_rng {W : Wd} : CallD W (fun vs H Q => ∃ i j, vs = [V.int i, V.int j] ∧ ∀ p, H p = none → Q (.ref p) (upd H p (.rng i j))) opRng := by
  intro E M σ H env st as vs Q S rs h
  have no : ∀ {as' : List D}, opRng st as' = none → Fin W E (relD W) σ env (R.ofO (opRng st as') st) M H Q → False := fun e h => by rw [e] at h; exact h
  cases rs with
  | nil => exact (no rfl h).elim
  | cons r1 rs =>
    cases rs with
    | nil => exact (no (by cases r1 <;> rfl) h).elim
    | cons r2 rs =>
      cases rs with
      | cons _ _ => exact (no (by cases r1 <;> cases r2 <;> rfl) h).elim
      | nil =>
        cases r1 with
        | int i =>
          cases r2 with
          | int j =>
            simp only [opRng] at h
            by_cases ok : rgOk i j = true
            · rw [if_pos ok] at h
              exact ⟨i, j, rfl, fun p hp => h M (.ref p) _ (Stp.grow (updNew hp)) (S.grow (updNew hp)) (.rng upd_same)⟩
            · rw [if_neg ok] at h; exact h.elim
          | _ => exact (no rfl h).elim
        | _ => exact (no (by cases r2 <;> rfl) h).elim
def iRngV (K : PySem.W.Frag) (te : TE) : TI := fun σ H R => te σ H fun v H1 => ∃ (a : Addr) (lo hi : Int), v = .ref a ∧ H1 a = some (.rng lo hi) ∧ -(2 ^ 62) ≤ lo ∧ lo < 2 ^ 62 ∧ -(2 ^ 62) ≤ hi ∧ hi < 2 ^ 62 ∧ R (Itr lo (hi - lo).toNat) H1
section
variable {X : Cx} {tg : Expr}
theorem pi_rngv {e : Expr} {te : TE} (he : PE X e te) : PI X tg e (iRngV X.K te) := by
  refine ⟨fun pins s σ H R I h => thn (he.run pins s σ H _ I h) fun u s1 ⟨v, H1, I1, r1, a, lo, hi, ev, hr, h1, h2, h3, h4, q⟩ => ?_⟩
  subst ev
  obtain rfl : u = Value.ref a := r1
  obtain ⟨t, u, w, hg⟩ := I1.hok a _ hr
  refine wpAny_pyIter_range (c := 1) (t := t) (u := u) (v := w) hg (small_one h1 h2 h3 h4) ?_
  have young : ∀ b, b ∈ [s1.heap.objs.size] → FpOk X pins H1 b := by
    intro b hb
    rw [List.mem_singleton.mp hb]
    exact I1.fpOk (Nat.le_refl _) (I1.hok.fresh (Nat.le_refl _))
  refine ⟨s1.heap.objs.size, [s1.heap.objs.size], _, _, H1, rfl, I1.kept (t' := s1.toks) fun b o e => Heap.get?_push_of_some _ e, turn_range _ lo (hi - lo).toNat, ?_, young, q⟩
  have e1 : lo + ((0 : Nat) : Int) = lo := by simp
  have e2 : (((hi - lo).toNat : Nat) : Int) - ((0 : Nat) : Int) = Builtin.Range.rangeSize lo hi 1 := by
    rw [rangeSize_one]
    split <;> omega
  show IsRangeIter _ _ (lo + ((0 : Nat) : Int)) ((((hi - lo).toNat : Nat) : Int) - ((0 : Nat) : Int)) 1
  rw [e1, e2]
  exact Heap.get?_push_size _ rfl
end
def iRngD (f : Ev) : EvS := fun env st => (f env st).bind fun a st1 => match a with
  | .rng i j => if rgOk i j then .ok (.vals (rgD i j)) st1 else .no
  | _ => .no
section
variable {X : Cx} {W : Wd} {E : XK} {tg e o i value : Expr} {f g fo fv : Ev} {pos pos' : Pos}
theorem di_rngv (he : DE X W E e f) : DI X W E tg e (iRngD f) :=
  ⟨_, pi_rngv he, fun σ H Q ⟨M, env, st, S, q⟩ => ⟨M, env, st, S, Fin.bindI q fun d st1 M1 x H1 T1 S1 r1 q1 => by
    cases r1 with
    | rng hr =>
      rename_i a lo hi
      simp only at q1
      by_cases ok : rgOk lo hi = true
      · rw [if_pos ok] at q1
        obtain ⟨b1, b2, b3, b4, _⟩ := rgOk_ok ok
        exact ⟨a, lo, hi, rfl, hr, b1, b2, b3, b4, q1 M1 H1 _ .refl S1 (it_rng lo _)⟩
      · rw [if_neg ok] at q1; exact q1.elim
    | _ => exact q1.elim⟩⟩
/-! ### list + list -/
def nAdd (f g : Ev) : EvL := fun env st => (f env st).bind fun a st1 => (g env st1).bind fun b st2 => match deref st2 a, deref st2 b with
  | .lst xs, .lst ys => if sOk (xs.length + ys.length) then .ok (xs ++ ys) st2 else .no
  | _, _ => .no
theorem dn_add {a b : Expr} (ha : DE X W E a f) (hb : DE X W E b g) : DN X W E (.BinOp a .Add b pos) (nAdd f g) :=
  PEmono (pe_op op_catL ha hb) fun σ H Q ⟨M, env, st, S, q⟩ => ⟨M, env, st, S, Fin.bind q fun d1 st1 M1 v1 H1 T1 S1 r1 q1 => ⟨M1, env, st1, S1, Fin.bind q1 fun d2 st2 M2 v2 H2 T2 S2 r2 q2 => by
    have r1 := r1.mono T2
    cases e1 : deref st2 d1 with
    | lst xs =>
      cases e2 : deref st2 d2 with
      | lst ys =>
        rw [e1, e2] at q2
        simp only at q2
        by_cases ok : sOk (xs.length + ys.length) = true
        · rw [if_pos ok] at q2
          obtain ⟨p1, vs1, rfl, rr1, rd1⟩ := rep_lst S2.s r1 e1
          obtain ⟨p2, vs2, rfl, rr2, rd2⟩ := rep_lst S2.s r2 e2
          have hz := sOk_le ok
          exact ⟨p1, p2, vs1, vs2, rfl, rfl, .inl rd1, .inl rd2, by rw [← rr1.length, ← rr2.length]; exact hz, fun p hp => q2 M2 _ H2 .refl S2 (rr1.append rr2) p hp⟩
        · rw [if_neg ok] at q2; exact q2.elim
      | _ => rw [e1, e2] at q2; exact q2.elim
    | _ => rw [e1] at q2; exact q2.elim⟩⟩
/-! ### xs[i] = v -/
def sSetIx (fo fi fv : Ev) : EvT := fun env st => (fv env st).bind fun v st1 => (fo env st1).bind fun a st2 => (fi env st2).bind fun b st3 => match a with
  | .ref n => match st3[n]? with
    | some (.lst xs) => match b with
      | .int k => match ixN xs.length k with
        | some j => .ok (.nx, env) (st3.set n (.lst (xs.set j v)))
        | none => .no
      | _ => .no
    | _ => .no
  | _ => .no
theorem ds_setIx (ho : DE X W E o fo) (hi : DE X W E i g) (hv : DE X W E value fv)
    (ha : ∀ v, assign (.Subscript o i pos') X.env v = (do
      let ov ← holding [v] (eval o X.env)
      let iv ← holding [v, ov] (eval i X.env)
      standAt pos'
      holding [v, ov, iv] (setItem ov iv v)
      release [v, ov, iv] []) := by intro _; rfl)
    (hs : swapsWithSole [.Subscript o i pos'] value pos.line X.env = pure false := by rfl) (hw : swappedStores [.Subscript o i pos'] value X.env = pure none := by rfl)
    (h1 : (assignEach [.Subscript o i pos'] X.env).map (·.2) = [assign (.Subscript o i pos') X.env] := by rfl) :
    DS X W E (.Assign [.Subscript o i pos'] value pos) (sSetIx fo g fv) :=
  PSmono (ps_asg hv (pg_sub ho hi set_list ha) hs hw h1) fun D0 σ H ⟨M, env, st, S, q⟩ => ⟨M, env, st, S, Fin.bindS q fun d1 st1 M1 v1 H1 T1 S1 r1 q1 => ⟨M1, env, st1, S1, Fin.bindS q1 fun d2 st2 M2 v2 H2 T2 S2 r2 q2 => ⟨M2, env, st2, S2, Fin.bindS q2 fun d3 st3 M3 v3 H3 T3 S3 r3 q3 => by
    cases r2 with
    | ref hn2 =>
      rename_i n p
      simp only at q3
      have hn := T3.rhoAt hn2
      obtain ⟨c0, hc0, ok0⟩ := S3.s.lstAt hn
      rw [hc0] at q3
      cases ok0 with
      | dct _ _ _ => exact q3.elim
      | lst h r =>
        rename_i xs vs
        simp only at q3
        cases r3 with
        | int k =>
          simp only at q3
          cases hk : ixN xs.length k with
          | none => rw [hk] at q3; exact q3.elim
          | some j =>
            rw [hk] at q3
            have rd := (r1.mono T2).mono T3
            obtain ⟨T4, S4⟩ := written S3.s (o := .lst (vs.set j v1)) (c := .lst (xs.set j d1)) hn (by rw [h]; trivial) trivial fun T => .lst upd_same ((r.mono T).set (rd.mono T) j)
            exact ⟨p, vs, k, j, rfl, rfl, h, by rw [← r.length]; exact hk, q3 M3 σ _ T4 (S3.step T4 S4)⟩
        | _ => exact q3.elim
    | _ => exact q3.elim⟩⟩⟩
end
/-! ### calls -/
def purC : Cell → Bool
  | .lst xs => purs xs
  | .dct kds => purs (kds.map (·.2))
def outT (n : Nat) (d : D) (st : Store) : Option D := match d with
  | .ref m => if n ≤ m then match st[m]? with
      | some (.lst xs) => if purs xs then some (.lst xs) else none
      | _ => none
    else none
  | d => if pur d then some d else none
/-- a call that shares the store and leaves no cell behind -/
def appT (g : List D → Store → R D) (ds : List D) (st1 : Store) : R D := match g ds st1 with
  | .ok d st2 => if (st2.take st1.length).all purC then R.ofO (outT st1.length d st2) (st2.take st1.length) else .no
  | _ => .no
def eCallT (g : List D → Store → R D) (as : EvL) : Ev := fun env st => (as env st).bind fun ds st1 => appT g ds st1
def eCall0 (g : List D → Store → R D) : Ev := fun _ st => R.ofO (appP g []) st
section
variable {X : Cx} {T : CXT} {W : Wd} {E : XK} {k lv i n : Nat} {x : PySem.Str} {g : List D → Store → R D} {as : EvL} {e : Expr} {es : List Expr} {p pos : Pos}
theorem callT {M : MW} {H : Hp} {st : Store} {σ : L2.St} {env : Ent} {Q : VK} {ds : List D} {vs : List V} (S : Sim W M σ H env st) (r : Reps W M H ds vs) (h : Fin W E (relD W) σ env (appT g ds st) M H Q) (hl : vs.length = n) : spD W n g vs H Q E := by
  refine ⟨hl, M, ds, st, S.s, r, ?_⟩
  unfold appT at h
  cases hg : g ds st with
  | ex c xs s => rw [hg] at h; exact h.elim
  | no => rw [hg] at h; exact h.elim
  | ok d s =>
    rw [hg] at h
    simp only at h
    by_cases hp : (s.take st.length).all purC = true
    · rw [if_pos hp] at h
      intro M' v H' t S' r'
      obtain ⟨more, hmore⟩ := t.pre
      let M2 : MW := ⟨fun a => M'.mu a ∧ (a ∈ M'.rho → a ∈ M.rho), M.rho⟩
      have old : ∀ a o, H a = some o → a ∈ M'.rho → a ∈ M.rho := fun a o q m => by
        rcases t.fresh a m with z | z
        · exact z
        · rw [q] at z; cases z
      have T2 : Stp M H M2 H' := ⟨t.keep, ⟨[], by simp [M2]⟩, fun a m => .inl m, fun a o q => ⟨fun z => (t.mu a o q).mp z.1, fun z => ⟨(t.mu a o q).mpr z, old a o q⟩⟩, t.there⟩
      have wk : ∀ a o, H' a = some o → ¬ M'.mu a → ¬ M2.mu a := fun a o _ m z => m z.1
      have len : M.rho.length = st.length := S.s.len
      have le : st.length ≤ s.length := by
        have := S'.len
        rw [hmore, List.length_append] at this
        omega
      have S2 : SimS W M2 H' (s.take st.length) := by
        refine ⟨?_, S.s.nd, fun a m => ?_, fun n c a h1 h2 => ?_⟩
        · rw [List.length_take]; show M.rho.length = _; omega
        · exact ⟨S'.mu a (by rw [hmore]; exact List.mem_append_left _ m), fun _ => m⟩
        · have hn : n < st.length := by
            have := (List.getElem?_eq_some_iff.mp h2).1
            rw [← len]; exact this
          rw [List.getElem?_take_of_lt hn] at h1
          have pc : purC c = true := List.all_eq_true.mp hp c (by
            refine List.mem_of_getElem? (i := n) ?_
            rw [List.getElem?_take_of_lt hn]; exact h1)
          have ok := S'.cell n c a h1 (by
            rw [hmore, List.getElem?_append_left (by rw [len]; exact hn)]
            exact h2)
          cases ok with
          | lst ha rx => exact .lst ha (rx.re wk pc)
          | dct ha hk rx => exact .dct ha hk (rx.re wk pc)
      cases ho : outT st.length d s with
      | none => rw [ho] at h; exact h.elim
      | some d2 =>
        rw [ho] at h
        refine h M2 v H' T2 (S.step T2 S2) ?_
        have plain : (if pur d = true then some d else none) = some d2 → Rep W M2 H' d2 v := fun q => by
          by_cases pd : pur d = true
          · rw [if_pos pd] at q; cases q; exact r'.re wk pd
          · rw [if_neg pd] at q; cases q
        cases d with
        | ref m =>
          simp only [outT] at ho
          by_cases hm2 : st.length ≤ m
          · rw [if_pos hm2] at ho
            cases r' with
            | ref hm =>
              rename_i a
              cases hc : s[m]? with
              | none => rw [hc] at ho; cases ho
              | some c =>
                rw [hc] at ho
                cases c with
                | dct kvs => cases ho
                | lst xs =>
                  simp only at ho
                  by_cases px : purs xs = true
                  · rw [if_pos px] at ho
                    cases ho
                    cases S'.cell m _ a hc hm with
                    | lst ha rx =>
                      refine .lst (.inl ha) (fun z => ?_) (rx.re wk px)
                      obtain ⟨j, hj, ej⟩ := List.mem_iff_getElem.mp (z.2 (List.mem_of_getElem? hm))
                      have e1 : M'.rho[j]? = some a := by
                        rw [hmore, List.getElem?_append_left hj, List.getElem?_eq_getElem hj, ej]
                      have ej2 : j = m := by
                        have l1 := (List.getElem?_eq_some_iff.mp e1).1
                        have l2 := (List.getElem?_eq_some_iff.mp hm).1
                        exact (List.getElem_inj S'.nd).mp ((List.getElem?_eq_some_iff.mp e1).2.trans (List.getElem?_eq_some_iff.mp hm).2.symm)
                      omega
                  · rw [if_neg px] at ho; cases ho
          · rw [if_neg hm2] at ho; cases ho
        | non => exact plain ho
        | bl b => exact plain ho
        | int b => exact plain ho
        | str b => exact plain ho
        | tup b => exact plain ho
        | lst b => exact plain ho
        | fn b => exact plain ho
        | rng b c => exact plain ho
    · rw [if_neg hp] at h; exact h.elim
theorem de_callT (C : Cal X.prog X.w X.K X.mg X.base T W lv x i n g) (fr : Free k X.A) (hx : Passes T X E) (hg : Gl X x) (ha : DA X W E (e :: es) as) (hk : lv ≤ k := by decide) (hn : (e :: es).length = n := by rfl)
    (hdb : (x == ("__debug__" : PySem.Str)) = false := by decide) (he : starEach (e :: es) X.env = (false, eval e X.env) :: starEach es X.env := by rfl) (hpl : (backTo pos (starEach es X.env)).any (·.1) = false := by rfl)
    (hlen : ∀ env st ds st1, as env st = .ok ds st1 → ds.length = n) :
    DE X W E (.Call (.Name x p) (e :: es) [] pos) (eCallT g as) := by
  obtain ⟨fd, ps, G, hm, hkp, hb⟩ := C
  refine PEmono (ge_call G (fr.mono hk) hg hm hkp hb hx ha hdb he hpl) fun σ H Q ⟨M, env, st, S, q⟩ => ⟨M, env, st, S, ?_⟩
  unfold eCallT at q
  cases hf : as env st with
  | ex c xs s => rw [hf] at q; exact q
  | no => rw [hf] at q; exact q
  | ok ds st1 =>
    rw [hf] at q
    intro M1 vs H1 T1 S1 r1
    exact callT S1 r1 (Fin.step T1 q) (r1.length.symm.trans (hlen _ _ _ _ hf))
theorem de_call0 (C : Cal X.prog X.w X.K X.mg X.base T W lv x i 0 g) (fr : Free k X.A) (hx : Passes T X E) (hg : Gl X x) (hk : lv ≤ k := by decide) (hdb : (x == ("__debug__" : PySem.Str)) = false := by decide) :
    DE X W E (.Call (.Name x p) [] [] pos) (eCall0 g) := by
  obtain ⟨fd, ps, G, hm, hkp, hb⟩ := C
  exact PEmono (ge_call0 G (fr.mono hk) hg hm hkp hb hx hdb) fun σ H Q ⟨M, env, st, S, q⟩ => callP S .nil q rfl
end
end DL

set_option Elab.async false
set_option linter.all false
set_option maxRecDepth 100000
set_option maxHeartbeats 1000000
/-! EV: evaluation of the data functions, step by step, for simp only. -/
namespace DL
/-! ### stages -/
def kSeq (r : R (Out × Ent)) (g : EvT) : R (Out × Ent) := r.bind fun o st1 => match o with
  | (.nx, env1) => g env1 st1
  | o => .ok o st1
def kAsg (r : R D) (T : TgD) (env : Ent) : R (Out × Ent) := r.bind fun d st1 => match T d env with
  | some env1 => .ok (.nx, env1) st1
  | none => .no
def kRet (r : R D) (env : Ent) : R (Out × Ent) := r.bind fun d st1 => .ok (.rt d, env) st1
def kExp (r : R D) (env : Ent) : R (Out × Ent) := r.bind fun _ st1 => .ok (.nx, env) st1
def kIf (r : R Bool) (f g : EvT) (env : Ent) : R (Out × Ent) := r.bind fun k st1 => if k then f env st1 else g env st1
def kPar (r : R D) (i j : Nat) (g : Ev) (env : Ent) : R (Out × Ent) := r.bind fun a st1 => (g env st1).bind fun b st2 => .ok (.nx, (env.set i (some a)).set j (some b)) st2
def kPar2 (r : R D) (i j : Nat) (a : D) (env : Ent) : R (Out × Ent) := r.bind fun b st2 => .ok (.nx, (env.set i (some a)).set j (some b)) st2
def kFor (r : R Src) (fuel : Nat) (T : TgD) (b : EvT) (env : Ent) : R (Out × Ent) := r.bind fun src st1 => match src with
  | .vals ds => forVals T b ds env st1
  | .cell n => forCell n T b fuel 0 env st1
def kOp (r : R D) (op : Store → D → D → Option D) (g : Ev) (env : Ent) : R D := r.bind fun a st1 => (g env st1).bind fun b st2 => R.ofO (op st2 a b) st2
def kOp2 (r : R D) (op : Store → D → D → Option D) (a : D) : R D := r.bind fun b st2 => R.ofO (op st2 a b) st2
def kUn (r : R D) (op : Store → D → Option D) : R D := r.bind fun a st1 => R.ofO (op st1 a) st1
def kIfE (r : R Bool) (f g : Ev) (env : Ent) : R D := r.bind fun k st1 => if k then f env st1 else g env st1
def kTof (r : R D) : R Bool := r.bind fun a st1 => match a with
  | .bl k => .ok k st1
  | _ => .no
def kTru (r : R D) : R Bool := r.bind fun a st1 => R.ofO (truD st1 a) st1
def kAnd (r : R Bool) (q : EvB) (env : Ent) : R Bool := r.bind fun k st1 => if k then q env st1 else .ok false st1
def kOr (r : R Bool) (q : EvB) (env : Ent) : R Bool := r.bind fun k st1 => if k then .ok true st1 else q env st1
def kNot (r : R Bool) : R Bool := r.bind fun k st1 => .ok (!k) st1
def kCons (r : R D) (g : EvL) (env : Ent) : R (List D) := r.bind fun a st1 => (g env st1).bind fun as st2 => .ok (a :: as) st2
def kCons2 (r : R (List D)) (a : D) : R (List D) := r.bind fun as st2 => .ok (a :: as) st2
def kTup (r : R (List D)) : R D := r.bind fun ds st1 => if sOk ds.length then .ok (.tup ds) st1 else .no
def kLst (r : R (List D)) : R (List D) := r.bind fun ds st1 => if sOk ds.length then .ok ds st1 else .no
def kFrz (r : R (List D)) : R D := r.bind fun ds st1 => .ok (.lst ds) st1
def kNew (r : R (List D)) : R D := r.bind fun ds st1 => .ok (.ref st1.length) (st1 ++ [.lst ds])
def kCB (r : R (List D)) (op : Store → List D → Option D) : R D := r.bind fun as st1 => R.ofO (op st1 as) st1
def kCN (r : R (List D)) (op : Store → List D → Option (List D)) : R (List D) := r.bind fun as st1 => R.ofO (op st1 as) st1
def kCP (r : R (List D)) (g : List D → Store → R D) : R D := r.bind fun ds st1 => R.ofO (appP g ds) st1
def kCT (r : R (List D)) (g : List D → Store → R D) : R D := r.bind fun ds st1 => appT g ds st1
def kCR (r : R (List D)) (g : List D → Store → R D) : R D := r.bind fun ds st1 => g ds st1
def kVar (o : Option (Option D)) (st : Store) : R D := match o with
  | some (some d) => .ok d st
  | _ => .no
section
variable {f g h : Ev} {F G : EvT} {p q : EvB} {as : EvL} {it : EvS} {T : TgD} {env e1 : Ent} {st st1 : Store} {a b d : D} {ds : List D} {op : Store → D → D → Option D} {i j fuel : Nat}
theorem v_seq : sSeq F G env st = kSeq (F env st) G := rfl
theorem k_seqN : kSeq (.ok (.nx, e1) st1) G = G e1 st1 := rfl
theorem k_seqR : kSeq (.ok (.rt d, e1) st1) G = .ok (.rt d, e1) st1 := rfl
theorem v_nx : sNx env st = .ok (.nx, env) st := rfl
theorem v_asg : sAsg f T env st = kAsg (f env st) T env := rfl
theorem k_asgN : kAsg (.ok d st1) (tgN i) env = .ok (.nx, env.set i (some d)) st1 := rfl
theorem v_ret : sRet f env st = kRet (f env st) env := rfl
theorem k_ret : kRet (.ok d st1) env = .ok (.rt d, env) st1 := rfl
theorem v_exp : sExpr f env st = kExp (f env st) env := rfl
theorem k_exp : kExp (.ok d st1) env = .ok (.nx, env) st1 := rfl
theorem v_if : sIf p F G env st = kIf (p env st) F G env := rfl
theorem k_ifT : kIf (.ok true st1) F G env = F env st1 := rfl
theorem k_ifF : kIf (.ok false st1) F G env = G env st1 := rfl
theorem v_par : sPar i j f g env st = kPar (f env st) i j g env := rfl
theorem k_par : kPar (.ok a st1) i j g env = kPar2 (g env st1) i j a env := rfl
theorem k_par2 : kPar2 (.ok b st1) i j a env = .ok (.nx, (env.set i (some a)).set j (some b)) st1 := rfl
theorem v_for : sFor fuel it T F env st = kFor (it env st) fuel T F env := rfl
theorem k_forV : kFor (.ok (.vals ds) st1) fuel T F env = forVals T F ds env st1 := rfl
theorem v_op : eOp op f g env st = kOp (f env st) op g env := rfl
theorem k_op : kOp (.ok a st1) op g env = kOp2 (g env st1) op a := rfl
theorem k_op2 : kOp2 (.ok b st1) op a = R.ofO (op st1 a b) st1 := rfl
theorem v_un {o : Store → D → Option D} : eUn o f env st = kUn (f env st) o := rfl
theorem k_un {o : Store → D → Option D} : kUn (.ok a st1) o = R.ofO (o st1 a) st1 := rfl
theorem v_ife : eIfE p f g env st = kIfE (p env st) f g env := rfl
theorem k_ifeT : kIfE (.ok true st1) f g env = f env st1 := rfl
theorem k_ifeF : kIfE (.ok false st1) f g env = g env st1 := rfl
theorem v_tof : tOf f env st = kTof (f env st) := rfl
theorem k_tof {k : Bool} : kTof (.ok (.bl k) st1) = .ok k st1 := rfl
theorem v_tru : tTru f env st = kTru (f env st) := rfl
theorem k_truB {k : Bool} : kTru (.ok (.bl k) st1) = .ok k st1 := rfl
theorem k_truT {xs : List D} : kTru (.ok (.tup xs) st1) = .ok (!xs.isEmpty) st1 := rfl
theorem v_and : tAndD p q env st = kAnd (p env st) q env := rfl
theorem k_andT : kAnd (.ok true st1) q env = q env st1 := rfl
theorem k_andF : kAnd (.ok false st1) q env = .ok false st1 := rfl
theorem v_or : tOrD p q env st = kOr (p env st) q env := rfl
theorem k_orT : kOr (.ok true st1) q env = .ok true st1 := rfl
theorem k_orF : kOr (.ok false st1) q env = q env st1 := rfl
theorem v_not : tNotD p env st = kNot (p env st) := rfl
theorem k_not {k : Bool} : kNot (.ok k st1) = .ok (!k) st1 := rfl
theorem v_nil : aNil env st = .ok [] st := rfl
theorem v_cons : aCons f as env st = kCons (f env st) as env := rfl
theorem k_cons : kCons (.ok a st1) as env = kCons2 (as env st1) a := rfl
theorem k_cons2 : kCons2 (.ok ds st1) a = .ok (a :: ds) st1 := rfl
theorem v_tup : eTup as env st = kTup (as env st) := rfl
theorem v_lst : nLst as env st = kLst (as env st) := rfl
theorem v_frz : eFrz as env st = kFrz (as env st) := rfl
theorem k_frz : kFrz (.ok ds st1) = .ok (.lst ds) st1 := rfl
theorem v_new : eNew as env st = kNew (as env st) := rfl
theorem k_new : kNew (.ok ds st1) = .ok (.ref st1.length) (st1 ++ [.lst ds]) := rfl
theorem v_cb {o : Store → List D → Option D} : eCallB o as env st = kCB (as env st) o := rfl
theorem k_cb {o : Store → List D → Option D} : kCB (.ok ds st1) o = R.ofO (o st1 ds) st1 := rfl
theorem v_cn {o : Store → List D → Option (List D)} : nCallB o as env st = kCN (as env st) o := rfl
theorem k_cn {o : Store → List D → Option (List D)} : kCN (.ok ds st1) o = R.ofO (o st1 ds) st1 := rfl
theorem v_cp {u : List D → Store → R D} : eCallP u as env st = kCP (as env st) u := rfl
theorem k_cp {u : List D → Store → R D} : kCP (.ok ds st1) u = R.ofO (appP u ds) st1 := rfl
theorem v_ct {u : List D → Store → R D} : eCallT u as env st = kCT (as env st) u := rfl
theorem k_ct {u : List D → Store → R D} : kCT (.ok ds st1) u = appT u ds st1 := rfl
theorem v_cr {u : List D → Store → R D} : eCallR u as env st = kCR (as env st) u := rfl
theorem k_cr {u : List D → Store → R D} : kCR (.ok ds st1) u = u ds st1 := rfl
theorem v_c : eC d env st = .ok d st := rfl
theorem v_var : eVar i env st = kVar env[i]? st := rfl
theorem k_var : kVar (some (some d)) st = .ok d st := rfl
theorem k_some {α : Type} {x : α} : R.ofO (some x) st = .ok x st := rfl
theorem k_tup (h : ds.length ≤ 16777216) : kTup (.ok ds st1) = .ok (.tup ds) st1 := by
  show (if sOk ds.length = true then _ else _) = _
  rw [if_pos (sOk_of h)]
theorem k_lst (h : ds.length ≤ 16777216) : kLst (.ok ds st1) = .ok ds st1 := by
  show (if sOk ds.length = true then _ else _) = _
  rw [if_pos (sOk_of h)]
end
/-! ### loops and comprehensions -/
theorem for_find {T : TgD} {body : EvT} {st : Store} {Inv : Ent → Prop} {pb : D → Bool} {fv : D → D} : ∀ {ds : List D} {env : Ent}, Inv env →
    (∀ d ∈ ds, ∀ e, Inv e → ∃ e1, T d e = some e1 ∧ (pb d = true → ∃ e2, body e1 st = .ok (.rt (fv d), e2) st) ∧ (pb d = false → ∃ e2, Inv e2 ∧ body e1 st = .ok (.nx, e2) st)) →
    (∃ d e', ds.find? pb = some d ∧ forVals T body ds env st = .ok (.rt (fv d), e') st) ∨ (∃ e', ds.find? pb = none ∧ Inv e' ∧ forVals T body ds env st = .ok (.nx, e') st)
  | [], env, hI, _ => .inr ⟨env, rfl, hI, rfl⟩
  | d :: ds, env, hI, h => by
    obtain ⟨e1, hT, h1, h2⟩ := h d (List.mem_cons_self ..) env hI
    have step : forVals T body (d :: ds) env st = (body e1 st).bind fun o st2 => match o with
      | (.nx, env2) => forVals T body ds env2 st2
      | (.ct, env2) => forVals T body ds env2 st2
      | (.bk, env2) => .ok (.nx, env2) st2
      | (.rt d, env2) => .ok (.rt d, env2) st2 := by
      show (match T d env with | none => _ | some env1 => _) = _
      rw [hT] <;> rfl
    cases hp : pb d with
    | true =>
      obtain ⟨e2, hb⟩ := h1 hp
      refine .inl ⟨d, e2, by rw [List.find?_cons, hp], ?_⟩
      rw [step, hb]
      rfl
    | false =>
      obtain ⟨e2, hI2, hb⟩ := h2 hp
      have ih := for_find (ds := ds) (env := e2) hI2 fun d' hd' => h d' (List.mem_cons_of_mem _ hd')
      have e0 : (d :: ds).find? pb = ds.find? pb := by rw [List.find?_cons, hp]
      rw [step, hb, e0]
      exact ih
/-- every turn goes on -/
theorem for_all {T : TgD} {body : EvT} {Inv : Ent → Store → Prop} : ∀ {ds : List D} {env : Ent} {st : Store}, Inv env st →
    (∀ d ∈ ds, ∀ e s, Inv e s → ∃ e1 e2 s2, T d e = some e1 ∧ body e1 s = .ok (.nx, e2) s2 ∧ Inv e2 s2) → ∃ e' s', Inv e' s' ∧ forVals T body ds env st = .ok (.nx, e') s'
  | [], env, st, hI, _ => ⟨env, st, hI, rfl⟩
  | d :: ds, env, st, hI, h => by
    obtain ⟨e1, e2, s2, hT, hb, hI2⟩ := h d (List.mem_cons_self ..) env st hI
    obtain ⟨e', s', hI', ih⟩ := for_all (ds := ds) hI2 fun d' hd' => h d' (List.mem_cons_of_mem _ hd')
    refine ⟨e', s', hI', ?_⟩
    rw [← ih]
    show (match T d env with | none => _ | some env1 => _) = _
    rw [hT]
    show (body e1 st).bind _ = _
    rw [hb]
    rfl
/-- .. where what is done is told by the items behind -/
theorem for_done {T : TgD} {body : EvT} {Inv : List D → Ent → Store → Prop} : ∀ {ds pre : List D} {env : Ent} {st : Store}, Inv pre env st →
    (∀ d pre e s, (∃ post, ds = post ++ d :: (ds.drop (post.length + 1))) → Inv pre e s → ∃ e1 e2 s2, T d e = some e1 ∧ body e1 s = .ok (.nx, e2) s2 ∧ Inv (pre ++ [d]) e2 s2) → ∃ e' s', Inv (pre ++ ds) e' s' ∧ forVals T body ds env st = .ok (.nx, e') s'
  | [], pre, env, st, hI, _ => ⟨env, st, by rw [List.append_nil]; exact hI, rfl⟩
  | d :: ds, pre, env, st, hI, h => by
    obtain ⟨e1, e2, s2, hT, hb, hI2⟩ := h d pre env st ⟨[], rfl⟩ hI
    obtain ⟨e', s', hI', ih⟩ := for_done (ds := ds) (pre := pre ++ [d]) hI2 fun d' pre' e s ⟨post, hp⟩ hI' => h d' pre' e s ⟨d :: post, by
      have : (d :: ds).drop ((d :: post).length + 1) = ds.drop (post.length + 1) := rfl
      rw [this, List.cons_append, ← hp]⟩ hI'
    refine ⟨e', s', by rw [List.append_assoc] at hI'; exact hI', ?_⟩
    rw [← ih]
    show (match T d env with | none => _ | some env1 => _) = _
    rw [hT]
    show (body e1 st).bind _ = _
    rw [hb]
    rfl
theorem lc_vals {T : TgD} {p : EvB} {f : Ev} {env : Ent} {st : Store} {pb : D → Bool} {fv : D → D} : ∀ {ds : List D}, (∀ d ∈ ds, ∃ e1, T d env = some e1 ∧ p e1 st = .ok (pb d) st ∧ (pb d = true → f e1 st = .ok (fv d) st)) →
    lcVals T p f env ds st = .ok ((ds.filter pb).map fv) st
  | [], _ => rfl
  | d :: ds, h => by
    obtain ⟨e1, hT, hp, hf⟩ := h d (List.mem_cons_self ..)
    have ih := lc_vals (ds := ds) fun d' hd' => h d' (List.mem_cons_of_mem _ hd')
    have e0 : lcTurn T p f d env st = .ok (if pb d then some (fv d) else none) st := by
      show (match T d env with | none => _ | some env1 => _) = _
      rw [hT]
      show (noEx (p e1 st)).bind _ = _
      rw [hp]
      cases hb : pb d with
      | false => rfl
      | true =>
        show (noEx (f e1 st)).bind _ = _
        rw [hf hb]
        rfl
    show (lcTurn T p f d env st).bind _ = _
    rw [e0, List.filter_cons]
    cases hb : pb d with
    | false => exact ih
    | true =>
      show (lcVals T p f env ds st).bind _ = _
      rw [ih]
      rfl
theorem lc_ok {it : EvS} {T : TgD} {p : EvB} {f : Ev} {vs : List Nat} {env : Ent} {st : Store} {ds : List D} {pb : D → Bool} {fv : D → D} (hi : it env st = .ok (.vals ds) st) (hz : ds.length ≤ 16777216)
    (h : ∀ d ∈ ds, ∃ e1, T d (wipeE env vs) = some e1 ∧ p e1 st = .ok (pb d) st ∧ (pb d = true → f e1 st = .ok (fv d) st)) :
    nLc it T p f vs env st = .ok ((ds.filter pb).map fv) st := by
  unfold nLc
  rw [hi]
  show (match lcVals T p f (wipeE env vs) ds st with | R.ok ds st2 => (if sOk ds.length = true then R.ok ds st2 else R.no) | _ => R.no) = _
  rw [lc_vals h]
  show (if sOk _ = true then _ else _) = _
  rw [if_pos]
  refine sOk_of ?_
  rw [List.length_map]
  exact Nat.le_trans (List.length_filter_le ..) hz
end DL

set_option Elab.async false
set_option linter.all false
/-! plans as plain lists: what a gentle plan is -/
namespace FK
structure Pl where
  n : Int
  rows : List (Int × Int)
  pairs : List (Int × Int)
def rgL (a b : Int) : List Int := (List.range (b - a).toNat).map fun (i : Nat) => a + (i : Int)
theorem mem_rgL {a b x : Int} : x ∈ rgL a b ↔ a ≤ x ∧ x < b := by
  unfold rgL
  rw [List.mem_map]
  constructor
  · rintro ⟨i, hi, rfl⟩
    have := List.mem_range.mp hi
    omega
  · rintro ⟨h1, h2⟩
    exact ⟨(x - a).toNat, List.mem_range.mpr (by omega), by omega⟩
theorem len_rgL (a b : Int) : (rgL a b).length = (b - a).toNat := by unfold rgL; simp
theorem srt_rgL (a b : Int) : (rgL a b).Pairwise (· < ·) := by
  unfold rgL
  rw [List.pairwise_map]
  refine List.Pairwise.imp ?_ List.pairwise_lt_range
  intro x y h
  show a + (x : Int) < a + (y : Int)
  omega
theorem ext_sorted : ∀ {l1 l2 : List Int}, l1.Pairwise (· < ·) → l2.Pairwise (· < ·) → (∀ x, x ∈ l1 ↔ x ∈ l2) → l1 = l2
  | [], [], _, _, _ => rfl
  | [], y :: l2, _, _, h => by
    have := (h y).mpr (List.mem_cons_self ..)
    cases this
  | x :: l1, [], _, _, h => by
    have := (h x).mp (List.mem_cons_self ..)
    cases this
  | x :: l1, y :: l2, h1, h2, h => by
    have a1 := List.pairwise_cons.mp h1
    have a2 := List.pairwise_cons.mp h2
    have e : x = y := by
      rcases List.mem_cons.mp ((h x).mp (List.mem_cons_self ..)) with q | q
      · exact q
      · rcases List.mem_cons.mp ((h y).mpr (List.mem_cons_self ..)) with r | r
        · exact r.symm
        · have := a1.1 y r
          have := a2.1 x q
          omega
    subst e
    congr 1
    refine ext_sorted a1.2 a2.2 fun z => ?_
    constructor
    · intro hz
      rcases List.mem_cons.mp ((h z).mp (List.mem_cons_of_mem _ hz)) with q | q
      · have := a1.1 z hz
        omega
      · exact q
    · intro hz
      rcases List.mem_cons.mp ((h z).mpr (List.mem_cons_of_mem _ hz)) with q | q
      · have := a2.1 z hz
        omega
      · exact q
def ltP (p q : Int × Int) : Prop := p.1 < q.1 ∨ (p.1 = q.1 ∧ p.2 < q.2)
theorem ltP_irr {p : Int × Int} : ¬ ltP p p := by unfold ltP; omega
theorem ltP_asy {p q : Int × Int} (h : ltP p q) : ¬ ltP q p := by unfold ltP at *; omega
theorem ext_pairs : ∀ {l1 l2 : List (Int × Int)}, l1.Pairwise ltP → l2.Pairwise ltP → (∀ x, x ∈ l1 ↔ x ∈ l2) → l1 = l2
  | [], [], _, _, _ => rfl
  | [], y :: l2, _, _, h => by
    have := (h y).mpr (List.mem_cons_self ..)
    cases this
  | x :: l1, [], _, _, h => by
    have := (h x).mp (List.mem_cons_self ..)
    cases this
  | x :: l1, y :: l2, h1, h2, h => by
    have a1 := List.pairwise_cons.mp h1
    have a2 := List.pairwise_cons.mp h2
    have e : x = y := by
      rcases List.mem_cons.mp ((h x).mp (List.mem_cons_self ..)) with q | q
      · exact q
      · rcases List.mem_cons.mp ((h y).mpr (List.mem_cons_self ..)) with r | r
        · exact r.symm
        · exact absurd (a2.1 x q) (ltP_asy (a1.1 y r))
    subst e
    congr 1
    refine ext_pairs a1.2 a2.2 fun z => ?_
    constructor
    · intro hz
      rcases List.mem_cons.mp ((h z).mp (List.mem_cons_of_mem _ hz)) with q | q
      · subst q; exact absurd (a1.1 _ hz) ltP_irr
      · exact q
    · intro hz
      rcases List.mem_cons.mp ((h z).mpr (List.mem_cons_of_mem _ hz)) with q | q
      · subst q; exact absurd (a2.1 _ hz) ltP_irr
      · exact q
/-- the row of an arrow -/
def atR (rows : List (Int × Int)) (a : Int) : Int × Int := rows.getD a.toNat (0, 0)
theorem atR_some {rows : List (Int × Int)} {a : Int} (h0 : 0 ≤ a) (h1 : a < rows.length) : rows[a.toNat]? = some (atR rows a) := by
  unfold atR
  have : a.toNat < rows.length := by omega
  rw [List.getElem?_eq_getElem this, List.getD_eq_getElem?_getD, List.getElem?_eq_getElem this]
  rfl
theorem atR_of {rows : List (Int × Int)} {k : Nat} {r : Int × Int} (h : rows[k]? = some r) : atR rows (k : Int) = r := by
  unfold atR
  rw [List.getD_eq_getElem?_getD, Int.toNat_natCast, h]
  rfl
theorem atR_mem {rows : List (Int × Int)} {a : Int} (h0 : 0 ≤ a) (h1 : a < rows.length) : atR rows a ∈ rows := List.mem_of_getElem? (atR_some h0 h1)
theorem mem_atR {rows : List (Int × Int)} {r : Int × Int} (h : r ∈ rows) : ∃ a : Int, 0 ≤ a ∧ a < rows.length ∧ atR rows a = r := by
  obtain ⟨k, hk⟩ := List.mem_iff_getElem?.mp h
  have := (List.getElem?_eq_some_iff.mp hk).1
  exact ⟨(k : Int), by omega, by omega, atR_of hk⟩
/-- rows with the first rules -/
structure Rws (n : Int) (rows : List (Int × Int)) : Prop where
  len : rows.length ≤ 200
  bnd : ∀ a : Int, 0 ≤ a → a < rows.length → 0 ≤ (atR rows a).1 ∧ (atR rows a).1 < n ∧ 0 ≤ (atR rows a).2 ∧ (atR rows a).2 < n
  two1 : ∀ a b d : Int, 0 ≤ a → a < rows.length → 0 ≤ b → b < rows.length → 0 ≤ d → d < rows.length → (atR rows a).1 = (atR rows b).1 → (atR rows b).1 = (atR rows d).1 → a = b ∨ b = d ∨ a = d
  two2 : ∀ a b d : Int, 0 ≤ a → a < rows.length → 0 ≤ b → b < rows.length → 0 ≤ d → d < rows.length → (atR rows a).2 = (atR rows b).2 → (atR rows b).2 = (atR rows d).2 → a = b ∨ b = d ∨ a = d
structure Gentle (P : Pl) : Prop where
  n1 : 1 ≤ P.n
  n2 : P.n ≤ 100
  rws : Rws P.n P.rows
  pr : ∀ a b : Int, (a, b) ∈ P.pairs → 0 ≤ a ∧ a < P.rows.length ∧ 0 ≤ b ∧ b < P.rows.length ∧ (atR P.rows a).2 = (atR P.rows b).1
  one1 : ∀ a b d : Int, (a, b) ∈ P.pairs → (a, d) ∈ P.pairs → b = d
  one2 : ∀ a b d : Int, (b, a) ∈ P.pairs → (d, a) ∈ P.pairs → b = d
  one3 : ∀ a b d : Int, 0 ≤ a → a < P.rows.length → 0 ≤ b → b < P.rows.length → 0 ≤ d → d < P.rows.length → (atR P.rows a).2 = (atR P.rows b).1 → (atR P.rows a).2 = (atR P.rows d).1 → (a, b) ∉ P.pairs → (a, d) ∉ P.pairs → b = d
  one4 : ∀ a b d : Int, 0 ≤ a → a < P.rows.length → 0 ≤ b → b < P.rows.length → 0 ≤ d → d < P.rows.length → (atR P.rows b).2 = (atR P.rows a).1 → (atR P.rows d).2 = (atR P.rows a).1 → (b, a) ∉ P.pairs → (d, a) ∉ P.pairs → b = d
  srt : P.pairs.Pairwise ltP
  plen : P.pairs.length ≤ 1000
/-- a plan that is seen in a gentle one -/
theorem gentle_in {P Q : Pl} (h : Gentle P) (f : Int → Int) (g : Int → Int) (n1 : 1 ≤ Q.n) (n2 : Q.n ≤ 100) (hl : Q.rows.length ≤ 200) (hp : Q.pairs.length ≤ 1000)
    (hf : ∀ a : Int, 0 ≤ a → a < Q.rows.length → 0 ≤ f a ∧ f a < P.rows.length) (hi : ∀ a b : Int, 0 ≤ a → a < Q.rows.length → 0 ≤ b → b < Q.rows.length → f a = f b → a = b)
    (hg : ∀ p : Int, 0 ≤ p → p < P.n → 0 ≤ g p ∧ g p < Q.n) (hj : ∀ p q : Int, 0 ≤ p → p < P.n → 0 ≤ q → q < P.n → g p = g q → p = q)
    (hr : ∀ a : Int, 0 ≤ a → a < Q.rows.length → atR Q.rows a = (g (atR P.rows (f a)).1, g (atR P.rows (f a)).2))
    (hq : ∀ a b : Int, (a, b) ∈ Q.pairs ↔ 0 ≤ a ∧ a < Q.rows.length ∧ 0 ≤ b ∧ b < Q.rows.length ∧ (f a, f b) ∈ P.pairs) (hs : Q.pairs.Pairwise ltP) : Gentle Q := by
  have B := h.rws.bnd
  refine ⟨n1, n2, ⟨hl, fun a h0 h1 => ?_, fun a b d a0 a1 b0 b1 d0 d1 => ?_, fun a b d a0 a1 b0 b1 d0 d1 => ?_⟩, fun a b hab => ?_, fun a b d h1 h2 => ?_, fun a b d h1 h2 => ?_, fun a b d a0 a1 b0 b1 d0 d1 => ?_, fun a b d a0 a1 b0 b1 d0 d1 => ?_, hs, hp⟩
  · have := B (f a) (hf a h0 h1).1 (hf a h0 h1).2
    rw [hr a h0 h1]
    have q1 := hg _ this.1 this.2.1
    have q2 := hg _ this.2.2.1 this.2.2.2
    exact ⟨q1.1, q1.2, q2.1, q2.2⟩
  · have A := hf a a0 a1
    have A' := hf b b0 b1
    have A'' := hf d d0 d1
    have ba := B _ A.1 A.2
    have bb := B _ A'.1 A'.2
    have bd := B _ A''.1 A''.2
    rw [hr a a0 a1, hr b b0 b1, hr d d0 d1]
    intro e1 e2
    have e1 := hj _ _ ba.1 ba.2.1 bb.1 bb.2.1 e1
    have e2 := hj _ _ bb.1 bb.2.1 bd.1 bd.2.1 e2
    rcases h.rws.two1 (f a) (f b) (f d) A.1 A.2 A'.1 A'.2 A''.1 A''.2 e1 e2 with q | q | q
    · exact .inl (hi _ _ a0 a1 b0 b1 q)
    · exact .inr (.inl (hi _ _ b0 b1 d0 d1 q))
    · exact .inr (.inr (hi _ _ a0 a1 d0 d1 q))
  · have A := hf a a0 a1
    have A' := hf b b0 b1
    have A'' := hf d d0 d1
    have ba := B _ A.1 A.2
    have bb := B _ A'.1 A'.2
    have bd := B _ A''.1 A''.2
    rw [hr a a0 a1, hr b b0 b1, hr d d0 d1]
    intro e1 e2
    have e1 := hj _ _ ba.2.2.1 ba.2.2.2 bb.2.2.1 bb.2.2.2 e1
    have e2 := hj _ _ bb.2.2.1 bb.2.2.2 bd.2.2.1 bd.2.2.2 e2
    rcases h.rws.two2 (f a) (f b) (f d) A.1 A.2 A'.1 A'.2 A''.1 A''.2 e1 e2 with q | q | q
    · exact .inl (hi _ _ a0 a1 b0 b1 q)
    · exact .inr (.inl (hi _ _ b0 b1 d0 d1 q))
    · exact .inr (.inr (hi _ _ a0 a1 d0 d1 q))
  · obtain ⟨a0, a1, b0, b1, hm⟩ := (hq a b).mp hab
    refine ⟨a0, a1, b0, b1, ?_⟩
    rw [hr a a0 a1, hr b b0 b1, (h.pr _ _ hm).2.2.2.2]
  · obtain ⟨a0, a1, b0, b1, hm⟩ := (hq a b).mp h1
    obtain ⟨_, _, d0, d1, hm2⟩ := (hq a d).mp h2
    exact hi _ _ b0 b1 d0 d1 (h.one1 _ _ _ hm hm2)
  · obtain ⟨b0, b1, a0, a1, hm⟩ := (hq b a).mp h1
    obtain ⟨d0, d1, _, _, hm2⟩ := (hq d a).mp h2
    exact hi _ _ b0 b1 d0 d1 (h.one2 _ _ _ hm hm2)
  · have A := hf a a0 a1
    have A' := hf b b0 b1
    have A'' := hf d d0 d1
    have ba := B _ A.1 A.2
    have bb := B _ A'.1 A'.2
    have bd := B _ A''.1 A''.2
    rw [hr a a0 a1, hr b b0 b1, hr d d0 d1]
    intro e1 e2 n1 n2
    have e1 := hj _ _ ba.2.2.1 ba.2.2.2 bb.1 bb.2.1 e1
    have e2 := hj _ _ ba.2.2.1 ba.2.2.2 bd.1 bd.2.1 e2
    refine hi _ _ b0 b1 d0 d1 (h.one3 (f a) (f b) (f d) A.1 A.2 A'.1 A'.2 A''.1 A''.2 e1 e2 (fun q => n1 ((hq a b).mpr ⟨a0, a1, b0, b1, q⟩)) fun q => n2 ((hq a d).mpr ⟨a0, a1, d0, d1, q⟩))
  · have A := hf a a0 a1
    have A' := hf b b0 b1
    have A'' := hf d d0 d1
    have ba := B _ A.1 A.2
    have bb := B _ A'.1 A'.2
    have bd := B _ A''.1 A''.2
    rw [hr a a0 a1, hr b b0 b1, hr d d0 d1]
    intro e1 e2 n1 n2
    have e1 := hj _ _ bb.2.2.1 bb.2.2.2 ba.1 ba.2.1 e1
    have e2 := hj _ _ bd.2.2.1 bd.2.2.2 ba.1 ba.2.1 e2
    refine hi _ _ b0 b1 d0 d1 (h.one4 (f a) (f b) (f d) A.1 A.2 A'.1 A'.2 A''.1 A''.2 e1 e2 (fun q => n1 ((hq b a).mpr ⟨b0, b1, a0, a1, q⟩)) fun q => n2 ((hq d a).mpr ⟨d0, d1, a0, a1, q⟩))
def swP (p : Int × Int) : Int × Int := (p.2, p.1)
theorem atR_sw {rows : List (Int × Int)} (a : Int) : atR (rows.map swP) a = swP (atR rows a) := by
  unfold atR
  rw [List.getD_eq_getElem?_getD, List.getD_eq_getElem?_getD, List.getElem?_map]
  cases rows[a.toNat]? <;> rfl
theorem gentle_turned {P Q : Pl} (h : Gentle P) (hn : Q.n = P.n) (hr : Q.rows = P.rows.map swP) (hq : ∀ a b : Int, (a, b) ∈ Q.pairs ↔ (b, a) ∈ P.pairs) (hs : Q.pairs.Pairwise ltP) (hp : Q.pairs.length ≤ 1000) : Gentle Q := by
  have hl : Q.rows.length = P.rows.length := by rw [hr, List.length_map]
  have R := h.rws
  have e : ∀ a, atR Q.rows a = swP (atR P.rows a) := fun a => by rw [hr, atR_sw]
  refine ⟨by rw [hn]; exact h.n1, by rw [hn]; exact h.n2, ⟨by rw [hl]; exact R.len, fun a => ?_, fun a b d => ?_, fun a b d => ?_⟩, fun a b hab => ?_, fun a b d h1 h2 => ?_, fun a b d h1 h2 => ?_, fun a b d => ?_, fun a b d => ?_, hs, hp⟩
  · rw [hl, e, hn]
    intro h0 h1
    have := R.bnd a h0 h1
    exact ⟨this.2.2.1, this.2.2.2, this.1, this.2.1⟩
  · rw [hl, e, e, e]
    exact R.two2 a b d
  · rw [hl, e, e, e]
    exact R.two1 a b d
  · rw [hl, e, e]
    have := h.pr b a ((hq a b).mp hab)
    exact ⟨this.2.2.1, this.2.2.2.1, this.1, this.2.1, this.2.2.2.2.symm⟩
  · exact h.one2 a b d ((hq a b).mp h1) ((hq a d).mp h2)
  · exact h.one1 a b d ((hq b a).mp h1) ((hq d a).mp h2)
  · rw [hl, e, e, e, hq, hq]
    intro a0 a1 b0 b1 d0 d1 e1 e2
    exact h.one4 a b d a0 a1 b0 b1 d0 d1 e1.symm e2.symm
  · rw [hl, e, e, e, hq, hq]
    intro a0 a1 b0 b1 d0 d1 e1 e2
    exact h.one3 a b d a0 a1 b0 b1 d0 d1 e1.symm e2.symm
end FK

set_option Elab.async false
set_option linter.all false
namespace FK
/-- the noughts at a point -/
def mid : List Int → List Int → Int → List (Int × Int)
  | [x, y], [u, v], s => if s = 0 then [(x, u), (y, v)] else [(x, v), (y, u)]
  | [x, y], [u], s => if s = 0 then [(x, u)] else [(y, u)]
  | [x], [u, v], s => if s = 0 then [(x, u)] else [(x, v)]
  | [x], [u], s => if s = 1 then [(x, u)] else []
  | _, _, _ => []
theorem len2 {l : List Int} (h : l.length ≤ 2) : l = [] ∨ (∃ x, l = [x]) ∨ ∃ x y, l = [x, y] := by
  match l, h with
  | [], _ => exact .inl rfl
  | [x], _ => exact .inr (.inl ⟨x, rfl⟩)
  | [x, y], _ => exact .inr (.inr ⟨x, y, rfl⟩)
theorem mid_mem {i o : List Int} {s : Int} (hi : i.length ≤ 2) (ho : o.length ≤ 2) {a b : Int} : (a, b) ∈ mid i o s → a ∈ i ∧ b ∈ o := by
  rcases len2 hi with rfl | ⟨x, rfl⟩ | ⟨x, y, rfl⟩ <;> rcases len2 ho with rfl | ⟨u, rfl⟩ | ⟨u, v, rfl⟩ <;> by_cases h0 : s = 0 <;> by_cases h1 : s = 1
  all_goals (try simp [mid, h0, h1] at *)
  all_goals (try intros; omega)
theorem mid_one {i o : List Int} {s : Int} (hi : i.length ≤ 2) (ho : o.length ≤ 2) (di : i.Nodup) (do_ : o.Nodup) {a b d : Int} : (a, b) ∈ mid i o s → (a, d) ∈ mid i o s → b = d := by
  rcases len2 hi with rfl | ⟨x, rfl⟩ | ⟨x, y, rfl⟩ <;> rcases len2 ho with rfl | ⟨u, rfl⟩ | ⟨u, v, rfl⟩ <;> by_cases h0 : s = 0 <;> by_cases h1 : s = 1
  all_goals (try simp [mid, h0, h1] at *)
  all_goals (try intros; omega)
theorem mid_two {i o : List Int} {s : Int} (hi : i.length ≤ 2) (ho : o.length ≤ 2) (di : i.Nodup) (do_ : o.Nodup) {a b d : Int} : (b, a) ∈ mid i o s → (d, a) ∈ mid i o s → b = d := by
  rcases len2 hi with rfl | ⟨x, rfl⟩ | ⟨x, y, rfl⟩ <;> rcases len2 ho with rfl | ⟨u, rfl⟩ | ⟨u, v, rfl⟩ <;> by_cases h0 : s = 0 <;> by_cases h1 : s = 1
  all_goals (try simp [mid, h0, h1] at *)
  all_goals (try intros; omega)
theorem mid_three {i o : List Int} {s : Int} (hi : i.length ≤ 2) (ho : o.length ≤ 2) (di : i.Nodup) (do_ : o.Nodup) {a b d : Int} (ha : a ∈ i) (hb : b ∈ o) (hd : d ∈ o) : (a, b) ∉ mid i o s → (a, d) ∉ mid i o s → b = d := by
  rcases len2 hi with rfl | ⟨x, rfl⟩ | ⟨x, y, rfl⟩ <;> rcases len2 ho with rfl | ⟨u, rfl⟩ | ⟨u, v, rfl⟩ <;> by_cases h0 : s = 0 <;> by_cases h1 : s = 1
  all_goals (try simp [mid, h0, h1] at *)
  all_goals (try intros; omega)
theorem mid_four {i o : List Int} {s : Int} (hi : i.length ≤ 2) (ho : o.length ≤ 2) (di : i.Nodup) (do_ : o.Nodup) {a b d : Int} (ha : a ∈ o) (hb : b ∈ i) (hd : d ∈ i) : (b, a) ∉ mid i o s → (d, a) ∉ mid i o s → b = d := by
  rcases len2 hi with rfl | ⟨x, rfl⟩ | ⟨x, y, rfl⟩ <;> rcases len2 ho with rfl | ⟨u, rfl⟩ | ⟨u, v, rfl⟩ <;> by_cases h0 : s = 0 <;> by_cases h1 : s = 1
  all_goals (try simp [mid, h0, h1] at *)
  all_goals (try intros; omega)
theorem mid_nd {i o : List Int} {s : Int} (hi : i.length ≤ 2) (ho : o.length ≤ 2) (di : i.Nodup) (do_ : o.Nodup) : (mid i o s).Nodup := by
  rcases len2 hi with rfl | ⟨x, rfl⟩ | ⟨x, y, rfl⟩ <;> rcases len2 ho with rfl | ⟨u, rfl⟩ | ⟨u, v, rfl⟩ <;> by_cases h0 : s = 0 <;> by_cases h1 : s = 1
  all_goals (try simp [mid, h0, h1] at *)
  all_goals (try intros; omega)
theorem mid_len {i o : List Int} {s : Int} (hi : i.length ≤ 2) (ho : o.length ≤ 2) : (mid i o s).length ≤ 2 := by
  rcases len2 hi with rfl | ⟨x, rfl⟩ | ⟨x, y, rfl⟩ <;> rcases len2 ho with rfl | ⟨u, rfl⟩ | ⟨u, v, rfl⟩ <;> by_cases h0 : s = 0 <;> by_cases h1 : s = 1
  all_goals simp [mid, h0, h1]
def insL (rows : List (Int × Int)) (p : Int) : List Int := (rgL 0 rows.length).filter fun k => decide ((atR rows k).2 = p)
def outsL (rows : List (Int × Int)) (p : Int) : List Int := (rgL 0 rows.length).filter fun k => decide ((atR rows k).1 = p)
theorem mem_ins {rows : List (Int × Int)} {p k : Int} : k ∈ insL rows p ↔ (0 ≤ k ∧ k < rows.length) ∧ (atR rows k).2 = p := by
  unfold insL
  rw [List.mem_filter, mem_rgL, decide_eq_true_iff]
theorem mem_outs {rows : List (Int × Int)} {p k : Int} : k ∈ outsL rows p ↔ (0 ≤ k ∧ k < rows.length) ∧ (atR rows k).1 = p := by
  unfold outsL
  rw [List.mem_filter, mem_rgL, decide_eq_true_iff]
theorem nd_lt {l : List Int} (h : l.Pairwise (· < ·)) : l.Nodup := h.imp fun h => by omega
theorem nd_ins {rows : List (Int × Int)} {p : Int} : (insL rows p).Nodup := nd_lt ((srt_rgL _ _).filter _)
theorem nd_outs {rows : List (Int × Int)} {p : Int} : (outsL rows p).Nodup := nd_lt ((srt_rgL _ _).filter _)
theorem le_two {l : List Int} (hd : l.Nodup) (h : ∀ a b d, a ∈ l → b ∈ l → d ∈ l → a = b ∨ b = d ∨ a = d) : l.length ≤ 2 := by
  match l, hd, h with
  | [], _, _ => exact Nat.zero_le _
  | [_], _, _ => exact Nat.le_succ _
  | [_, _], _, _ => exact Nat.le_refl _
  | x :: y :: z :: l, hd, h =>
    have := h x y z (by simp) (by simp) (by simp)
    simp at hd
    omega
theorem len_ins {n : Int} {rows : List (Int × Int)} (h : Rws n rows) (p : Int) : (insL rows p).length ≤ 2 := by
  refine le_two nd_ins fun a b d ha hb hd => ?_
  have ha := mem_ins.mp ha
  have hb := mem_ins.mp hb
  have hd := mem_ins.mp hd
  exact h.two2 a b d ha.1.1 ha.1.2 hb.1.1 hb.1.2 hd.1.1 hd.1.2 (ha.2.trans hb.2.symm) (hb.2.trans hd.2.symm)
theorem len_outs {n : Int} {rows : List (Int × Int)} (h : Rws n rows) (p : Int) : (outsL rows p).length ≤ 2 := by
  refine le_two nd_outs fun a b d ha hb hd => ?_
  have ha := mem_outs.mp ha
  have hb := mem_outs.mp hb
  have hd := mem_outs.mp hd
  exact h.two1 a b d ha.1.1 ha.1.2 hb.1.1 hb.1.2 hd.1.1 hd.1.2 (ha.2.trans hb.2.symm) (hb.2.trans hd.2.symm)
/-- noughts drawn point by point -/
inductive Acc (rows : List (Int × Int)) : List Int → List (Int × Int) → Prop
  | nil : Acc rows [] []
  | snoc {ps : List Int} {acc : List (Int × Int)} (p s : Int) : Acc rows ps acc → Acc rows (ps ++ [p]) (acc ++ mid (insL rows p) (outsL rows p) s)
structure AccOk (rows : List (Int × Int)) (ps : List Int) (acc : List (Int × Int)) : Prop where
  nd : acc.Nodup
  pr : ∀ a b : Int, (a, b) ∈ acc → ∃ p ∈ ps, a ∈ insL rows p ∧ b ∈ outsL rows p
  one1 : ∀ a b d : Int, (a, b) ∈ acc → (a, d) ∈ acc → b = d
  one2 : ∀ a b d : Int, (b, a) ∈ acc → (d, a) ∈ acc → b = d
  one3 : ∀ p ∈ ps, ∀ a b d : Int, a ∈ insL rows p → b ∈ outsL rows p → d ∈ outsL rows p → (a, b) ∉ acc → (a, d) ∉ acc → b = d
  one4 : ∀ p ∈ ps, ∀ a b d : Int, a ∈ outsL rows p → b ∈ insL rows p → d ∈ insL rows p → (b, a) ∉ acc → (d, a) ∉ acc → b = d
  len : acc.length ≤ 2 * ps.length
theorem acc_ok {n : Int} {rows : List (Int × Int)} (h : Rws n rows) {ps : List Int} {acc : List (Int × Int)} (ha : Acc rows ps acc) : ps.Nodup → AccOk rows ps acc := by
  induction ha with
  | nil =>
    intro _
    refine ⟨List.nodup_nil, ?_, ?_, ?_, ?_, ?_, Nat.le_refl _⟩ <;> intros <;> simp_all
  | snoc p s ha ih =>
    rename_i ps acc
    intro hd
    have hd' : ps.Nodup ∧ p ∉ ps := by
      rw [List.nodup_append] at hd
      exact ⟨hd.1, fun hp => hd.2.2 p hp p (List.mem_singleton_self _) rfl⟩
    have I := ih hd'.1
    have li := len_ins h p
    have lo := len_outs h p
    have new : ∀ {a b : Int}, (a, b) ∈ mid (insL rows p) (outsL rows p) s → a ∈ insL rows p ∧ b ∈ outsL rows p := fun q => mid_mem li lo q
    have ex1 : ∀ {a b : Int}, (a, b) ∈ acc → a ∉ insL rows p := fun q r => by
      obtain ⟨p', hp', i1, i2⟩ := I.pr _ _ q
      have e1 := (mem_ins.mp i1).2
      have e2 := (mem_ins.mp r).2
      exact hd'.2 (by rw [← e2, e1]; exact hp')
    have ex2 : ∀ {a b : Int}, (a, b) ∈ acc → b ∉ outsL rows p := fun q r => by
      obtain ⟨p', hp', i1, i2⟩ := I.pr _ _ q
      have e1 := (mem_outs.mp i2).2
      have e2 := (mem_outs.mp r).2
      exact hd'.2 (by rw [← e2, e1]; exact hp')
    refine ⟨?_, fun a b hab => ?_, fun a b d h1 h2 => ?_, fun a b d h1 h2 => ?_, fun q hq a b d i1 i2 i3 n1 n2 => ?_, fun q hq a b d i1 i2 i3 n1 n2 => ?_, ?_⟩
    · rw [List.nodup_append]
      refine ⟨I.nd, mid_nd li lo nd_ins nd_outs, fun x hx y hy e => ?_⟩
      subst e
      obtain ⟨a, b⟩ := x
      exact ex1 hx (new hy).1
    · rcases List.mem_append.mp hab with q | q
      · obtain ⟨p', hp', i⟩ := I.pr _ _ q
        exact ⟨p', List.mem_append.mpr (.inl hp'), i⟩
      · exact ⟨p, List.mem_append.mpr (.inr (List.mem_singleton_self _)), new q⟩
    · rcases List.mem_append.mp h1 with q | q <;> rcases List.mem_append.mp h2 with r | r
      · exact I.one1 _ _ _ q r
      · exact absurd (new r).1 (ex1 q)
      · exact absurd (new q).1 (ex1 r)
      · exact mid_one li lo nd_ins nd_outs q r
    · rcases List.mem_append.mp h1 with q | q <;> rcases List.mem_append.mp h2 with r | r
      · exact I.one2 _ _ _ q r
      · exact absurd (new r).2 (ex2 q)
      · exact absurd (new q).2 (ex2 r)
      · exact mid_two li lo nd_ins nd_outs q r
    · rw [List.mem_append, not_or] at n1 n2
      rcases List.mem_append.mp hq with r | r
      · exact I.one3 q r a b d i1 i2 i3 n1.1 n2.1
      · rw [List.mem_singleton] at r
        subst r
        exact mid_three li lo nd_ins nd_outs i1 i2 i3 n1.2 n2.2
    · rw [List.mem_append, not_or] at n1 n2
      rcases List.mem_append.mp hq with r | r
      · exact I.one4 q r a b d i1 i2 i3 n1.1 n2.1
      · rw [List.mem_singleton] at r
        subst r
        exact mid_four li lo nd_ins nd_outs i1 i2 i3 n1.2 n2.2
    · rw [List.length_append, List.length_append]
      have := mid_len (s := s) li lo
      have := I.len
      simp
      omega
theorem nd_srt {l : List (Int × Int)} (h : l.Nodup) (hs : l.Pairwise fun p q => ¬ ltP q p) : l.Pairwise ltP := by
  have := h.and hs
  refine this.imp ?_
  intro p q hh
  obtain ⟨h1, h2⟩ := hh
  obtain ⟨a, b⟩ := p
  obtain ⟨c, d⟩ := q
  have h1 : ¬ (a, b) = (c, d) := h1
  have h2 : ¬ (c < a ∨ c = a ∧ d < b) := h2
  show a < c ∨ a = c ∧ b < d
  by_cases e : a = c ∧ b = d
  · exact absurd (by rw [e.1, e.2]) h1
  · omega
theorem gentle_noughts {P : Pl} (n1 : 1 ≤ P.n) (n2 : P.n ≤ 100) (h : Rws P.n P.rows) {acc : List (Int × Int)} (ha : Acc P.rows (rgL 0 P.n) acc) (hp : P.pairs.Perm acc) (hs : P.pairs.Pairwise fun p q => ¬ ltP q p) : Gentle P := by
  have A := acc_ok h ha (nd_lt (srt_rgL _ _))
  have m : ∀ x, x ∈ P.pairs ↔ x ∈ acc := fun x => hp.mem_iff
  refine ⟨n1, n2, h, fun a b hab => ?_, fun a b d => ?_, fun a b d => ?_, fun a b d a0 a1 b0 b1 d0 d1 e1 e2 => ?_, fun a b d a0 a1 b0 b1 d0 d1 e1 e2 => ?_, nd_srt ((hp.nodup_iff).mpr A.nd) hs, ?_⟩
  · obtain ⟨p, hp', i1, i2⟩ := A.pr a b ((m _).mp hab)
    have i1 := mem_ins.mp i1
    have i2 := mem_outs.mp i2
    exact ⟨i1.1.1, i1.1.2, i2.1.1, i2.1.2, i1.2.trans i2.2.symm⟩
  · rw [m, m]
    exact A.one1 a b d
  · rw [m, m]
    exact A.one2 a b d
  · rw [m, m]
    have B := h.bnd a a0 a1
    exact A.one3 (atR P.rows a).2 (mem_rgL.mpr ⟨B.2.2.1, B.2.2.2⟩) a b d (mem_ins.mpr ⟨⟨a0, a1⟩, rfl⟩) (mem_outs.mpr ⟨⟨b0, b1⟩, e1.symm⟩) (mem_outs.mpr ⟨⟨d0, d1⟩, e2.symm⟩)
  · rw [m, m]
    have B := h.bnd a a0 a1
    exact A.one4 (atR P.rows a).1 (mem_rgL.mpr ⟨B.1, B.2.1⟩) a b d (mem_outs.mpr ⟨⟨a0, a1⟩, rfl⟩) (mem_ins.mpr ⟨⟨b0, b1⟩, e1⟩) (mem_ins.mpr ⟨⟨d0, d1⟩, e2⟩)
  · have := A.len
    rw [len_rgL] at this
    rw [hp.length_eq]
    omega
end FK

set_option Elab.async false
set_option linter.all false
namespace FK
theorem rows_map (rows : List (Int × Int)) : rows = (rgL 0 rows.length).map (atR rows) := by
  refine List.ext_getElem? fun i => ?_
  unfold rgL
  rw [List.map_map, List.getElem?_map]
  by_cases h : i < rows.length
  · have h2 : i < ((rows.length : Int) - 0).toNat := by omega
    rw [List.getElem?_range h2, List.getElem?_eq_getElem h]
    show _ = some (atR rows (0 + (i : Int)))
    rw [Int.zero_add, atR_of (List.getElem?_eq_getElem h)]
  · rw [List.getElem?_eq_none (by omega), List.getElem?_eq_none (by rw [List.length_range]; omega)]
    rfl
theorem two_le {rows : List (Int × Int)} {f : Int × Int → Bool} {x y : Int} (x0 : 0 ≤ x) (x1 : x < rows.length) (y0 : 0 ≤ y) (y1 : y < rows.length) (hxy : x ≠ y) (fx : f (atR rows x) = true) (fy : f (atR rows y) = true) : 2 ≤ (rows.filter f).length := by
  have e : (rows.filter f).length = ((rgL 0 rows.length).filter (f ∘ atR rows)).length := by
    conv => lhs; rw [rows_map rows, List.filter_map, List.length_map]
  rw [e]
  have mx : x ∈ (rgL 0 rows.length).filter (f ∘ atR rows) := List.mem_filter.mpr ⟨mem_rgL.mpr ⟨x0, x1⟩, fx⟩
  have my : y ∈ (rgL 0 rows.length).filter (f ∘ atR rows) := List.mem_filter.mpr ⟨mem_rgL.mpr ⟨y0, y1⟩, fy⟩
  match h : (rgL 0 rows.length).filter (f ∘ atR rows), mx, my with
  | [], mx, _ => cases mx
  | [z], mx, my =>
    rw [List.mem_singleton] at mx my
    exact absurd (mx.trans my.symm) hxy
  | _ :: _ :: l, _, _ => exact Nat.le_add_left ..
theorem atR_app1 {rows : List (Int × Int)} {r : Int × Int} {a : Int} (h0 : 0 ≤ a) (h1 : a < rows.length) : atR (rows ++ [r]) a = atR rows a := by
  unfold atR
  have h : a.toNat < rows.length := by omega
  rw [List.getD_eq_getElem?_getD, List.getD_eq_getElem?_getD, List.getElem?_append_left h]
theorem atR_app2 {rows : List (Int × Int)} {r : Int × Int} : atR (rows ++ [r]) rows.length = r := by
  unfold atR
  rw [List.getD_eq_getElem?_getD, Int.toNat_natCast, List.getElem?_concat_length]
  rfl
theorem rws_nil (n : Int) : Rws n [] := by
  refine ⟨Nat.zero_le _, ?_, ?_, ?_⟩ <;> intros <;> simp only [List.length_nil] at * <;> omega
theorem rws_snoc {n : Int} {rows : List (Int × Int)} (h : Rws n rows) (hl : rows.length < 200) {a b : Int} (a0 : 0 ≤ a) (a1 : a < n) (b0 : 0 ≤ b) (b1 : b < n)
    (ha : (rows.filter fun r => decide (r.1 = a)).length < 2) (hb : (rows.filter fun r => decide (r.2 = b)).length < 2) : Rws n (rows ++ [(a, b)]) := by
  have e : ((rows ++ [(a, b)]).length : Int) = rows.length + 1 := by simp
  have old : ∀ {x : Int}, 0 ≤ x → x < ((rows ++ [(a, b)]).length : Int) → x = rows.length ∨ x < rows.length := fun h0 h1 => by omega
  have c1 : ∀ {x y : Int}, 0 ≤ x → x < rows.length → 0 ≤ y → y < rows.length → (atR rows x).1 = a → (atR rows y).1 = a → x = y := fun {x y} x0 x1 y0 y1 q r => by
    by_cases hxy : x = y
    · exact hxy
    · have := two_le (f := fun r => decide (r.1 = a)) x0 x1 y0 y1 hxy (decide_eq_true q) (decide_eq_true r)
      omega
  have c2 : ∀ {x y : Int}, 0 ≤ x → x < rows.length → 0 ≤ y → y < rows.length → (atR rows x).2 = b → (atR rows y).2 = b → x = y := fun {x y} x0 x1 y0 y1 q r => by
    by_cases hxy : x = y
    · exact hxy
    · have := two_le (f := fun r => decide (r.2 = b)) x0 x1 y0 y1 hxy (decide_eq_true q) (decide_eq_true r)
      omega
  refine ⟨by simp; omega, fun x x0 x1 => ?_, fun x y z x0 x1 y0 y1 z0 z1 => ?_, fun x y z x0 x1 y0 y1 z0 z1 => ?_⟩
  · rcases old x0 x1 with rfl | q
    · rw [atR_app2]
      exact ⟨a0, a1, b0, b1⟩
    · rw [atR_app1 x0 q]
      exact h.bnd x x0 q
  · rcases old x0 x1 with rfl | q <;> rcases old y0 y1 with rfl | r <;> rcases old z0 z1 with rfl | s
    · intros; omega
    · intros; omega
    · intros; omega
    · rw [atR_app2, atR_app1 y0 r, atR_app1 z0 s]
      intro e1 e2
      have := c1 y0 r z0 s e1.symm (e2.symm.trans e1.symm)
      omega
    · intros; omega
    · rw [atR_app2, atR_app1 x0 q, atR_app1 z0 s]
      intro e1 e2
      have := c1 x0 q z0 s e1 e2.symm
      omega
    · rw [atR_app2, atR_app1 x0 q, atR_app1 y0 r]
      intro e1 e2
      have := c1 x0 q y0 r (e1.trans e2) e2
      omega
    · rw [atR_app1 x0 q, atR_app1 y0 r, atR_app1 z0 s]
      exact h.two1 x y z x0 q y0 r z0 s
  · rcases old x0 x1 with rfl | q <;> rcases old y0 y1 with rfl | r <;> rcases old z0 z1 with rfl | s
    · intros; omega
    · intros; omega
    · intros; omega
    · rw [atR_app2, atR_app1 y0 r, atR_app1 z0 s]
      intro e1 e2
      have := c2 y0 r z0 s e1.symm (e2.symm.trans e1.symm)
      omega
    · intros; omega
    · rw [atR_app2, atR_app1 x0 q, atR_app1 z0 s]
      intro e1 e2
      have := c2 x0 q z0 s e1 e2.symm
      omega
    · rw [atR_app2, atR_app1 x0 q, atR_app1 y0 r]
      intro e1 e2
      have := c2 x0 q y0 r (e1.trans e2) e2
      omega
    · rw [atR_app1 x0 q, atR_app1 y0 r, atR_app1 z0 s]
      exact h.two2 x y z x0 q y0 r z0 s
/-- a line with drawn directions -/
theorem rws_line {n : Int} {rows : List (Int × Int)} (n1 : 1 ≤ n) (n2 : n ≤ 100) (hl : (rows.length : Int) = n - 1) (h : ∀ a : Int, 0 ≤ a → a < rows.length → ((atR rows a).1 = a ∧ (atR rows a).2 = a + 1) ∨ ((atR rows a).1 = a + 1 ∧ (atR rows a).2 = a)) : Rws n rows := by
  refine ⟨by omega, fun x x0 x1 => ?_, fun x y z x0 x1 y0 y1 z0 z1 => ?_, fun x y z x0 x1 y0 y1 z0 z1 => ?_⟩
  · have := h x x0 x1
    omega
  · have := h x x0 x1
    have := h y y0 y1
    have := h z z0 z1
    omega
  · have := h x x0 x1
    have := h y y0 y1
    have := h z z0 z1
    omega
/-- a line with a second arrow, or none -/
theorem rws_side {n : Int} {rows : List (Int × Int)} (n1 : 1 ≤ n) (n2 : n ≤ 100) (hl : (rows.length : Int) = if n > 1 then n else 0) (h : ∀ a : Int, 0 ≤ a → a < n - 1 → (atR rows a).1 = a ∧ (atR rows a).2 = a + 1) (h2 : n > 1 → (atR rows (n - 1)).1 = 0 ∧ (atR rows (n - 1)).2 = 1) : Rws n rows := by
  have k : ∀ x : Int, 0 ≤ x → x < rows.length → n > 1 ∧ ((x = n - 1 ∧ (atR rows x).1 = 0 ∧ (atR rows x).2 = 1) ∨ (x < n - 1 ∧ (atR rows x).1 = x ∧ (atR rows x).2 = x + 1)) := fun x x0 x1 => by
    by_cases c : n > 1
    · refine ⟨c, ?_⟩
      rw [if_pos c] at hl
      by_cases e : x = n - 1
      · subst e
        exact .inl ⟨rfl, h2 c⟩
      · exact .inr ⟨by omega, h x x0 (by omega)⟩
    · rw [if_neg c] at hl
      omega
  refine ⟨by split at hl <;> omega, fun x x0 x1 => ?_, fun x y z x0 x1 y0 y1 z0 z1 => ?_, fun x y z x0 x1 y0 y1 z0 z1 => ?_⟩
  · have := k x x0 x1
    omega
  · have := k x x0 x1
    have := k y y0 y1
    have := k z z0 z1
    omega
  · have := k x x0 x1
    have := k y y0 y1
    have := k z z0 z1
    omega
/-- a round of noughts -/
theorem gentle_round {P : Pl} (n1 : 1 ≤ P.n) (n2 : P.n ≤ 100) (hl : (P.rows.length : Int) = P.n) (h : ∀ a : Int, 0 ≤ a → a < P.n → (atR P.rows a).1 = a ∧ (atR P.rows a).2 = (a + 1) % P.n)
    (hp : ∀ a b : Int, (a, b) ∈ P.pairs ↔ 0 ≤ a ∧ a < P.n ∧ b = (a + 1) % P.n) (hs : P.pairs.Pairwise ltP) (hpl : P.pairs.length ≤ 1000) : Gentle P := by
  have m : ∀ a : Int, 0 ≤ a → a < P.n → (a + 1 < P.n ∧ (a + 1) % P.n = a + 1) ∨ (a + 1 = P.n ∧ (a + 1) % P.n = 0) := fun a a0 a1 => by
    by_cases e : a + 1 = P.n
    · exact .inr ⟨e, by rw [e]; exact Int.emod_self⟩
    · exact .inl ⟨by omega, Int.emod_eq_of_lt (by omega) (by omega)⟩
  refine ⟨n1, n2, ⟨by omega, fun x x0 x1 => ?_, fun x y z x0 x1 y0 y1 z0 z1 => ?_, fun x y z x0 x1 y0 y1 z0 z1 => ?_⟩, fun a b hab => ?_, fun a b d => ?_, fun a b d => ?_, fun a b d a0 a1 b0 b1 d0 d1 e1 e2 => ?_, fun a b d a0 a1 b0 b1 d0 d1 e1 e2 => ?_, hs, hpl⟩
  · have := h x x0 (by omega)
    have := m x x0 (by omega)
    omega
  · have := h x x0 (by omega)
    have := h y y0 (by omega)
    have := h z z0 (by omega)
    omega
  · have := h x x0 (by omega)
    have := h y y0 (by omega)
    have := h z z0 (by omega)
    have := m x x0 (by omega)
    have := m y y0 (by omega)
    have := m z z0 (by omega)
    omega
  · have q := (hp a b).mp hab
    have := h a q.1 (by omega)
    have := m a q.1 (by omega)
    have := h b (by omega) (by omega)
    omega
  · rw [hp, hp]
    intros
    omega
  · rw [hp, hp]
    intro q r
    have := m b (by omega) (by omega)
    have := m d (by omega) (by omega)
    omega
  · have := h a a0 (by omega)
    have := h b b0 (by omega)
    have := h d d0 (by omega)
    intros
    omega
  · rw [hp, hp]
    intro q r
    have := h a a0 (by omega)
    have := h b b0 (by omega)
    have := h d d0 (by omega)
    exact absurd ⟨b0, by omega, by omega⟩ q
/-- a line with noughts and a loop at its end -/
theorem gentle_loop {P : Pl} (n1 : 1 ≤ P.n) (n2 : P.n ≤ 100) (hl : (P.rows.length : Int) = P.n) (h : ∀ a : Int, 0 ≤ a → a < P.n - 1 → (atR P.rows a).1 = a ∧ (atR P.rows a).2 = a + 1) (h2 : (atR P.rows (P.n - 1)).1 = P.n - 1 ∧ (atR P.rows (P.n - 1)).2 = P.n - 1)
    (hp : ∀ a b : Int, (a, b) ∈ P.pairs → (a = P.n - 1 ∧ b = P.n - 1) ∨ (0 ≤ a ∧ a < P.n - 2 ∧ b = a + 1)) (hq : (P.n - 1, P.n - 1) ∈ P.pairs) (hs : P.pairs.Pairwise ltP) (hpl : P.pairs.length ≤ 1000) : Gentle P := by
  have m : ∀ a : Int, 0 ≤ a → a < P.rows.length → (a < P.n - 1 ∧ (atR P.rows a).1 = a ∧ (atR P.rows a).2 = a + 1) ∨ (a = P.n - 1 ∧ (atR P.rows a).1 = P.n - 1 ∧ (atR P.rows a).2 = P.n - 1) := fun a a0 a1 => by
    by_cases e : a = P.n - 1
    · subst e
      exact .inr ⟨rfl, h2⟩
    · exact .inl ⟨by omega, h a a0 (by omega)⟩
  refine ⟨n1, n2, ⟨by omega, fun x x0 x1 => ?_, fun x y z x0 x1 y0 y1 z0 z1 => ?_, fun x y z x0 x1 y0 y1 z0 z1 => ?_⟩, fun a b hab => ?_, fun a b d q r => ?_, fun a b d q r => ?_, fun a b d a0 a1 b0 b1 d0 d1 e1 e2 => ?_, fun a b d a0 a1 b0 b1 d0 d1 e1 e2 => ?_, hs, hpl⟩
  · have := m x x0 (by omega)
    omega
  · have := m x x0 (by omega)
    have := m y y0 (by omega)
    have := m z z0 (by omega)
    omega
  · have := m x x0 (by omega)
    have := m y y0 (by omega)
    have := m z z0 (by omega)
    omega
  · have q := hp a b hab
    have := m a (by omega) (by omega)
    have := m b (by omega) (by omega)
    omega
  · have q := hp _ _ q
    have r := hp _ _ r
    omega
  · have q := hp _ _ q
    have r := hp _ _ r
    omega
  · have := m a a0 (by omega)
    have := m b b0 (by omega)
    have := m d d0 (by omega)
    intros
    omega
  · intro q r
    have ma := m a a0 (by omega)
    have mb := m b b0 (by omega)
    have md := m d d0 (by omega)
    by_cases e : b = d
    · exact e
    · exfalso
      by_cases eb : b = P.n - 1
      · have ea : a = P.n - 1 := by omega
        rw [ea, eb] at q
        exact q hq
      · by_cases ed : d = P.n - 1
        · have ea : a = P.n - 1 := by omega
          rw [ea, ed] at r
          exact r hq
        · omega
end FK

set_option Elab.async false
set_option linter.all false
namespace FK
theorem find_iff {l : List Int} {p : Int → Bool} (hu : ∀ x ∈ l, ∀ y ∈ l, p x = true → p y = true → x = y) {k : Int} : l.find? p = some k ↔ k ∈ l ∧ p k = true := by
  constructor
  · intro h
    exact ⟨List.mem_of_find?_eq_some h, List.find?_some h⟩
  · rintro ⟨h1, h2⟩
    cases e : l.find? p with
    | none => exact absurd h2 (List.find?_eq_none.mp e k h1)
    | some j => rw [hu j (List.mem_of_find?_eq_some e) k h1 (List.find?_some e) h2]
theorem filter_one {l : List Int} (hl : l.Pairwise (· < ·)) {p : Int → Bool} (hu : ∀ x ∈ l, ∀ y ∈ l, p x = true → p y = true → x = y) : l.filter p = (l.find? p).toList := by
  refine ext_sorted (hl.filter _) (by cases l.find? p <;> simp) fun x => ?_
  rw [List.mem_filter, Option.mem_toList, find_iff hu]
/-- what is one of a list, none or more of it -/
def firstI (l : List Int) : Option Int := match l with
  | [] => none
  | x :: _ => some x
def arrI (P : Pl) : List Int := rgL 0 P.rows.length
def nextI (P : Pl) (a : Int) : Option Int := (arrI P).find? fun k => decide ((atR P.rows k).1 = (atR P.rows a).2) && !(P.pairs.contains (a, k))
def aheadI (P : Pl) (a : Int) : Option Int := (arrI P).find? fun k => decide ((atR P.rows k).2 = (atR P.rows a).1) && !(P.pairs.contains (k, a))
def begunI (P : Pl) (a : Int) : Option Int := (arrI P).find? fun k => !decide (k = a) && decide ((atR P.rows k).1 = (atR P.rows a).1)
def endedI (P : Pl) (a : Int) : Option Int := (arrI P).find? fun k => !decide (k = a) && decide ((atR P.rows k).2 = (atR P.rows a).2)
def nilI (P : Pl) (a : Int) : Option Int := (P.pairs.find? fun r => decide (r.1 = a)).map (·.2)
def nilAheadI (P : Pl) (a : Int) : Option Int := (P.pairs.find? fun r => decide (r.2 = a)).map (·.1)
def inA (P : Pl) (a : Int) : Prop := 0 ≤ a ∧ a < P.rows.length
theorem mem_arr {P : Pl} {a : Int} : a ∈ arrI P ↔ inA P a := mem_rgL
section
variable {P : Pl} (h : Gentle P) {a k : Int}
include h
theorem next_iff (ha : inA P a) : nextI P a = some k ↔ inA P k ∧ (atR P.rows k).1 = (atR P.rows a).2 ∧ (a, k) ∉ P.pairs := by
  unfold nextI
  rw [find_iff, mem_arr]
  · simp
  · intro x hx y hy p q
    rw [mem_arr] at hx hy
    simp at p q
    exact h.one3 a x y ha.1 ha.2 hx.1 hx.2 hy.1 hy.2 p.1.symm q.1.symm p.2 q.2
theorem ahead_iff (ha : inA P a) : aheadI P a = some k ↔ inA P k ∧ (atR P.rows k).2 = (atR P.rows a).1 ∧ (k, a) ∉ P.pairs := by
  unfold aheadI
  rw [find_iff, mem_arr]
  · simp
  · intro x hx y hy p q
    rw [mem_arr] at hx hy
    simp at p q
    exact h.one4 a x y ha.1 ha.2 hx.1 hx.2 hy.1 hy.2 p.1 q.1 p.2 q.2
theorem begun_uni (ha : inA P a) : ∀ x ∈ arrI P, ∀ y ∈ arrI P, (!decide (x = a) && decide ((atR P.rows x).1 = (atR P.rows a).1)) = true → (!decide (y = a) && decide ((atR P.rows y).1 = (atR P.rows a).1)) = true → x = y := by
  intro x hx y hy p q
  rw [mem_arr] at hx hy
  simp at p q
  rcases h.rws.two1 x a y hx.1 hx.2 ha.1 ha.2 hy.1 hy.2 p.2 q.2.symm with r | r | r
  · exact absurd r p.1
  · exact absurd r.symm q.1
  · exact r
theorem ended_uni (ha : inA P a) : ∀ x ∈ arrI P, ∀ y ∈ arrI P, (!decide (x = a) && decide ((atR P.rows x).2 = (atR P.rows a).2)) = true → (!decide (y = a) && decide ((atR P.rows y).2 = (atR P.rows a).2)) = true → x = y := by
  intro x hx y hy p q
  rw [mem_arr] at hx hy
  simp at p q
  rcases h.rws.two2 x a y hx.1 hx.2 ha.1 ha.2 hy.1 hy.2 p.2 q.2.symm with r | r | r
  · exact absurd r p.1
  · exact absurd r.symm q.1
  · exact r
theorem begun_iff (ha : inA P a) : begunI P a = some k ↔ inA P k ∧ k ≠ a ∧ (atR P.rows k).1 = (atR P.rows a).1 := by
  unfold begunI
  rw [find_iff (begun_uni h ha), mem_arr]
  simp
theorem ended_iff (ha : inA P a) : endedI P a = some k ↔ inA P k ∧ k ≠ a ∧ (atR P.rows k).2 = (atR P.rows a).2 := by
  unfold endedI
  rw [find_iff (ended_uni h ha), mem_arr]
  simp
theorem nil_iff : nilI P a = some k ↔ (a, k) ∈ P.pairs := by
  unfold nilI
  constructor
  · intro e
    obtain ⟨r, hr, rfl⟩ := Option.map_eq_some_iff.mp e
    have := List.find?_some hr
    simp at this
    rw [← this]
    exact List.mem_of_find?_eq_some hr
  · intro hm
    cases e : P.pairs.find? fun r => decide (r.1 = a) with
    | none => exact absurd (List.find?_eq_none.mp e _ hm) (by simp)
    | some r =>
      have q := List.find?_some e
      simp at q
      have m := List.mem_of_find?_eq_some e
      obtain ⟨r1, r2⟩ := r
      simp at q
      subst q
      show some r2 = some k
      rw [h.one1 _ _ _ m hm]
theorem nilAhead_iff : nilAheadI P a = some k ↔ (k, a) ∈ P.pairs := by
  unfold nilAheadI
  constructor
  · intro e
    obtain ⟨r, hr, rfl⟩ := Option.map_eq_some_iff.mp e
    have := List.find?_some hr
    simp at this
    rw [← this]
    exact List.mem_of_find?_eq_some hr
  · intro hm
    cases e : P.pairs.find? fun r => decide (r.2 = a) with
    | none => exact absurd (List.find?_eq_none.mp e _ hm) (by simp)
    | some r =>
      have q := List.find?_some e
      simp at q
      have m := List.mem_of_find?_eq_some e
      obtain ⟨r1, r2⟩ := r
      simp at q
      subst q
      show some r1 = some k
      rw [h.one2 _ _ _ m hm]
end
/-! letters -/
def lend (P : Pl) (l : Int) : Int × Int := if l < 0 then swP (atR P.rows (-1 - l)) else atR P.rows l
def okL (P : Pl) (l : Int) : Prop := -(P.rows.length : Int) ≤ l ∧ l < P.rows.length
def letrI (P : Pl) : List Int := rgL (-(P.rows.length : Int)) P.rows.length
theorem mem_let {P : Pl} {l : Int} : l ∈ letrI P ↔ okL P l := mem_rgL
def mayI (P : Pl) (x y : Int) : Bool :=
  if (!decide ((lend P x).2 = (lend P y).1) || decide (y = -1 - x)) = true then false
  else if (!decide (x < 0) && !decide (y < 0)) = true then !(P.pairs.contains (x, y))
  else if (decide (x < 0) && decide (y < 0)) = true then !(P.pairs.contains (-1 - y, -1 - x))
  else true
def afterI (P : Pl) (l : Int) : List Int := (letrI P).filter (mayI P l)
def follI (P : Pl) (l : Int) : List Int :=
  if l < 0 then (aheadI P (-1 - l)).toList.map (fun i => -1 - i) ++ (begunI P (-1 - l)).toList
  else (endedI P l).toList.map (fun i => -1 - i) ++ (nextI P l).toList
theorem srt_opt {o1 o2 : Option Int} (h1 : ∀ k, o1 = some k → 0 ≤ k) (h2 : ∀ k, o2 = some k → 0 ≤ k) : (o1.toList.map (fun i => -1 - i) ++ o2.toList).Pairwise (· < ·) := by
  cases o1 with
  | none => cases o2 <;> simp
  | some x =>
    cases o2 with
    | none => simp
    | some y =>
      have := h1 x rfl
      have := h2 y rfl
      simp
      omega
theorem mem_opt {o1 o2 : Option Int} {x : Int} : x ∈ o1.toList.map (fun i => -1 - i) ++ o2.toList ↔ o1 = some (-1 - x) ∨ o2 = some x := by
  rw [List.mem_append, List.mem_map, Option.mem_toList]
  constructor
  · rintro (⟨y, hy, rfl⟩ | hx)
    · rw [Option.mem_toList] at hy
      exact .inl (by rw [hy]; congr 1; omega)
    · exact .inr hx
  · rintro (hx | hx)
    · exact .inl ⟨-1 - x, by rw [Option.mem_toList]; exact hx, by omega⟩
    · exact .inr hx
theorem lend_neg {P : Pl} {l : Int} (h : l < 0) : (lend P l).1 = (atR P.rows (-1 - l)).2 ∧ (lend P l).2 = (atR P.rows (-1 - l)).1 := by
  unfold lend
  rw [if_pos h]
  exact ⟨rfl, rfl⟩
theorem lend_pos {P : Pl} {l : Int} (h : ¬ l < 0) : lend P l = atR P.rows l := if_neg h
theorem may_iff {P : Pl} {x y : Int} : mayI P x y = true ↔ (lend P x).2 = (lend P y).1 ∧ y ≠ -1 - x ∧ (¬ x < 0 → ¬ y < 0 → (x, y) ∉ P.pairs) ∧ (x < 0 → y < 0 → (-1 - y, -1 - x) ∉ P.pairs) := by
  unfold mayI
  generalize lend P x = u
  generalize lend P y = v
  by_cases h1 : u.2 = v.1 <;> by_cases h2 : y = -1 - x <;> by_cases h3 : x < 0 <;> by_cases h4 : y < 0 <;> simp [h1, h2, h3, h4] <;> omega
theorem foll_after {P : Pl} (h : Gentle P) {l : Int} (hl : okL P l) : follI P l = afterI P l := by
  unfold okL at hl
  by_cases l0 : l < 0
  · have ha : inA P (-1 - l) := ⟨by omega, by omega⟩
    unfold follI
    rw [if_pos l0]
    refine ext_sorted (srt_opt (fun k hk => ((ahead_iff h ha).mp hk).1.1) fun k hk => ((begun_iff h ha).mp hk).1.1) ((srt_rgL _ _).filter _) fun x => ?_
    unfold afterI
    rw [mem_opt, ahead_iff h ha, begun_iff h ha, List.mem_filter, may_iff, (lend_neg l0).2]
    show _ ↔ x ∈ letrI P ∧ _
    rw [mem_let]
    unfold okL inA
    by_cases x0 : x < 0
    · rw [(lend_neg x0).1]
      constructor
      · rintro (⟨q1, q2, q3⟩ | q)
        · exact ⟨by omega, q2.symm, by omega, by omega, fun _ _ => q3⟩
        · omega
      · rintro ⟨q1, q2, q3, q4, q5⟩
        exact .inl ⟨by omega, q2.symm, q5 l0 x0⟩
    · rw [lend_pos x0]
      constructor
      · rintro (q | ⟨q1, q2, q3⟩)
        · omega
        · exact ⟨by omega, q3.symm, q2, by omega, by omega⟩
      · rintro ⟨q1, q2, q3, q4, q5⟩
        exact .inr ⟨by omega, q3, q2.symm⟩
  · have ha : inA P l := ⟨by omega, by omega⟩
    unfold follI
    rw [if_neg l0]
    refine ext_sorted (srt_opt (fun k hk => ((ended_iff h ha).mp hk).1.1) fun k hk => ((next_iff h ha).mp hk).1.1) ((srt_rgL _ _).filter _) fun x => ?_
    unfold afterI
    rw [mem_opt, ended_iff h ha, next_iff h ha, List.mem_filter, may_iff, lend_pos l0]
    show _ ↔ x ∈ letrI P ∧ _
    rw [mem_let]
    unfold okL inA
    by_cases x0 : x < 0
    · rw [(lend_neg x0).1]
      constructor
      · rintro (⟨q1, q2, q3⟩ | q)
        · exact ⟨by omega, q3.symm, by omega, by omega, by omega⟩
        · omega
      · rintro ⟨q1, q2, q3, q4, q5⟩
        exact .inl ⟨by omega, by omega, q2.symm⟩
    · rw [lend_pos x0]
      constructor
      · rintro (q | ⟨q1, q2, q3⟩)
        · omega
        · exact ⟨by omega, q2.symm, by omega, fun _ _ => q3, by omega⟩
      · rintro ⟨q1, q2, q3, q4, q5⟩
        exact .inr ⟨by omega, q2.symm, q4 l0 x0⟩
/-! the law's rows of one -/
theorem law_ahead {P : Pl} (h : Gentle P) {a : Int} (ha : inA P a) : ((arrI P).filter fun o => decide (nextI P o = some a)) = (aheadI P a).toList := by
  refine ext_sorted ((srt_rgL _ _).filter _) (by cases aheadI P a <;> simp) fun x => ?_
  rw [List.mem_filter, mem_arr, Option.mem_toList, ahead_iff h ha, decide_eq_true_iff]
  constructor
  · rintro ⟨q1, q2⟩
    have := (next_iff h q1).mp q2
    exact ⟨q1, this.2.1.symm, this.2.2⟩
  · rintro ⟨q1, q2, q3⟩
    exact ⟨q1, (next_iff h q1).mpr ⟨ha, q2.symm, q3⟩⟩
theorem law_nilAhead {P : Pl} (h : Gentle P) {a : Int} : ((arrI P).filter fun o => decide (nilI P o = some a)) = (nilAheadI P a).toList := by
  refine ext_sorted ((srt_rgL _ _).filter _) (by cases nilAheadI P a <;> simp) fun x => ?_
  rw [List.mem_filter, mem_arr, Option.mem_toList, nilAhead_iff h, decide_eq_true_iff, nil_iff h]
  constructor
  · rintro ⟨q1, q2⟩
    exact q2
  · intro q
    have := h.pr _ _ q
    exact ⟨⟨this.1, this.2.1⟩, q⟩
theorem law_begun {P : Pl} (h : Gentle P) {a : Int} (ha : inA P a) : ((arrI P).filter fun k => !decide (k = a) && decide ((atR P.rows k).1 = (atR P.rows a).1)) = (begunI P a).toList := filter_one (srt_rgL _ _) (begun_uni h ha)
theorem law_ended {P : Pl} (h : Gentle P) {a : Int} (ha : inA P a) : ((arrI P).filter fun k => !decide (k = a) && decide ((atR P.rows k).2 = (atR P.rows a).2)) = (endedI P a).toList := filter_one (srt_rgL _ _) (ended_uni h ha)
theorem next_in {P : Pl} {a k : Int} (e : nextI P a = some k) : inA P k := mem_arr.mp (List.mem_of_find?_eq_some e)
theorem ahead_next {P : Pl} (h : Gentle P) {a k : Int} (ha : inA P a) (e : nextI P a = some k) : aheadI P k = some a := by
  have q := (next_iff h ha).mp e
  exact (ahead_iff h q.1).mpr ⟨ha, q.2.1.symm, q.2.2⟩
theorem nil_next {P : Pl} (h : Gentle P) {a k : Int} (e : nilI P a = some k) : nilAheadI P k = some a := (nilAhead_iff h).mpr ((nil_iff h).mp e)
section
variable {P Q : Pl} (h : Gentle P) (hQ : Gentle Q) (hr : Q.rows = P.rows.map swP) (hq : ∀ a b : Int, (a, b) ∈ Q.pairs ↔ (b, a) ∈ P.pairs)
include h hQ hr hq
theorem turn_next {a : Int} (ha : inA P a) : nextI Q a = aheadI P a := by
  have hl : Q.rows.length = P.rows.length := by rw [hr, List.length_map]
  have hb : inA Q a := by unfold inA at *; rw [hl]; exact ha
  refine Option.ext fun k => ?_
  rw [next_iff hQ hb, ahead_iff h ha, hq, hr, atR_sw, atR_sw]
  unfold inA
  rw [hl]
  exact Iff.rfl
theorem turn_nil {a : Int} : nilAheadI Q a = nilI P a := by
  refine Option.ext fun k => ?_
  rw [nilAhead_iff hQ, nil_iff h, hq]
end
end FK

set_option Elab.async false
set_option linter.all false
namespace FK
theorem atR_tab {m : Int} {g : Int → Int × Int} {k : Int} (h0 : 0 ≤ k) (h1 : k < m) : atR ((rgL 0 m).map g) k = g k := by
  unfold atR rgL
  rw [List.getD_eq_getElem?_getD, List.map_map, List.getElem?_map, List.getElem?_range (by omega)]
  show g (0 + (k.toNat : Int)) = g k
  congr 1
  omega
theorem nd_pairs {P : Pl} (h : Gentle P) : P.pairs.Nodup := h.srt.imp fun {x y} q e => by
  subst e
  exact ltP_irr q
def upI (a k : Int) : Int := if k < a then k else k + 1
def dnI (a k : Int) : Int := k - (if a < k then 1 else 0)
theorem skip_rows {c a : Int} (h0 : 0 ≤ a) (h1 : a < c) : ((rgL 0 c).filter fun k => !decide (k = a)) = (rgL 0 (c - 1)).map (upI a) := by
  refine ext_sorted ((srt_rgL _ _).filter _) ?_ fun x => ?_
  · rw [List.pairwise_map]
    refine (srt_rgL _ _).imp ?_
    intro x y h
    unfold upI
    split <;> split <;> omega
  · rw [List.mem_filter, List.mem_map, mem_rgL]
    constructor
    · rintro ⟨q1, q2⟩
      simp at q2
      refine ⟨dnI a x, mem_rgL.mpr ?_, ?_⟩
      · unfold dnI
        split <;> omega
      · unfold upI dnI
        by_cases e : a < x
        · rw [if_pos e, if_neg (by omega)]; omega
        · rw [if_neg e, if_pos (by omega)]; omega
    · rintro ⟨y, hy, rfl⟩
      have hy := mem_rgL.mp hy
      unfold upI
      by_cases e : y < a
      · rw [if_pos e]
        refine ⟨by omega, ?_⟩
        simp
        omega
      · rw [if_neg e]
        refine ⟨by omega, ?_⟩
        simp
        omega
theorem up_dn {a k : Int} (h : k ≠ a) : upI a (dnI a k) = k := by
  unfold upI dnI
  by_cases e : a < k
  · rw [if_pos e, if_neg (by omega)]; omega
  · rw [if_neg e, if_pos (by omega)]; omega
theorem dn_up {a k : Int} : dnI a (upI a k) = k := by
  unfold upI dnI
  by_cases e : k < a
  · rw [if_pos e, if_neg (by omega)]; omega
  · rw [if_neg e, if_pos (by omega)]; omega
theorem up_ne {a k : Int} : upI a k ≠ a := by
  unfold upI
  split <;> omega
def dnP (a : Int) (p : Int × Int) : Int × Int := (dnI a p.1, dnI a p.2)
theorem nd_map {α β : Type} {l : List α} {f : α → β} (h : l.Nodup) (hf : ∀ x ∈ l, ∀ y ∈ l, f x = f y → x = y) : (l.map f).Nodup := by
  induction l with
  | nil => exact List.nodup_nil
  | cons x l ih =>
    rw [List.nodup_cons] at h
    rw [List.map_cons, List.nodup_cons]
    refine ⟨fun hm => ?_, ih h.2 fun y hy z hz => hf y (List.mem_cons_of_mem _ hy) z (List.mem_cons_of_mem _ hz)⟩
    obtain ⟨y, hy, e⟩ := List.mem_map.mp hm
    exact h.1 (by rw [← hf y (List.mem_cons_of_mem _ hy) x (List.mem_cons_self ..) e]; exact hy)
theorem gentle_without {P Q : Pl} (h : Gentle P) {a : Int} (ha : inA P a) (hn : Q.n = P.n) (hr : Q.rows = ((rgL 0 P.rows.length).filter fun k => !decide (k = a)).map (atR P.rows))
    (hp : Q.pairs.Perm ((P.pairs.filter fun q => !(decide (q.1 = a) || decide (q.2 = a))).map (dnP a))) (hs : Q.pairs.Pairwise fun p q => ¬ ltP q p) : Gentle Q := by
  rw [skip_rows ha.1 ha.2, List.map_map] at hr
  have hl : (Q.rows.length : Int) = P.rows.length - 1 := by
    rw [hr, List.length_map, len_rgL]
    have := ha.2
    have := ha.1
    omega
  have nd : Q.pairs.Nodup := by
    rw [hp.nodup_iff]
    refine nd_map ((nd_pairs h).filter _) fun x hx y hy e => ?_
    have hx := (List.mem_filter.mp hx).2
    have hy := (List.mem_filter.mp hy).2
    simp at hx hy
    obtain ⟨x1, x2⟩ := x
    obtain ⟨y1, y2⟩ := y
    have e1 : dnI a x1 = dnI a y1 := congrArg (·.1) e
    have e2 : dnI a x2 = dnI a y2 := congrArg (·.2) e
    have u1 := up_dn (show x1 ≠ a from hx.1)
    have u2 := up_dn (show x2 ≠ a from hx.2)
    have v1 := up_dn (show y1 ≠ a from hy.1)
    have v2 := up_dn (show y2 ≠ a from hy.2)
    rw [← u1, ← u2, ← v1, ← v2, e1, e2]
  have hl2 : Q.pairs.length ≤ 1000 := by
    rw [hp.length_eq, List.length_map]
    exact Nat.le_trans (List.length_filter_le ..) h.plen
  refine gentle_in h (upI a) id (by rw [hn]; exact h.n1) (by rw [hn]; exact h.n2) (by have := h.rws.len; omega) hl2 (fun k k0 k1 => ?_) (fun x y _ _ _ _ e => ?_) (fun p p0 p1 => by rw [hn]; exact ⟨p0, p1⟩) (fun p q _ _ _ _ e => e) (fun k k0 k1 => ?_) (fun x y => ?_) (nd_srt nd hs)
  · unfold upI
    split <;> omega
  · rw [← dn_up (a := a) (k := x), e, dn_up]
  · rw [hr, atR_tab k0 (by omega)]
    rfl
  · rw [hp.mem_iff, List.mem_map]
    constructor
    · rintro ⟨⟨p, q⟩, hm, e⟩
      rw [List.mem_filter] at hm
      simp at hm
      have e1 : dnI a p = x := congrArg (·.1) e
      have e2 : dnI a q = y := congrArg (·.2) e
      subst e1 e2
      have := h.pr _ _ hm.1
      rw [up_dn hm.2.1, up_dn hm.2.2]
      refine ⟨?_, ?_, ?_, ?_, hm.1⟩
      all_goals
        unfold dnI
        have := ha.1
        have := ha.2
        split <;> omega
    · rintro ⟨x0, x1, y0, y1, hm⟩
      refine ⟨(upI a x, upI a y), List.mem_filter.mpr ⟨hm, ?_⟩, ?_⟩
      · simp
        exact ⟨up_ne, up_ne⟩
      · show (dnI a (upI a x), dnI a (upI a y)) = _
        rw [dn_up, dn_up]
/-! listings -/
def ixI (l : List Int) (a : Int) : Int := l.getD a.toNat 0
theorem ixI_some {l : List Int} {a : Int} (h0 : 0 ≤ a) (h1 : a < l.length) : l[a.toNat]? = some (ixI l a) := by
  unfold ixI
  have : a.toNat < l.length := by omega
  rw [List.getElem?_eq_getElem this, List.getD_eq_getElem?_getD, List.getElem?_eq_getElem this]
  rfl
structure Listing (l : List Int) (c : Int) : Prop where
  len : (l.length : Int) = c
  rng : ∀ a : Int, 0 ≤ a → a < c → 0 ≤ ixI l a ∧ ixI l a < c
  inj : ∀ a b : Int, 0 ≤ a → a < c → 0 ≤ b → b < c → ixI l a = ixI l b → a = b
  sur : ∀ k : Int, 0 ≤ k → k < c → ∃ a : Int, 0 ≤ a ∧ a < c ∧ ixI l a = k
theorem listing_of {l : List Int} {c : Int} (hc : 0 ≤ c) (hp : l.Perm (rgL 0 c)) : Listing l c := by
  have hl : (l.length : Int) = c := by
    rw [hp.length_eq, len_rgL]
    omega
  refine ⟨hl, fun a a0 a1 => ?_, fun a b a0 a1 b0 b1 e => ?_, fun k k0 k1 => ?_⟩
  · have := List.mem_of_getElem? (ixI_some a0 (by omega) : l[a.toNat]? = _)
    exact mem_rgL.mp (hp.mem_iff.mp this)
  · have nd : l.Nodup := hp.nodup_iff.mpr (nd_lt (srt_rgL _ _))
    have ea := ixI_some a0 (by omega : a < l.length)
    have eb := ixI_some b0 (by omega : b < l.length)
    have := (List.getElem?_inj (by omega) nd).mp (ea.trans (by rw [eb, e]))
    omega
  · have := hp.mem_iff.mpr (mem_rgL.mpr ⟨k0, k1⟩)
    obtain ⟨i, hi⟩ := List.mem_iff_getElem?.mp this
    have h2 := (List.getElem?_eq_some_iff.mp hi).1
    refine ⟨(i : Int), by omega, by omega, ?_⟩
    unfold ixI
    rw [List.getD_eq_getElem?_getD, Int.toNat_natCast, hi]
    rfl
def rnP (s : List Int) (p : Int × Int) : Int × Int := (ixI s p.1, ixI s p.2)
theorem gentle_renamed {P Q : Pl} (h : Gentle P) {s t : List Int} (hs' : Listing s P.rows.length) (ht : Listing t P.n) (hn : Q.n = P.n) (hl : Q.rows.length = P.rows.length) (hr : ∀ a : Int, inA P a → atR Q.rows (ixI s a) = rnP t (atR P.rows a))
    (hp : Q.pairs.Perm (P.pairs.map (rnP s))) (hs : Q.pairs.Pairwise fun p q => ¬ ltP q p) : Gentle Q := by
  have inv : ∀ k : Int, ∃ a : Int, inA P k → inA P a ∧ ixI s a = k := fun k => by
    by_cases hk : inA P k
    · obtain ⟨a, a0, a1, e⟩ := hs'.sur k hk.1 hk.2
      exact ⟨a, fun _ => ⟨⟨a0, a1⟩, e⟩⟩
    · exact ⟨0, fun q => absurd q hk⟩
  have inv' := Classical.axiomOfChoice inv
  obtain ⟨f, hf⟩ := inv'
  have nd : Q.pairs.Nodup := by
    rw [hp.nodup_iff]
    refine nd_map (nd_pairs h) fun x hx y hy e => ?_
    obtain ⟨x1, x2⟩ := x
    obtain ⟨y1, y2⟩ := y
    have px := h.pr _ _ hx
    have py := h.pr _ _ hy
    have e1 : ixI s x1 = ixI s y1 := congrArg (·.1) e
    have e2 : ixI s x2 = ixI s y2 := congrArg (·.2) e
    rw [hs'.inj _ _ px.1 px.2.1 py.1 py.2.1 e1, hs'.inj _ _ px.2.2.1 px.2.2.2.1 py.2.2.1 py.2.2.2.1 e2]
  refine gentle_in h f (ixI t) (by rw [hn]; exact h.n1) (by rw [hn]; exact h.n2) (by have := h.rws.len; omega) (by rw [hp.length_eq, List.length_map]; exact h.plen) (fun k k0 k1 => ?_) (fun x y x0 x1 y0 y1 e => ?_) (fun p p0 p1 => by rw [hn]; exact ht.rng p p0 p1) (fun p q p0 p1 q0 q1 e => ht.inj p q p0 p1 q0 q1 e) (fun k k0 k1 => ?_) (fun x y => ?_) (nd_srt nd hs)
  · exact (hf k ⟨k0, by omega⟩).1
  · have q1 := (hf x ⟨x0, by omega⟩).2
    have q2 := (hf y ⟨y0, by omega⟩).2
    rw [← q1, ← q2, e]
  · have q := hf k ⟨k0, by omega⟩
    have := hr (f k) q.1
    rw [q.2] at this
    exact this
  · rw [hp.mem_iff, List.mem_map, hl]
    constructor
    · rintro ⟨⟨p, q⟩, hm, e⟩
      have e1 : ixI s p = x := congrArg (·.1) e
      have e2 : ixI s q = y := congrArg (·.2) e
      subst e1 e2
      have b := h.pr _ _ hm
      have r1 := hs'.rng p b.1 b.2.1
      have r2 := hs'.rng q b.2.2.1 b.2.2.2.1
      have f1 := hf _ ⟨r1.1, r1.2⟩
      have f2 := hf _ ⟨r2.1, r2.2⟩
      have g1 := hs'.inj _ _ f1.1.1 f1.1.2 b.1 b.2.1 f1.2
      have g2 := hs'.inj _ _ f2.1.1 f2.1.2 b.2.2.1 b.2.2.2.1 f2.2
      refine ⟨r1.1, r1.2, r2.1, r2.2, ?_⟩
      rw [g1, g2]
      exact hm
    · rintro ⟨x0, x1, y0, y1, hm⟩
      refine ⟨(f x, f y), hm, ?_⟩
      show (ixI s (f x), ixI s (f y)) = _
      rw [(hf x ⟨x0, x1⟩).2, (hf y ⟨y0, y1⟩).2]
end FK

set_option Elab.async false
set_option linter.all false
set_option maxRecDepth 100000
set_option maxHeartbeats 0
namespace HeadK
open PySem PySem.Spec PyProof.Rows L2
def top (i : Nat) : Stmt := PySem.Challenge.pw_stringrooms_k01_whole_letters_of_plans.main.body.getD i (.Pass ⟨0, 0, 0, 0⟩)
abbrev s_ends_of : Stmt := top 1
abbrev s_next_of : Stmt := top 2
abbrev s_nil_of : Stmt := top 3
abbrev s_ahead_of : Stmt := top 4
abbrev s_nil_ahead_of : Stmt := top 5
abbrev s_other_begun : Stmt := top 6
abbrev s_other_ended : Stmt := top 7
abbrev s_mate_of : Stmt := top 8
abbrev s_followers : Stmt := top 9
abbrev s_may_follow : Stmt := top 10
abbrev s_from_point : Stmt := top 11
abbrev s_turned_plan : Stmt := top 12
abbrev s__law_begun : Stmt := top 14
abbrev s__law_draw : Stmt := top 15
abbrev s__law_of : Stmt := top 16
abbrev s__law_like : Stmt := top 17
abbrev s__law_shuffled : Stmt := top 18
abbrev s__law_ends : Stmt := top 19
abbrev s__law_may : Stmt := top 20
abbrev s__law_after : Stmt := top 21
abbrev s__law_next : Stmt := top 22
abbrev s__law_nil : Stmt := top 23
abbrev s__law_without : Stmt := top 24
abbrev s__law_round_arrow : Stmt := top 25
abbrev s__law_ended : Stmt := top 26
abbrev s__law_with_noughts : Stmt := top 27
abbrev s__law_free_plan : Stmt := top 28
abbrev s__law_known_plan : Stmt := top 29
abbrev s__law_renamed : Stmt := top 30
abbrev s__law_plan : Stmt := top 31
abbrev s__law_turned_plan : Stmt := top 32
abbrev s__law_begins : Stmt := top 33
abbrev s__law_first : Stmt := top 34
abbrev s__law_arrow_told : Stmt := top 35
abbrev s__law_letter_told : Stmt := top 36
abbrev s__law_plan_told : Stmt := top 37
abbrev s__law_turned_told : Stmt := top 38
abbrev s__law_hands_right : Stmt := top 39
abbrev s_law : Stmt := top 40
def d_ends_of : He.DefD := ⟨("ends_of", none), "ends_of", "ends_of", defArgs s_ends_of, defBody s_ends_of, defScope s_ends_of, [], []⟩
def d_next_of : He.DefD := ⟨("next_of", none), "next_of", "next_of", defArgs s_next_of, defBody s_next_of, defScope s_next_of, [], []⟩
def d_nil_of : He.DefD := ⟨("nil_of", none), "nil_of", "nil_of", defArgs s_nil_of, defBody s_nil_of, defScope s_nil_of, [], []⟩
def d_ahead_of : He.DefD := ⟨("ahead_of", none), "ahead_of", "ahead_of", defArgs s_ahead_of, defBody s_ahead_of, defScope s_ahead_of, [], []⟩
def d_nil_ahead_of : He.DefD := ⟨("nil_ahead_of", none), "nil_ahead_of", "nil_ahead_of", defArgs s_nil_ahead_of, defBody s_nil_ahead_of, defScope s_nil_ahead_of, [], []⟩
def d_other_begun : He.DefD := ⟨("other_begun", none), "other_begun", "other_begun", defArgs s_other_begun, defBody s_other_begun, defScope s_other_begun, [], []⟩
def d_other_ended : He.DefD := ⟨("other_ended", none), "other_ended", "other_ended", defArgs s_other_ended, defBody s_other_ended, defScope s_other_ended, [], []⟩
def d_mate_of : He.DefD := ⟨("mate_of", none), "mate_of", "mate_of", defArgs s_mate_of, defBody s_mate_of, defScope s_mate_of, [], []⟩
def d_followers : He.DefD := ⟨("followers", none), "followers", "followers", defArgs s_followers, defBody s_followers, defScope s_followers, [], []⟩
def d_may_follow : He.DefD := ⟨("may_follow", none), "may_follow", "may_follow", defArgs s_may_follow, defBody s_may_follow, defScope s_may_follow, [], []⟩
def d_from_point : He.DefD := ⟨("from_point", none), "from_point", "from_point", defArgs s_from_point, defBody s_from_point, defScope s_from_point, [], []⟩
def d_turned_plan : He.DefD := ⟨("turned_plan", none), "turned_plan", "turned_plan", defArgs s_turned_plan, defBody s_turned_plan, defScope s_turned_plan, [], []⟩
def d__law_begun : He.DefD := ⟨("_law_begun", none), "_law_begun", "_law_begun", defArgs s__law_begun, defBody s__law_begun, defScope s__law_begun, [], []⟩
def d__law_draw : He.DefD := ⟨("_law_draw", none), "_law_draw", "_law_draw", defArgs s__law_draw, defBody s__law_draw, defScope s__law_draw, [], []⟩
def d__law_of : He.DefD := ⟨("_law_of", none), "_law_of", "_law_of", defArgs s__law_of, defBody s__law_of, defScope s__law_of, [], []⟩
def d__law_like : He.DefD := ⟨("_law_like", none), "_law_like", "_law_like", defArgs s__law_like, defBody s__law_like, defScope s__law_like, [], []⟩
def d__law_shuffled : He.DefD := ⟨("_law_shuffled", none), "_law_shuffled", "_law_shuffled", defArgs s__law_shuffled, defBody s__law_shuffled, defScope s__law_shuffled, [], []⟩
def d__law_ends : He.DefD := ⟨("_law_ends", none), "_law_ends", "_law_ends", defArgs s__law_ends, defBody s__law_ends, defScope s__law_ends, [], []⟩
def d__law_may : He.DefD := ⟨("_law_may", none), "_law_may", "_law_may", defArgs s__law_may, defBody s__law_may, defScope s__law_may, [], []⟩
def d__law_after : He.DefD := ⟨("_law_after", none), "_law_after", "_law_after", defArgs s__law_after, defBody s__law_after, defScope s__law_after, [], []⟩
def d__law_next : He.DefD := ⟨("_law_next", none), "_law_next", "_law_next", defArgs s__law_next, defBody s__law_next, defScope s__law_next, [], []⟩
def d__law_nil : He.DefD := ⟨("_law_nil", none), "_law_nil", "_law_nil", defArgs s__law_nil, defBody s__law_nil, defScope s__law_nil, [], []⟩
def d__law_without : He.DefD := ⟨("_law_without", none), "_law_without", "_law_without", defArgs s__law_without, defBody s__law_without, defScope s__law_without, [], []⟩
def d__law_round_arrow : He.DefD := ⟨("_law_round_arrow", none), "_law_round_arrow", "_law_round_arrow", defArgs s__law_round_arrow, defBody s__law_round_arrow, defScope s__law_round_arrow, [], []⟩
def d__law_ended : He.DefD := ⟨("_law_ended", none), "_law_ended", "_law_ended", defArgs s__law_ended, defBody s__law_ended, defScope s__law_ended, [], []⟩
def d__law_with_noughts : He.DefD := ⟨("_law_with_noughts", none), "_law_with_noughts", "_law_with_noughts", defArgs s__law_with_noughts, defBody s__law_with_noughts, defScope s__law_with_noughts, [], []⟩
def d__law_free_plan : He.DefD := ⟨("_law_free_plan", none), "_law_free_plan", "_law_free_plan", defArgs s__law_free_plan, defBody s__law_free_plan, defScope s__law_free_plan, [], []⟩
def d__law_known_plan : He.DefD := ⟨("_law_known_plan", none), "_law_known_plan", "_law_known_plan", defArgs s__law_known_plan, defBody s__law_known_plan, defScope s__law_known_plan, [], []⟩
def d__law_renamed : He.DefD := ⟨("_law_renamed", none), "_law_renamed", "_law_renamed", defArgs s__law_renamed, defBody s__law_renamed, defScope s__law_renamed, [], []⟩
def d__law_plan : He.DefD := ⟨("_law_plan", none), "_law_plan", "_law_plan", defArgs s__law_plan, defBody s__law_plan, defScope s__law_plan, [], []⟩
def d__law_turned_plan : He.DefD := ⟨("_law_turned_plan", none), "_law_turned_plan", "_law_turned_plan", defArgs s__law_turned_plan, defBody s__law_turned_plan, defScope s__law_turned_plan, [], []⟩
def d__law_begins : He.DefD := ⟨("_law_begins", none), "_law_begins", "_law_begins", defArgs s__law_begins, defBody s__law_begins, defScope s__law_begins, [], []⟩
def d__law_first : He.DefD := ⟨("_law_first", none), "_law_first", "_law_first", defArgs s__law_first, defBody s__law_first, defScope s__law_first, [], []⟩
def d__law_arrow_told : He.DefD := ⟨("_law_arrow_told", none), "_law_arrow_told", "_law_arrow_told", defArgs s__law_arrow_told, defBody s__law_arrow_told, defScope s__law_arrow_told, [], []⟩
def d__law_letter_told : He.DefD := ⟨("_law_letter_told", none), "_law_letter_told", "_law_letter_told", defArgs s__law_letter_told, defBody s__law_letter_told, defScope s__law_letter_told, [], []⟩
def d__law_plan_told : He.DefD := ⟨("_law_plan_told", none), "_law_plan_told", "_law_plan_told", defArgs s__law_plan_told, defBody s__law_plan_told, defScope s__law_plan_told, [], []⟩
def d__law_turned_told : He.DefD := ⟨("_law_turned_told", none), "_law_turned_told", "_law_turned_told", defArgs s__law_turned_told, defBody s__law_turned_told, defScope s__law_turned_told, [], []⟩
def d__law_hands_right : He.DefD := ⟨("_law_hands_right", none), "_law_hands_right", "_law_hands_right", defArgs s__law_hands_right, defBody s__law_hands_right, defScope s__law_hands_right, [], []⟩
def d_law : He.DefD := ⟨("law", none), "law", "law", defArgs s_law, defBody s_law, defScope s_law, [], []⟩
def fn : List He.DefD := [d_ends_of, d_next_of, d_nil_of, d_ahead_of, d_nil_ahead_of, d_other_begun, d_other_ended, d_mate_of, d_followers, d_may_follow, d_from_point, d_turned_plan, d__law_begun, d__law_draw, d__law_of, d__law_like, d__law_shuffled, d__law_ends, d__law_may, d__law_after, d__law_next, d__law_nil, d__law_without, d__law_round_arrow, d__law_ended, d__law_with_noughts, d__law_free_plan, d__law_known_plan, d__law_renamed, d__law_plan, d__law_turned_plan, d__law_begins, d__law_first, d__law_arrow_told, d__law_letter_told, d__law_plan_told, d__law_turned_told, d__law_hands_right, d_law]
def fa : List He.Fa := [.glo "ends_of", .glo "next_of", .glo "nil_of", .glo "ahead_of", .glo "nil_ahead_of", .glo "other_begun", .glo "other_ended", .glo "mate_of", .glo "followers", .glo "may_follow", .glo "from_point", .glo "turned_plan", .glo "_law_begun", .glo "_law_draw", .glo "_law_of", .glo "_law_like", .glo "_law_shuffled", .glo "_law_ends", .glo "_law_may", .glo "_law_after", .glo "_law_next", .glo "_law_nil", .glo "_law_without", .glo "_law_round_arrow", .glo "_law_ended", .glo "_law_with_noughts", .glo "_law_free_plan", .glo "_law_known_plan", .glo "_law_renamed", .glo "_law_plan", .glo "_law_turned_plan", .glo "_law_begins", .glo "_law_first", .glo "_law_arrow_told", .glo "_law_letter_told", .glo "_law_plan_told", .glo "_law_turned_told", .glo "_law_hands_right", .glo "law", .free "enumerate", .free "int", .free "len", .free "list", .free "max", .free "min", .free "range", .free "repr", .free "sorted", .free "tuple"]
def loose : List PySem.Str := ((["ends_of", "next_of", "nil_of", "ahead_of", "nil_ahead_of", "other_begun", "other_ended", "mate_of", "followers", "may_follow", "from_point", "turned_plan", "_law_begun", "_law_draw", "_law_of", "_law_like", "_law_shuffled", "_law_ends", "_law_may", "_law_after"] : List PySem.Str) ++ (["_law_next", "_law_nil", "_law_without", "_law_round_arrow", "_law_ended", "_law_with_noughts", "_law_free_plan", "_law_known_plan", "_law_renamed", "_law_plan", "_law_turned_plan", "_law_begins", "_law_first", "_law_arrow_told", "_law_letter_told", "_law_plan_told", "_law_turned_told", "_law_hands_right"] : List PySem.Str))
abbrev RowK : PySem.W.OpenRow := PySem.W.OpenLaw.row PySem.Challenge.rw_stringrooms_k01_whole_letters_of_plans
abbrev hk : PySem.W.Hook := He.hookD 4 fa fn
def ob (s : PySem.W.SharedT) : He.AlD := He.obsDG 4 fa fn (HandSHeadRun.getT s)
theorem ob_eq (s : PySem.W.SharedT) : ob s = hk.obs s.abs := He.obsDG_eq (HandSHeadRun.getT_eq s)
theorem run (w : World) : HandSHeadRun.RunEq RowK (PySem.W.view RowK.prog [40]) hk ob 4000 loose w := by
  intro os
  kernel_rfl
end HeadK

set_option Elab.async false
set_option linter.all false
set_option maxRecDepth 100000
set_option maxHeartbeats 4000000
namespace FK
open PySem PySem.Spec PyProof.Rows L2 DL HeadK
def b_ends_of : EvT := (sSeq (sIf (tOf (eOp opGe (eVar 1) (eC (.int 0)))) (sRet (eOp opIx (eOp opIx (eVar 0) (eC (.int 1))) (eVar 1))) sNx) (sSeq (sAsg (eOp opIx (eOp opIx (eVar 0) (eC (.int 1))) (eOp opSub (eUn opNeg (eC (.int 1))) (eVar 1))) (tgT [2, 3])) (sRet (eTup (aCons (eVar 3) (aCons (eVar 2) aNil))))))
def f_ends_of : List D → Store → R D := runF 2 4 b_ends_of
def b_next_of : EvT := (sSeq (sAsg (eOp opIx (eOp opIx (eOp opIx (eVar 0) (eC (.int 1))) (eVar 1)) (eC (.int 1))) (tgN 2)) (sSeq (sFor 1000 (iEnum (eOp opIx (eVar 0) (eC (.int 1)))) (tgT [3, 4]) (sIf (tAndD (tOf (eOp opEq (eOp opIx (eVar 4) (eC (.int 0))) (eVar 2))) (tOf (eOp opNotIn (eTup (aCons (eVar 1) (aCons (eVar 3) aNil))) (eOp opIx (eVar 0) (eC (.int 2)))))) (sRet (eVar 3)) sNx)) (sRet (eC .non))))
def f_next_of : List D → Store → R D := runF 2 5 b_next_of
def b_nil_of : EvT := (sSeq (sFor 1000 (iSeq (eOp opIx (eVar 0) (eC (.int 2)))) (tgT [2, 3]) (sIf (tOf (eOp opEq (eVar 2) (eVar 1))) (sRet (eVar 3)) sNx)) (sRet (eC .non)))
def f_nil_of : List D → Store → R D := runF 2 4 b_nil_of
def b_ahead_of : EvT := (sSeq (sAsg (eOp opIx (eOp opIx (eOp opIx (eVar 0) (eC (.int 1))) (eVar 1)) (eC (.int 0))) (tgN 2)) (sSeq (sFor 1000 (iEnum (eOp opIx (eVar 0) (eC (.int 1)))) (tgT [3, 4]) (sIf (tAndD (tOf (eOp opEq (eOp opIx (eVar 4) (eC (.int 1))) (eVar 2))) (tOf (eOp opNotIn (eTup (aCons (eVar 3) (aCons (eVar 1) aNil))) (eOp opIx (eVar 0) (eC (.int 2)))))) (sRet (eVar 3)) sNx)) (sRet (eC .non))))
def f_ahead_of : List D → Store → R D := runF 2 5 b_ahead_of
def b_nil_ahead_of : EvT := (sSeq (sFor 1000 (iSeq (eOp opIx (eVar 0) (eC (.int 2)))) (tgT [2, 3]) (sIf (tOf (eOp opEq (eVar 3) (eVar 1))) (sRet (eVar 2)) sNx)) (sRet (eC .non)))
def f_nil_ahead_of : List D → Store → R D := runF 2 4 b_nil_ahead_of
def b_other_begun : EvT := (sSeq (sFor 1000 (iEnum (eOp opIx (eVar 0) (eC (.int 1)))) (tgT [2, 3]) (sIf (tAndD (tOf (eOp opNe (eVar 2) (eVar 1))) (tOf (eOp opEq (eOp opIx (eVar 3) (eC (.int 0))) (eOp opIx (eOp opIx (eOp opIx (eVar 0) (eC (.int 1))) (eVar 1)) (eC (.int 0)))))) (sRet (eVar 2)) sNx)) (sRet (eC .non)))
def f_other_begun : List D → Store → R D := runF 2 4 b_other_begun
def b_other_ended : EvT := (sSeq (sFor 1000 (iEnum (eOp opIx (eVar 0) (eC (.int 1)))) (tgT [2, 3]) (sIf (tAndD (tOf (eOp opNe (eVar 2) (eVar 1))) (tOf (eOp opEq (eOp opIx (eVar 3) (eC (.int 1))) (eOp opIx (eOp opIx (eOp opIx (eVar 0) (eC (.int 1))) (eVar 1)) (eC (.int 1)))))) (sRet (eVar 2)) sNx)) (sRet (eC .non)))
def f_other_ended : List D → Store → R D := runF 2 4 b_other_ended
def b_mate_of : EvT := (sSeq (sIf (tOf (eOp opGe (eVar 1) (eC (.int 0)))) (sRet (eCallP f_other_begun (aCons (eVar 0) (aCons (eVar 1) aNil)))) sNx) (sSeq (sAsg (eCallP f_other_ended (aCons (eVar 0) (aCons (eOp opSub (eUn opNeg (eC (.int 1))) (eVar 1)) aNil))) (tgN 2)) (sRet (eIfE (tOf (eOp opIsN (eVar 2) (eC .non))) (eC .non) (eOp opSub (eUn opNeg (eC (.int 1))) (eVar 2))))))
def f_mate_of : List D → Store → R D := runF 2 3 b_mate_of
def b_followers : EvT := (sSeq (sIf (tOf (eOp opGe (eVar 1) (eC (.int 0)))) (sPar 2 3 (eCallP f_next_of (aCons (eVar 0) (aCons (eVar 1) aNil))) (eCallP f_other_ended (aCons (eVar 0) (aCons (eVar 1) aNil)))) (sPar 2 3 (eCallP f_other_begun (aCons (eVar 0) (aCons (eOp opSub (eUn opNeg (eC (.int 1))) (eVar 1)) aNil))) (eCallP f_ahead_of (aCons (eVar 0) (aCons (eOp opSub (eUn opNeg (eC (.int 1))) (eVar 1)) aNil))))) (sSeq (sAsg (eIfE (tOf (eOp opIsN (eVar 3) (eC .non))) (eFrz (nLst aNil)) (eFrz (nLst (aCons (eOp opSub (eUn opNeg (eC (.int 1))) (eVar 3)) aNil)))) (tgN 4)) (sRet (eCallB opTuple (aCons (eOp opAdd (eVar 4) (eIfE (tOf (eOp opIsN (eVar 2) (eC .non))) (eFrz (nLst aNil)) (eFrz (nLst (aCons (eVar 2) aNil))))) aNil)))))
def f_followers : List D → Store → R D := runF 2 5 b_followers
def b_may_follow : EvT := (sRet (eOp opIn (eVar 2) (eCallP f_followers (aCons (eVar 0) (aCons (eVar 1) aNil)))))
def f_may_follow : List D → Store → R D := runF 3 3 b_may_follow
def b_from_point : EvT := (sSeq (sAsg (eCallB opRng (aCons (eUn opNeg (eCallB opLen (aCons (eOp opIx (eVar 0) (eC (.int 1))) aNil))) (aCons (eCallB opLen (aCons (eOp opIx (eVar 0) (eC (.int 1))) aNil)) aNil))) (tgN 2)) (sRet (eCallB opTuple (aCons (eFrz (nLc (iRngD (eVar 2)) (tgN 3) (tOf (eOp opEq (eOp opIx (eCallP f_ends_of (aCons (eVar 0) (aCons (eVar 3) aNil))) (eC (.int 0))) (eVar 1))) (eVar 3) [3])) aNil))))
def f_from_point : List D → Store → R D := runF 2 4 b_from_point
def b_turned_plan : EvT := (sSeq (sAsg (eVar 0) (tgT [1, 2, 3])) (sSeq (sAsg (eCallB opTuple (aCons (eFrz (nLc (iSeq (eVar 2)) (tgT [5, 6]) tYesD (eTup (aCons (eVar 6) (aCons (eVar 5) aNil))) [5, 6])) aNil)) (tgN 4)) (sRet (eTup (aCons (eVar 1) (aCons (eVar 4) (aCons (eCallB opTuple (aCons (eFrz (nCallB opSortB (aCons (eFrz (nLc (iSeq (eVar 3)) (tgT [7, 8]) tYesD (eTup (aCons (eVar 8) (aCons (eVar 7) aNil))) [7, 8])) aNil))) aNil)) aNil)))))))
def f_turned_plan : List D → Store → R D := runF 1 9 b_turned_plan
def b__law_begun : EvT := (sSeq (sAsg (eOp opAdd (eSl (eVar 0) (oSome (eVar 1)) oNone) (eSl (eVar 0) oNone (oSome (eVar 1)))) (tgN 2)) (sSeq (sAsg (eFrz (nLc (iSeq (eVar 2)) (tgN 5) (tOf (eOp opGe (eVar 5) (eOp opPow (eC (.int 10)) (eC (.int 18))))) (eVar 5) [5])) (tgN 3)) (sSeq (sAsg (eOp opAdd (eC (.int 71)) (eVar 1)) (tgN 4)) (sSeq (sFor 1000 (iSeq (eVar 2)) (tgN 5) (sAsg (eOp opMod (eCallB opInt (aCons (eOp opAdd (eOp opMul (eVar 4) (eC (.int 48271))) (eVar 5)) aNil)) (eC (.int 2147483647))) (tgN 4))) (sRet (eDict [(.inr "left"), (.inr "seed"), (.inr "cells"), (.inr "spot")] [(eIfE (tOf (eOp opNe (eVar 3) (eFrz (nLst aNil)))) (eOp opIx (eVar 3) (eC (.int 0))) (eC (.int 0))), (eVar 4), (eOp opAdd (eVar 2) (eFrz (nLst (aCons (eOp opAdd (eOp opMul (eC (.int 53)) (eVar 1)) (eC (.int 11))) aNil)))), (eC (.int 0))]))))))
def f__law_begun : List D → Store → R D := runF 2 6 b__law_begun
def b__law_draw : EvT := (sSeq (sIf (tOf (eOp opGt (eOp opDGet (eVar 0) (eC (.str "left"))) (eC (.int 0)))) (sSeq (sAsg (eOp opMod (eCallB opInt (aCons (eOp opDGet (eVar 0) (eC (.str "left"))) aNil)) (eVar 1)) (tgN 2)) (sSeq (sDPutD (eVar 0) (eC (.str "left")) (eOp opFdiv (eOp opDGet (eVar 0) (eC (.str "left"))) (eVar 1))) (sRet (eVar 2)))) sNx) (sSeq (sAsg (eOp opDGet (eVar 0) (eC (.str "spot"))) (tgN 3)) (sSeq (sDPutD (eVar 0) (eC (.str "spot")) (eOp opAdd (eVar 3) (eC (.int 1)))) (sSeq (sPar 4 5 (eOp opDGet (eVar 0) (eC (.str "cells"))) (eOp opAdd (eOp opDGet (eVar 0) (eC (.str "seed"))) (eOp opMul (eOp opMul (eC (.int 40503)) (eVar 3)) (eVar 3)))) (sSeq (sAsg (eOp opIx (eVar 4) (eOp opMod (eCallB opInt (aCons (eVar 3) aNil)) (eCallB opLen (aCons (eVar 4) aNil)))) (tgN 6)) (sSeq (sAsg (eOp opMod (eCallB opInt (aCons (eOp opAdd (eOp opMul (eVar 6) (eOp opAdd (eOp opMul (eC (.int 2)) (eVar 3)) (eC (.int 3)))) (eVar 5)) aNil)) (eC (.int 2147483647))) (tgN 7)) (sSeq (sAsg (eOp opMod (eCallB opInt (aCons (eOp opAdd (eOp opAdd (eOp opMul (eVar 7) (eVar 7)) (eOp opMul (eC (.int 69621)) (eVar 3))) (eOp opDGet (eVar 0) (eC (.str "seed")))) aNil)) (eC (.int 2147483629))) (tgN 7)) (sRet (eOp opMod (eOp opFdiv (eOp opMod (eCallB opInt (aCons (eOp opAdd (eOp opMul (eVar 7) (eC (.int 48271))) (eVar 3)) aNil)) (eC (.int 2147483647))) (eC (.int 11))) (eVar 1))))))))))
def f__law_draw : List D → Store → R D := runF 2 8 b__law_draw
def b__law_of : EvT := (sRet (eOp opIx (eVar 1) (eCallT f__law_draw (aCons (eVar 0) (aCons (eCallB opLen (aCons (eVar 1) aNil)) aNil)))))
def f__law_of : List D → Store → R D := runF 2 2 b__law_of
def b__law_like : EvT := (sRet (eLike (eVar 0) (eVar 1)))
def f__law_like : List D → Store → R D := runF 2 2 b__law_like
def b__law_shuffled : EvT := (sSeq (sPar 2 3 (eFrz (nListRg (gRg1 (eVar 1)))) (eNew (nLst aNil))) (sSeq (sFor 1000 (iRg1 (eVar 1)) (tgN 4) (sSeq (sAsg (eCallT f__law_of (aCons (eVar 0) (aCons (eVar 2) aNil))) (tgN 5)) (sSeq (sAsg (eFrz (nLc (iSeq (eVar 2)) (tgN 6) (tOf (eOp opNe (eVar 6) (eVar 5))) (eVar 6) [6])) (tgN 2)) (sExpr (eAppend (eVar 3) (eVar 5)))))) (sRet (eCallB opTuple (aCons (eVar 3) aNil)))))
def f__law_shuffled : List D → Store → R D := runF 2 7 b__law_shuffled
def b__law_ends : EvT := (sSeq (sAsg (eOp opIx (eOp opIx (eVar 0) (eC (.int 1))) (eIfE (tOf (eOp opGe (eVar 1) (eC (.int 0)))) (eVar 1) (eOp opSub (eUn opNeg (eC (.int 1))) (eVar 1)))) (tgT [2, 3])) (sRet (eIfE (tOf (eOp opGe (eVar 1) (eC (.int 0)))) (eTup (aCons (eVar 2) (aCons (eVar 3) aNil))) (eTup (aCons (eVar 3) (aCons (eVar 2) aNil))))))
def f__law_ends : List D → Store → R D := runF 2 4 b__law_ends
def b__law_may : EvT := (sSeq (sIf (tOrD (tOf (eOp opNe (eOp opIx (eCallP f__law_ends (aCons (eVar 0) (aCons (eVar 1) aNil))) (eC (.int 1))) (eOp opIx (eCallP f__law_ends (aCons (eVar 0) (aCons (eVar 2) aNil))) (eC (.int 0))))) (tOf (eOp opEq (eVar 2) (eOp opSub (eUn opNeg (eC (.int 1))) (eVar 1))))) (sRet (eC (.bl false))) sNx) (sSeq (sIf (tAndD (tOf (eOp opGe (eVar 1) (eC (.int 0)))) (tOf (eOp opGe (eVar 2) (eC (.int 0))))) (sRet (eOp opNotIn (eTup (aCons (eVar 1) (aCons (eVar 2) aNil))) (eOp opIx (eVar 0) (eC (.int 2))))) sNx) (sSeq (sIf (tAndD (tOf (eOp opLt (eVar 1) (eC (.int 0)))) (tOf (eOp opLt (eVar 2) (eC (.int 0))))) (sRet (eOp opNotIn (eTup (aCons (eOp opSub (eUn opNeg (eC (.int 1))) (eVar 2)) (aCons (eOp opSub (eUn opNeg (eC (.int 1))) (eVar 1)) aNil))) (eOp opIx (eVar 0) (eC (.int 2))))) sNx) (sRet (eC (.bl true))))))
def f__law_may : List D → Store → R D := runF 3 3 b__law_may
def b__law_after : EvT := (sSeq (sAsg (eCallB opLen (aCons (eOp opIx (eVar 0) (eC (.int 1))) aNil)) (tgN 2)) (sRet (eFrz (nLc (iRg2 (eUn opNeg (eVar 2)) (eVar 2)) (tgN 3) (tTru (eCallP f__law_may (aCons (eVar 0) (aCons (eVar 1) (aCons (eVar 3) aNil))))) (eVar 3) [3]))))
def f__law_after : List D → Store → R D := runF 2 4 b__law_after
def b__law_next : EvT := (sSeq (sAsg (eFrz (nLc (iSeq (eCallP f__law_after (aCons (eVar 0) (aCons (eVar 1) aNil)))) (tgN 3) (tOf (eOp opGe (eVar 3) (eC (.int 0)))) (eVar 3) [3])) (tgN 2)) (sRet (eIfE (tOf (eOp opNe (eVar 2) (eFrz (nLst aNil)))) (eOp opIx (eVar 2) (eC (.int 0))) (eC .non))))
def f__law_next : List D → Store → R D := runF 2 4 b__law_next
def b__law_nil : EvT := (sSeq (sAsg (eFrz (nLc (iSeq (eOp opIx (eVar 0) (eC (.int 2)))) (tgN 3) (tOf (eOp opEq (eOp opIx (eVar 3) (eC (.int 0))) (eVar 1))) (eOp opIx (eVar 3) (eC (.int 1))) [3])) (tgN 2)) (sRet (eIfE (tOf (eOp opNe (eVar 2) (eFrz (nLst aNil)))) (eOp opIx (eVar 2) (eC (.int 0))) (eC .non))))
def f__law_nil : List D → Store → R D := runF 2 4 b__law_nil
def b__law_without : EvT := (sSeq (sAsg (eFrz (nLc (iRg1 (eCallB opLen (aCons (eOp opIx (eVar 0) (eC (.int 1))) aNil))) (tgN 4) (tOf (eOp opNe (eVar 4) (eVar 1))) (eOp opIx (eOp opIx (eVar 0) (eC (.int 1))) (eVar 4)) [4])) (tgN 2)) (sSeq (sAsg (eFrz (nLc (iSeq (eOp opIx (eVar 0) (eC (.int 2)))) (tgN 5) (tOf (eOp opNotIn (eVar 1) (eVar 5))) (eVar 5) [5])) (tgN 3)) (sSeq (sAsg (eFrz (nLc (iSeq (eVar 3)) (tgT [6, 7]) tYesD (eTup (aCons (eOp opSub (eVar 6) (eIfE (tOf (eOp opGt (eVar 6) (eVar 1))) (eC (.int 1)) (eC (.int 0)))) (aCons (eOp opSub (eVar 7) (eIfE (tOf (eOp opGt (eVar 7) (eVar 1))) (eC (.int 1)) (eC (.int 0)))) aNil))) [6, 7])) (tgN 3)) (sRet (eTup (aCons (eOp opIx (eVar 0) (eC (.int 0))) (aCons (eCallB opTuple (aCons (eVar 2) aNil)) (aCons (eCallB opTuple (aCons (eFrz (nCallB opSortB (aCons (eVar 3) aNil))) aNil)) aNil))))))))
def f__law_without : List D → Store → R D := runF 2 8 b__law_without
def b__law_round_arrow : EvT := (sSeq (sFor 1000 (iRg1 (eCallB opLen (aCons (eOp opIx (eVar 0) (eC (.int 1))) aNil))) (tgN 1) (sSeq (sAsg (eCallP f__law_next (aCons (eVar 0) (aCons (eVar 1) aNil))) (tgN 2)) (sSeq (sFor 1000 (iRg1 (eCallB opLen (aCons (eOp opIx (eVar 0) (eC (.int 1))) aNil))) (tgN 3) (sIf (tAndD (tOf (eOp opNotN (eVar 2) (eC .non))) (tOf (eOp opNe (eVar 2) (eVar 1)))) (sAsg (eCallP f__law_next (aCons (eVar 0) (aCons (eVar 2) aNil))) (tgN 2)) sNx)) (sIf (tOf (eOp opEq (eVar 2) (eVar 1))) (sRet (eVar 1)) sNx)))) (sRet (eC .non)))
def f__law_round_arrow : List D → Store → R D := runF 1 4 b__law_round_arrow
def b__law_ended : EvT := (sSeq (sFor 1000 (iRg1 (eCallB opLen (aCons (eOp opIx (eVar 0) (eC (.int 1))) aNil))) (tgN 1) (sSeq (sAsg (eCallP f__law_round_arrow (aCons (eVar 0) aNil)) (tgN 2)) (sIf (tOf (eOp opNotN (eVar 2) (eC .non))) (sAsg (eCallP f__law_without (aCons (eVar 0) (aCons (eVar 2) aNil))) (tgN 0)) sNx))) (sRet (eVar 0)))
def f__law_ended : List D → Store → R D := runF 1 3 b__law_ended
def b__law_with_noughts : EvT := (sSeq (sAsg (eNew (nLst aNil)) (tgN 3)) (sSeq (sFor 1000 (iRg1 (eVar 1)) (tgN 4) (sSeq (sAsg (eFrz (nLc (iRg1 (eCallB opLen (aCons (eVar 2) aNil))) (tgN 8) (tOf (eOp opEq (eOp opIx (eOp opIx (eVar 2) (eVar 8)) (eC (.int 1))) (eVar 4))) (eVar 8) [8])) (tgN 5)) (sSeq (sAsg (eFrz (nLc (iRg1 (eCallB opLen (aCons (eVar 2) aNil))) (tgN 9) (tOf (eOp opEq (eOp opIx (eOp opIx (eVar 2) (eVar 9)) (eC (.int 0))) (eVar 4))) (eVar 9) [9])) (tgN 6)) (sSeq (sAsg (eCallT f__law_draw (aCons (eVar 0) (aCons (eC (.int 2)) aNil))) (tgN 7)) (sSeq (sIf (tAndD (tOf (eOp opEq (eCallB opLen (aCons (eVar 5) aNil)) (eC (.int 2)))) (tOf (eOp opEq (eCallB opLen (aCons (eVar 6) aNil)) (eC (.int 2))))) (sAsg (eNew (nAdd (eVar 3) (eFrz (nLst (aCons (eTup (aCons (eOp opIx (eVar 5) (eC (.int 0))) (aCons (eOp opIx (eVar 6) (eVar 7)) aNil))) (aCons (eTup (aCons (eOp opIx (eVar 5) (eC (.int 1))) (aCons (eOp opIx (eVar 6) (eOp opSub (eC (.int 1)) (eVar 7))) aNil))) aNil)))))) (tgN 3)) sNx) (sSeq (sIf (tAndD (tOf (eOp opEq (eCallB opLen (aCons (eVar 5) aNil)) (eC (.int 2)))) (tOf (eOp opEq (eCallB opLen (aCons (eVar 6) aNil)) (eC (.int 1))))) (sExpr (eAppend (eVar 3) (eTup (aCons (eOp opIx (eVar 5) (eVar 7)) (aCons (eOp opIx (eVar 6) (eC (.int 0))) aNil))))) sNx) (sSeq (sIf (tAndD (tOf (eOp opEq (eCallB opLen (aCons (eVar 5) aNil)) (eC (.int 1)))) (tOf (eOp opEq (eCallB opLen (aCons (eVar 6) aNil)) (eC (.int 2))))) (sExpr (eAppend (eVar 3) (eTup (aCons (eOp opIx (eVar 5) (eC (.int 0))) (aCons (eOp opIx (eVar 6) (eVar 7)) aNil))))) sNx) (sIf (tAndD (tOf (eOp opEq (eCallB opLen (aCons (eVar 5) aNil)) (eC (.int 1)))) (tAndD (tOf (eOp opEq (eCallB opLen (aCons (eVar 6) aNil)) (eC (.int 1)))) (tOf (eOp opEq (eVar 7) (eC (.int 1)))))) (sExpr (eAppend (eVar 3) (eTup (aCons (eOp opIx (eVar 5) (eC (.int 0))) (aCons (eOp opIx (eVar 6) (eC (.int 0))) aNil))))) sNx)))))))) (sRet (eCallP f__law_ended (aCons (eTup (aCons (eVar 1) (aCons (eCallB opTuple (aCons (eVar 2) aNil)) (aCons (eCallB opTuple (aCons (eFrz (nCallB opSortB (aCons (eVar 3) aNil))) aNil)) aNil)))) aNil)))))
def f__law_with_noughts : List D → Store → R D := runF 3 10 b__law_with_noughts
def b__law_free_plan : EvT := (sSeq (sAsg (eNew (nLst aNil)) (tgN 3)) (sSeq (sFor 1000 (iRg1 (eOp opAdd (eOp opSub (eVar 1) (eC (.int 1))) (eCallT f__law_draw (aCons (eVar 0) (aCons (eVar 2) aNil))))) (tgN 4) (sSeq (sAsg (eTup (aCons (eCallT f__law_draw (aCons (eVar 0) (aCons (eVar 1) aNil))) (aCons (eCallT f__law_draw (aCons (eVar 0) (aCons (eVar 1) aNil))) aNil))) (tgT [5, 6])) (sSeq (sAsg (eIfE (tAndD (tOf (eOp opEq (eVar 5) (eVar 6))) (tOf (eOp opGt (eCallT f__law_draw (aCons (eVar 0) (aCons (eC (.int 3)) aNil))) (eC (.int 0))))) (eOp opMod (eCallB opInt (aCons (eOp opAdd (eVar 5) (eC (.int 1))) aNil)) (eVar 1)) (eVar 6)) (tgN 6)) (sSeq (sAsg (eFrz (nLc (iSeq (eVar 3)) (tgN 9) (tOf (eOp opEq (eOp opIx (eVar 9) (eC (.int 0))) (eVar 5))) (eVar 9) [9])) (tgN 7)) (sSeq (sAsg (eFrz (nLc (iSeq (eVar 3)) (tgN 9) (tOf (eOp opEq (eOp opIx (eVar 9) (eC (.int 1))) (eVar 6))) (eVar 9) [9])) (tgN 8)) (sIf (tAndD (tOf (eOp opLt (eCallB opLen (aCons (eVar 7) aNil)) (eC (.int 2)))) (tOf (eOp opLt (eCallB opLen (aCons (eVar 8) aNil)) (eC (.int 2))))) (sExpr (eAppend (eVar 3) (eTup (aCons (eVar 5) (aCons (eVar 6) aNil))))) sNx)))))) (sRet (eCallT f__law_with_noughts (aCons (eVar 0) (aCons (eVar 1) (aCons (eVar 3) aNil)))))))
def f__law_free_plan : List D → Store → R D := runF 3 10 b__law_free_plan
def b__law_known_plan : EvT := (sSeq (sAsg (eCallT f__law_draw (aCons (eVar 0) (aCons (eC (.int 5)) aNil))) (tgN 2)) (sSeq (sIf (tOf (eOp opEq (eVar 2) (eC (.int 0)))) (sSeq (sAsg (eFrz (nLc (iRg1 (eOp opSub (eVar 1) (eC (.int 1)))) (tgN 5) tYesD (eCallT f__law_draw (aCons (eVar 0) (aCons (eC (.int 2)) aNil))) [5])) (tgN 3)) (sSeq (sAsg (eNew (nLc (iRg1 (eOp opSub (eVar 1) (eC (.int 1)))) (tgN 5) tYesD (eIfE (tOf (eOp opEq (eOp opIx (eVar 3) (eVar 5)) (eC (.int 0)))) (eTup (aCons (eVar 5) (aCons (eOp opAdd (eVar 5) (eC (.int 1))) aNil))) (eTup (aCons (eOp opAdd (eVar 5) (eC (.int 1))) (aCons (eVar 5) aNil)))) [5])) (tgN 4)) (sRet (eCallT f__law_with_noughts (aCons (eVar 0) (aCons (eVar 1) (aCons (eVar 4) aNil))))))) sNx) (sSeq (sIf (tOf (eOp opEq (eVar 2) (eC (.int 1)))) (sSeq (sAsg (eNew (nLc (iRg1 (eVar 1)) (tgN 5) tYesD (eTup (aCons (eVar 5) (aCons (eOp opMod (eCallB opInt (aCons (eOp opAdd (eVar 5) (eC (.int 1))) aNil)) (eVar 1)) aNil))) [5])) (tgN 4)) (sRet (eTup (aCons (eVar 1) (aCons (eCallB opTuple (aCons (eVar 4) aNil)) (aCons (eCallB opTuple (aCons (eFrz (nCallB opSortB (aCons (eFrz (nLc (iRg1 (eVar 1)) (tgN 5) tYesD (eTup (aCons (eVar 5) (aCons (eOp opMod (eCallB opInt (aCons (eOp opAdd (eVar 5) (eC (.int 1))) aNil)) (eVar 1)) aNil))) [5])) aNil))) aNil)) aNil)))))) sNx) (sSeq (sIf (tOf (eOp opEq (eVar 2) (eC (.int 2)))) (sSeq (sAsg (eNew (nLc (iRg1 (eOp opSub (eVar 1) (eC (.int 1)))) (tgN 5) tYesD (eTup (aCons (eVar 5) (aCons (eOp opAdd (eVar 5) (eC (.int 1))) aNil))) [5])) (tgN 4)) (sRet (eCallT f__law_with_noughts (aCons (eVar 0) (aCons (eVar 1) (aCons (eOp opAdd (eVar 4) (eIfE (tOf (eOp opGt (eVar 1) (eC (.int 1)))) (eFrz (nLst (aCons (eTup (aCons (eC (.int 0)) (aCons (eC (.int 1)) aNil))) aNil))) (eFrz (nLst aNil)))) aNil)))))) sNx) (sSeq (sIf (tOf (eOp opEq (eVar 2) (eC (.int 3)))) (sSeq (sAsg (eNew (nLst aNil)) (tgN 4)) (sSeq (sFor 1000 (iRg1 (eOp opSub (eVar 1) (eC (.int 1)))) (tgN 5) (sSeq (sExpr (eAppend (eVar 4) (eTup (aCons (eVar 5) (aCons (eOp opAdd (eVar 5) (eC (.int 1))) aNil))))) (sIf (tOf (eOp opEq (eOp opMod (eCallB opInt (aCons (eVar 5) aNil)) (eC (.int 2))) (eC (.int 0)))) (sExpr (eAppend (eVar 4) (eTup (aCons (eOp opAdd (eVar 5) (eC (.int 1))) (aCons (eVar 5) aNil))))) sNx))) (sRet (eCallT f__law_with_noughts (aCons (eVar 0) (aCons (eVar 1) (aCons (eVar 4) aNil))))))) sNx) (sSeq (sAsg (eNew (nAdd (eFrz (nLc (iRg1 (eOp opSub (eVar 1) (eC (.int 1)))) (tgN 5) tYesD (eTup (aCons (eVar 5) (aCons (eOp opAdd (eVar 5) (eC (.int 1))) aNil))) [5])) (eFrz (nLst (aCons (eTup (aCons (eOp opSub (eVar 1) (eC (.int 1))) (aCons (eOp opSub (eVar 1) (eC (.int 1))) aNil))) aNil))))) (tgN 4)) (sSeq (sAsg (eOp opAdd (eFrz (nLst (aCons (eTup (aCons (eOp opSub (eVar 1) (eC (.int 1))) (aCons (eOp opSub (eVar 1) (eC (.int 1))) aNil))) aNil))) (eFrz (nLc (iRg1 (eOp opSub (eVar 1) (eC (.int 2)))) (tgN 5) (tOf (eOp opEq (eCallT f__law_draw (aCons (eVar 0) (aCons (eC (.int 2)) aNil))) (eC (.int 1)))) (eTup (aCons (eVar 5) (aCons (eOp opAdd (eVar 5) (eC (.int 1))) aNil))) [5]))) (tgN 6)) (sRet (eTup (aCons (eVar 1) (aCons (eCallB opTuple (aCons (eVar 4) aNil)) (aCons (eCallB opTuple (aCons (eFrz (nCallB opSortB (aCons (eVar 6) aNil))) aNil)) aNil))))))))))))
def f__law_known_plan : List D → Store → R D := runF 2 7 b__law_known_plan
def b__law_renamed : EvT := (sSeq (sAsg (eNew (nLc (iSeq (eOp opIx (eVar 0) (eC (.int 1)))) (tgN 5) tYesD (eC .non) [5])) (tgN 3)) (sSeq (sFor 1000 (iRg1 (eCallB opLen (aCons (eVar 3) aNil))) (tgN 4) (sSetIx (eVar 3) (eOp opIx (eVar 2) (eVar 4)) (eTup (aCons (eOp opIx (eVar 1) (eOp opIx (eOp opIx (eOp opIx (eVar 0) (eC (.int 1))) (eVar 4)) (eC (.int 0)))) (aCons (eOp opIx (eVar 1) (eOp opIx (eOp opIx (eOp opIx (eVar 0) (eC (.int 1))) (eVar 4)) (eC (.int 1)))) aNil))))) (sRet (eTup (aCons (eOp opIx (eVar 0) (eC (.int 0))) (aCons (eCallB opTuple (aCons (eVar 3) aNil)) (aCons (eCallB opTuple (aCons (eFrz (nCallB opSortB (aCons (eFrz (nLc (iSeq (eOp opIx (eVar 0) (eC (.int 2)))) (tgT [4, 6]) tYesD (eTup (aCons (eOp opIx (eVar 2) (eVar 4)) (aCons (eOp opIx (eVar 2) (eVar 6)) aNil))) [4, 6])) aNil))) aNil)) aNil)))))))
def f__law_renamed : List D → Store → R D := runF 3 7 b__law_renamed
def b__law_plan : EvT := (sSeq (sAsg (eOp opAdd (eC (.int 1)) (eCallT f__law_draw (aCons (eVar 0) (aCons (eVar 1) aNil)))) (tgN 2)) (sSeq (sIf (tOf (eOp opEq (eCallT f__law_draw (aCons (eVar 0) (aCons (eC (.int 3)) aNil))) (eC (.int 0)))) (sAsg (eCallT f__law_known_plan (aCons (eVar 0) (aCons (eVar 2) aNil))) (tgN 3)) (sAsg (eCallT f__law_free_plan (aCons (eVar 0) (aCons (eVar 2) (aCons (eOp opMul (eC (.int 3)) (eVar 2)) aNil)))) (tgN 3))) (sRet (eCallP f__law_renamed (aCons (eVar 3) (aCons (eCallT f__law_shuffled (aCons (eVar 0) (aCons (eVar 2) aNil))) (aCons (eCallT f__law_shuffled (aCons (eVar 0) (aCons (eCallB opLen (aCons (eOp opIx (eVar 3) (eC (.int 1))) aNil)) aNil))) aNil)))))))
def f__law_plan : List D → Store → R D := runF 2 4 b__law_plan
def b__law_turned_plan : EvT := (sSeq (sAsg (eCallB opTuple (aCons (eFrz (nLc (iSeq (eOp opIx (eVar 0) (eC (.int 1)))) (tgT [2, 3]) tYesD (eTup (aCons (eVar 3) (aCons (eVar 2) aNil))) [2, 3])) aNil)) (tgN 1)) (sRet (eTup (aCons (eOp opIx (eVar 0) (eC (.int 0))) (aCons (eVar 1) (aCons (eCallB opTuple (aCons (eFrz (nCallB opSortB (aCons (eFrz (nLc (iSeq (eOp opIx (eVar 0) (eC (.int 2)))) (tgT [2, 3]) tYesD (eTup (aCons (eVar 3) (aCons (eVar 2) aNil))) [2, 3])) aNil))) aNil)) aNil))))))
def f__law_turned_plan : List D → Store → R D := runF 1 4 b__law_turned_plan
def b__law_begins : EvT := (sSeq (sAsg (eCallB opLen (aCons (eOp opIx (eVar 0) (eC (.int 1))) aNil)) (tgN 2)) (sRet (eFrz (nLc (iRg2 (eUn opNeg (eVar 2)) (eVar 2)) (tgN 3) (tOf (eOp opEq (eOp opIx (eCallP f__law_ends (aCons (eVar 0) (aCons (eVar 3) aNil))) (eC (.int 0))) (eVar 1))) (eVar 3) [3]))))
def f__law_begins : List D → Store → R D := runF 2 4 b__law_begins
def b__law_first : EvT := (sRet (eIfE (tOf (eOp opEq (eVar 0) (eFrz (nLst aNil)))) (eC .non) (eIfE (tOf (eOp opEq (eCallB opLen (aCons (eVar 0) aNil)) (eC (.int 1)))) (eOp opIx (eVar 0) (eC (.int 0))) (eC (.str "more")))))
def f__law_first : List D → Store → R D := runF 1 1 b__law_first
def b__law_arrow_told : EvT := (sSeq (sAsg (eFrz (nListRg (gRg1 (eCallB opLen (aCons (eOp opIx (eVar 0) (eC (.int 1))) aNil))))) (tgN 2)) (sSeq (sAsg (eTup (aCons (eCallP f__law_next (aCons (eVar 0) (aCons (eVar 1) aNil))) (aCons (eCallP f__law_nil (aCons (eVar 0) (aCons (eVar 1) aNil))) aNil))) (tgN 3)) (sSeq (sIf (tNotD (tTru (eCallP f__law_like (aCons (eTup (aCons (eCallP f_next_of (aCons (eVar 0) (aCons (eVar 1) aNil))) (aCons (eCallP f_nil_of (aCons (eVar 0) (aCons (eVar 1) aNil))) aNil))) (aCons (eVar 3) aNil))))) (sRet (eC (.bl false))) sNx) (sSeq (sAsg (eCallP f__law_first (aCons (eFrz (nLc (iSeq (eVar 2)) (tgN 9) (tOf (eOp opEq (eCallP f__law_next (aCons (eVar 0) (aCons (eVar 9) aNil))) (eVar 1))) (eVar 9) [9])) aNil)) (tgN 4)) (sSeq (sAsg (eCallP f__law_first (aCons (eFrz (nLc (iSeq (eVar 2)) (tgN 9) (tOf (eOp opEq (eCallP f__law_nil (aCons (eVar 0) (aCons (eVar 9) aNil))) (eVar 1))) (eVar 9) [9])) aNil)) (tgN 5)) (sSeq (sIf (tNotD (tTru (eCallP f__law_like (aCons (eTup (aCons (eCallP f_ahead_of (aCons (eVar 0) (aCons (eVar 1) aNil))) (aCons (eCallP f_nil_ahead_of (aCons (eVar 0) (aCons (eVar 1) aNil))) aNil))) (aCons (eTup (aCons (eVar 4) (aCons (eVar 5) aNil))) aNil))))) (sRet (eC (.bl false))) sNx) (sSeq (sAsg (eCallP f__law_first (aCons (eFrz (nLc (iSeq (eVar 2)) (tgN 9) (tAndD (tOf (eOp opNe (eVar 9) (eVar 1))) (tOf (eOp opEq (eOp opIx (eOp opIx (eOp opIx (eVar 0) (eC (.int 1))) (eVar 9)) (eC (.int 0))) (eOp opIx (eOp opIx (eOp opIx (eVar 0) (eC (.int 1))) (eVar 1)) (eC (.int 0)))))) (eVar 9) [9])) aNil)) (tgN 6)) (sSeq (sAsg (eCallP f__law_first (aCons (eFrz (nLc (iSeq (eVar 2)) (tgN 9) (tAndD (tOf (eOp opNe (eVar 9) (eVar 1))) (tOf (eOp opEq (eOp opIx (eOp opIx (eOp opIx (eVar 0) (eC (.int 1))) (eVar 9)) (eC (.int 1))) (eOp opIx (eOp opIx (eOp opIx (eVar 0) (eC (.int 1))) (eVar 1)) (eC (.int 1)))))) (eVar 9) [9])) aNil)) (tgN 7)) (sSeq (sAsg (eIfE (tOf (eOp opIsN (eVar 7) (eC .non))) (eC .non) (eOp opSub (eUn opNeg (eC (.int 1))) (eVar 7))) (tgN 8)) (sRet (eCallP f__law_like (aCons (eTup (aCons (eCallP f_mate_of (aCons (eVar 0) (aCons (eVar 1) aNil))) (aCons (eCallP f_mate_of (aCons (eVar 0) (aCons (eOp opSub (eUn opNeg (eC (.int 1))) (eVar 1)) aNil))) aNil))) (aCons (eTup (aCons (eVar 6) (aCons (eVar 8) aNil))) aNil)))))))))))))
def f__law_arrow_told : List D → Store → R D := runF 2 10 b__law_arrow_told
def b__law_letter_told : EvT := (sSeq (sIf (tNotD (tTru (eCallP f__law_like (aCons (eCallP f_ends_of (aCons (eVar 0) (aCons (eVar 1) aNil))) (aCons (eCallP f__law_ends (aCons (eVar 0) (aCons (eVar 1) aNil))) aNil))))) (sRet (eC (.bl false))) sNx) (sSeq (sAsg (eCallP f__law_after (aCons (eVar 0) (aCons (eVar 1) aNil))) (tgN 2)) (sSeq (sIf (tNotD (tTru (eCallP f__law_like (aCons (eCallP f_followers (aCons (eVar 0) (aCons (eVar 1) aNil))) (aCons (eCallB opTuple (aCons (eVar 2) aNil)) aNil))))) (sRet (eC (.bl false))) sNx) (sSeq (sAsg (eCallB opLen (aCons (eOp opIx (eVar 0) (eC (.int 1))) aNil)) (tgN 3)) (sSeq (sFor 1000 (iRg2 (eUn opNeg (eVar 3)) (eVar 3)) (tgN 4) (sIf (tNotD (tTru (eCallP f__law_like (aCons (eCallP f_may_follow (aCons (eVar 0) (aCons (eVar 1) (aCons (eVar 4) aNil)))) (aCons (eOp opIn (eVar 4) (eVar 2)) aNil))))) (sRet (eC (.bl false))) sNx)) (sRet (eC (.bl true))))))))
def f__law_letter_told : List D → Store → R D := runF 2 5 b__law_letter_told
def b__law_plan_told : EvT := (sSeq (sAsg (eCallB opLen (aCons (eOp opIx (eVar 0) (eC (.int 1))) aNil)) (tgN 1)) (sSeq (sFor 1000 (iRg2 (eUn opNeg (eVar 1)) (eVar 1)) (tgN 2) (sIf (tNotD (tTru (eCallP f__law_letter_told (aCons (eVar 0) (aCons (eVar 2) aNil))))) (sRet (eC (.bl false))) sNx)) (sSeq (sFor 1000 (iRg1 (eVar 1)) (tgN 3) (sIf (tNotD (tTru (eCallP f__law_arrow_told (aCons (eVar 0) (aCons (eVar 3) aNil))))) (sRet (eC (.bl false))) sNx)) (sSeq (sFor 1000 (iRg1 (eOp opIx (eVar 0) (eC (.int 0)))) (tgN 4) (sIf (tNotD (tTru (eCallP f__law_like (aCons (eCallP f_from_point (aCons (eVar 0) (aCons (eVar 4) aNil))) (aCons (eCallB opTuple (aCons (eCallP f__law_begins (aCons (eVar 0) (aCons (eVar 4) aNil))) aNil)) aNil))))) (sRet (eC (.bl false))) sNx)) (sRet (eC (.bl true)))))))
def f__law_plan_told : List D → Store → R D := runF 1 5 b__law_plan_told
def b__law_turned_told : EvT := (sSeq (sAsg (eCallP f_turned_plan (aCons (eVar 0) aNil)) (tgN 1)) (sSeq (sIf (tOrD (tNotD (tTru (eCallP f__law_like (aCons (eVar 1) (aCons (eCallP f__law_turned_plan (aCons (eVar 0) aNil)) aNil))))) (tNotD (tTru (eCallP f__law_like (aCons (eCallP f_turned_plan (aCons (eVar 1) aNil)) (aCons (eVar 0) aNil)))))) (sRet (eC (.bl false))) sNx) (sSeq (sFor 1000 (iRg1 (eCallB opLen (aCons (eOp opIx (eVar 0) (eC (.int 1))) aNil))) (tgN 2) (sSeq (sIf (tNotD (tTru (eCallP f__law_like (aCons (eCallP f_next_of (aCons (eVar 1) (aCons (eVar 2) aNil))) (aCons (eCallP f_ahead_of (aCons (eVar 0) (aCons (eVar 2) aNil))) aNil))))) (sRet (eC (.bl false))) sNx) (sSeq (sIf (tNotD (tTru (eCallP f__law_like (aCons (eCallP f_nil_ahead_of (aCons (eVar 1) (aCons (eVar 2) aNil))) (aCons (eCallP f_nil_of (aCons (eVar 0) (aCons (eVar 2) aNil))) aNil))))) (sRet (eC (.bl false))) sNx) (sSeq (sPar 3 4 (eCallP f_next_of (aCons (eVar 0) (aCons (eVar 2) aNil))) (eCallP f_nil_of (aCons (eVar 0) (aCons (eVar 2) aNil)))) (sSeq (sIf (tAndD (tOf (eOp opNotN (eVar 3) (eC .non))) (tNotD (tTru (eCallP f__law_like (aCons (eCallP f_ahead_of (aCons (eVar 0) (aCons (eVar 3) aNil))) (aCons (eVar 2) aNil)))))) (sRet (eC (.bl false))) sNx) (sIf (tAndD (tOf (eOp opNotN (eVar 4) (eC .non))) (tNotD (tTru (eCallP f__law_like (aCons (eCallP f_nil_ahead_of (aCons (eVar 0) (aCons (eVar 4) aNil))) (aCons (eVar 2) aNil)))))) (sRet (eC (.bl false))) sNx)))))) (sRet (eCallP f__law_plan_told (aCons (eVar 1) aNil))))))
def f__law_turned_told : List D → Store → R D := runF 1 5 b__law_turned_told
def b__law_hands_right : EvT := (sSeq (sAsg (eTup (aCons (eC (.int 1)) (aCons (eTup (aCons (eTup (aCons (eC (.int 0)) (aCons (eC (.int 0)) aNil))) aNil)) (aCons (eTup (aCons (eTup (aCons (eC (.int 0)) (aCons (eC (.int 0)) aNil))) aNil)) aNil)))) (tgN 0)) (sSeq (sAsg (eTup (aCons (eC (.int 2)) (aCons (eTup (aCons (eTup (aCons (eC (.int 0)) (aCons (eC (.int 1)) aNil))) (aCons (eTup (aCons (eC (.int 0)) (aCons (eC (.int 1)) aNil))) aNil))) (aCons (eTup aNil) aNil)))) (tgN 1)) (sSeq (sAsg (eTup (aCons (eC (.int 2)) (aCons (eTup (aCons (eTup (aCons (eC (.int 0)) (aCons (eC (.int 1)) aNil))) (aCons (eTup (aCons (eC (.int 1)) (aCons (eC (.int 0)) aNil))) aNil))) (aCons (eTup (aCons (eTup (aCons (eC (.int 0)) (aCons (eC (.int 1)) aNil))) (aCons (eTup (aCons (eC (.int 1)) (aCons (eC (.int 0)) aNil))) aNil))) aNil)))) (tgN 2)) (sSeq (sAsg (eTup (aCons (eC (.int 3)) (aCons (eTup (aCons (eTup (aCons (eC (.int 0)) (aCons (eC (.int 1)) aNil))) (aCons (eTup (aCons (eC (.int 1)) (aCons (eC (.int 2)) aNil))) aNil))) (aCons (eTup aNil) aNil)))) (tgN 3)) (sSeq (sAsg (eFrz (nLst (aCons (eCallP f_next_of (aCons (eVar 0) (aCons (eC (.int 0)) aNil))) (aCons (eCallP f_nil_of (aCons (eVar 0) (aCons (eC (.int 0)) aNil))) (aCons (eCallP f_nil_ahead_of (aCons (eVar 0) (aCons (eC (.int 0)) aNil))) (aCons (eCallP f_followers (aCons (eVar 0) (aCons (eC (.int 0)) aNil))) (aCons (eCallP f_from_point (aCons (eVar 0) (aCons (eC (.int 0)) aNil))) aNil))))))) (tgN 4)) (sSeq (sIf (tNotD (tTru (eCallP f__law_like (aCons (eVar 4) (aCons (eFrz (nLst (aCons (eC .non) (aCons (eC (.int 0)) (aCons (eC (.int 0)) (aCons (eTup aNil) (aCons (eTup (aCons (eUn opNeg (eC (.int 1))) (aCons (eC (.int 0)) aNil))) aNil))))))) aNil))))) (sRet (eC (.bl false))) sNx) (sSeq (sAsg (eFrz (nLst (aCons (eCallP f_mate_of (aCons (eVar 1) (aCons (eC (.int 0)) aNil))) (aCons (eCallP f_mate_of (aCons (eVar 1) (aCons (eUn opNeg (eC (.int 1))) aNil))) (aCons (eCallP f_followers (aCons (eVar 1) (aCons (eC (.int 0)) aNil))) (aCons (eCallP f_followers (aCons (eVar 1) (aCons (eUn opNeg (eC (.int 2))) aNil))) (aCons (eCallP f_ends_of (aCons (eVar 1) (aCons (eUn opNeg (eC (.int 1))) aNil))) aNil))))))) (tgN 4)) (sSeq (sIf (tNotD (tTru (eCallP f__law_like (aCons (eVar 4) (aCons (eFrz (nLst (aCons (eC (.int 1)) (aCons (eUn opNeg (eC (.int 2))) (aCons (eTup (aCons (eUn opNeg (eC (.int 2))) aNil)) (aCons (eTup (aCons (eC (.int 0)) aNil)) (aCons (eTup (aCons (eC (.int 1)) (aCons (eC (.int 0)) aNil))) aNil))))))) aNil))))) (sRet (eC (.bl false))) sNx) (sSeq (sAsg (eFrz (nLst (aCons (eCallP f_next_of (aCons (eVar 2) (aCons (eC (.int 0)) aNil))) (aCons (eCallP f_nil_of (aCons (eVar 2) (aCons (eC (.int 1)) aNil))) (aCons (eCallP f_followers (aCons (eVar 2) (aCons (eC (.int 0)) aNil))) (aCons (eCallP f_mate_of (aCons (eVar 2) (aCons (eC (.int 0)) aNil))) (aCons (eCallP f_from_point (aCons (eVar 2) (aCons (eC (.int 1)) aNil))) aNil))))))) (tgN 4)) (sSeq (sIf (tNotD (tTru (eCallP f__law_like (aCons (eVar 4) (aCons (eFrz (nLst (aCons (eC .non) (aCons (eC (.int 0)) (aCons (eTup aNil) (aCons (eC .non) (aCons (eTup (aCons (eUn opNeg (eC (.int 1))) (aCons (eC (.int 1)) aNil))) aNil))))))) aNil))))) (sRet (eC (.bl false))) sNx) (sSeq (sAsg (eFrz (nLst (aCons (eCallP f_next_of (aCons (eVar 3) (aCons (eC (.int 0)) aNil))) (aCons (eCallP f_ahead_of (aCons (eVar 3) (aCons (eC (.int 1)) aNil))) (aCons (eCallP f_followers (aCons (eVar 3) (aCons (eC (.int 0)) aNil))) (aCons (eCallP f_followers (aCons (eVar 3) (aCons (eUn opNeg (eC (.int 2))) aNil))) (aCons (eCallP f_ahead_of (aCons (eVar 3) (aCons (eC (.int 0)) aNil))) aNil))))))) (tgN 4)) (sRet (eCallP f__law_like (aCons (eVar 4) (aCons (eFrz (nLst (aCons (eC (.int 1)) (aCons (eC (.int 0)) (aCons (eTup (aCons (eC (.int 1)) aNil)) (aCons (eTup (aCons (eUn opNeg (eC (.int 1))) aNil)) (aCons (eC .non) aNil))))))) aNil)))))))))))))))
def f__law_hands_right : List D → Store → R D := runF 0 5 b__law_hands_right
def b_law : EvT := (sSeq (sIf (tNotD (tTru (eCall0 f__law_hands_right))) (sRet (eC (.bl false))) sNx) (sSeq (sFor 1000 (iRg1 (eCallB opmax (aCons (eC (.int 2)) (aCons (eCallB opmin (aCons (eCallB opLen (aCons (eVar 0) aNil)) (aCons (eC (.int 4)) aNil))) aNil)))) (tgN 1) (sSeq (sAsg (eCallR f__law_begun (aCons (eVar 0) (aCons (eVar 1) aNil))) (tgN 2)) (sSeq (sAsg (eCallT f__law_plan (aCons (eVar 2) (aCons (eC (.int 6)) aNil))) (tgN 3)) (sSeq (sIf (tOrD (tNotD (tTru (eCallP f__law_plan_told (aCons (eVar 3) aNil)))) (tNotD (tTru (eCallP f__law_turned_told (aCons (eVar 3) aNil))))) (sRet (eC (.bl false))) sNx) (sSeq (sPar 4 5 (eCallT f__law_shuffled (aCons (eVar 2) (aCons (eOp opIx (eVar 3) (eC (.int 0))) aNil))) (eCallT f__law_shuffled (aCons (eVar 2) (aCons (eCallB opLen (aCons (eOp opIx (eVar 3) (eC (.int 1))) aNil)) aNil)))) (sIf (tOrD (tNotD (tTru (eCallP f__law_plan_told (aCons (eCallP f__law_renamed (aCons (eVar 3) (aCons (eVar 4) (aCons (eVar 5) aNil)))) aNil)))) (tNotD (tTru (eCallP f__law_plan_told (aCons (eVar 3) aNil))))) (sRet (eC (.bl false))) sNx)))))) (sRet (eC (.bl true)))))
def f_law : List D → Store → R D := runF 1 6 b_law
end FK

set_option Elab.async false
set_option linter.all false
set_option maxRecDepth 100000
set_option maxHeartbeats 4000000
namespace FK
open PySem PySem.Spec PyProof.Rows L2 DL HeadK
section
variable {P : Program} {w : World} {K : PySem.W.Frag} {mg : PySem.Str → Option Value} {base : Heap} {W : Wd}
theorem sc_ends_of : FnScope ["plan", "letter", "begin", "end"] ["plan", "letter"] (defScope s_ends_of) := ⟨rfl, rfl, rfl, by decide +kernel, rfl, by decide +kernel, by decide +kernel⟩
theorem ok_ends_of {fd : FuncData} (F : FunD K "ends_of" "ends_of" (defArgs s_ends_of) (defBody s_ends_of) (defScope s_ends_of) [] [] (W.F 0) fd) (hm : mg "ends_of" = some (.ref (W.F 0))) :
    Cal P w K mg base (L2.CX P w) W 1 "ends_of" 0 2 f_ends_of :=
  ⟨fd, ["plan", "letter"], gokD F sc_ends_of fun cdv B up z H E fr => 
      (dss_cons (ds_if (dt_cmp (op_geP fr.r.units) od_ge (de_var (i := 1) rfl (Or.inl rfl)) de_int) (dss_one (ds_ret (de_ix (de_ix (de_var (i := 0) rfl (Or.inl rfl)) de_int) (de_var (i := 1) rfl (Or.inl rfl))))) dss_nil)
      (dss_cons (ds_asg (de_ix (de_ix (de_var (i := 0) rfl (Or.inl rfl)) de_int) (de_sub (de_neg de_int) (de_var (i := 1) rfl (Or.inl rfl)))) (dg_tup rfl (dgs_cons (dg_name (i := 2) sc_ends_of.nd rfl (Or.inl rfl)) (dgs_cons (dg_name (i := 3) sc_ends_of.nd rfl (Or.inl rfl)) dgs_nil))))
      (dss_one (ds_ret (de_tup (da_cons (de_var (i := 3) rfl (Or.inl rfl)) (da_cons (de_var (i := 2) rfl (Or.inl rfl)) da_nil))))))), hm, F.kp, F.bindsN fun _ _ _ _ _ _ us hl => match us, hl with | [_, _], _ => rfl⟩
theorem sc_next_of : FnScope ["plan", "arrow", "end", "other", "ends"] ["plan", "arrow"] (defScope s_next_of) := ⟨rfl, rfl, rfl, by decide +kernel, rfl, by decide +kernel, by decide +kernel⟩
theorem ok_next_of {fd : FuncData} (F : FunD K "next_of" "next_of" (defArgs s_next_of) (defBody s_next_of) (defScope s_next_of) [] [] (W.F 1) fd) (hm : mg "next_of" = some (.ref (W.F 1))) (g_enumerate : mg "enumerate" = none) :
    Cal P w K mg base (L2.CX P w) W 1 "next_of" 1 2 f_next_of :=
  ⟨fd, ["plan", "arrow"], gokD F sc_next_of fun cdv B up z H E fr => 
      (dss_cons (ds_set (i := 2) sc_next_of.nd rfl (Or.inl rfl) (de_ix (de_ix (de_ix (de_var (i := 0) rfl (Or.inl rfl)) de_int) (de_var (i := 1) rfl (Or.inl rfl))) de_int))
      (dss_cons (ds_for pown rfl (di_enum rfl g_enumerate (de_ix (de_var (i := 0) rfl (Or.inl rfl)) de_int)) (dg_tup rfl (dgs_cons (dg_name (i := 3) sc_next_of.nd rfl (Or.inl rfl)) (dgs_cons (dg_name (i := 4) sc_next_of.nd rfl (Or.inl rfl)) dgs_nil))) (dss_one (ds_if (dw_pt (dw_and (dt_cmp (op_eqP fr.r.units) od_eq (de_ix (de_var (i := 4) rfl (Or.inl rfl)) de_int) (de_var (i := 2) rfl (Or.inl rfl))) (dw_and1 (dt_cmp (op_notInP fr.r.units) od_notIn (de_tup (da_cons (de_var (i := 1) rfl (Or.inl rfl)) (da_cons (de_var (i := 3) rfl (Or.inl rfl)) da_nil))) (de_ix (de_var (i := 0) rfl (Or.inl rfl)) de_int))))) (dss_one (ds_ret (de_var (i := 3) rfl (Or.inl rfl)))) dss_nil)))
      (dss_one (ds_ret de_non)))), hm, F.kp, F.bindsN fun _ _ _ _ _ _ us hl => match us, hl with | [_, _], _ => rfl⟩
theorem sc_nil_of : FnScope ["plan", "arrow", "one", "other"] ["plan", "arrow"] (defScope s_nil_of) := ⟨rfl, rfl, rfl, by decide +kernel, rfl, by decide +kernel, by decide +kernel⟩
theorem ok_nil_of {fd : FuncData} (F : FunD K "nil_of" "nil_of" (defArgs s_nil_of) (defBody s_nil_of) (defScope s_nil_of) [] [] (W.F 2) fd) (hm : mg "nil_of" = some (.ref (W.F 2))) :
    Cal P w K mg base (L2.CX P w) W 1 "nil_of" 2 2 f_nil_of :=
  ⟨fd, ["plan", "arrow"], gokD F sc_nil_of fun cdv B up z H E fr => 
      (dss_cons (ds_for pown rfl (di_seq (de_ix (de_var (i := 0) rfl (Or.inl rfl)) de_int)) (dg_tup rfl (dgs_cons (dg_name (i := 2) sc_nil_of.nd rfl (Or.inl rfl)) (dgs_cons (dg_name (i := 3) sc_nil_of.nd rfl (Or.inl rfl)) dgs_nil))) (dss_one (ds_if (dt_cmp (op_eqP fr.r.units) od_eq (de_var (i := 2) rfl (Or.inl rfl)) (de_var (i := 1) rfl (Or.inl rfl))) (dss_one (ds_ret (de_var (i := 3) rfl (Or.inl rfl)))) dss_nil)))
      (dss_one (ds_ret de_non))), hm, F.kp, F.bindsN fun _ _ _ _ _ _ us hl => match us, hl with | [_, _], _ => rfl⟩
theorem sc_ahead_of : FnScope ["plan", "arrow", "begin", "other", "ends"] ["plan", "arrow"] (defScope s_ahead_of) := ⟨rfl, rfl, rfl, by decide +kernel, rfl, by decide +kernel, by decide +kernel⟩
theorem ok_ahead_of {fd : FuncData} (F : FunD K "ahead_of" "ahead_of" (defArgs s_ahead_of) (defBody s_ahead_of) (defScope s_ahead_of) [] [] (W.F 3) fd) (hm : mg "ahead_of" = some (.ref (W.F 3))) (g_enumerate : mg "enumerate" = none) :
    Cal P w K mg base (L2.CX P w) W 1 "ahead_of" 3 2 f_ahead_of :=
  ⟨fd, ["plan", "arrow"], gokD F sc_ahead_of fun cdv B up z H E fr => 
      (dss_cons (ds_set (i := 2) sc_ahead_of.nd rfl (Or.inl rfl) (de_ix (de_ix (de_ix (de_var (i := 0) rfl (Or.inl rfl)) de_int) (de_var (i := 1) rfl (Or.inl rfl))) de_int))
      (dss_cons (ds_for pown rfl (di_enum rfl g_enumerate (de_ix (de_var (i := 0) rfl (Or.inl rfl)) de_int)) (dg_tup rfl (dgs_cons (dg_name (i := 3) sc_ahead_of.nd rfl (Or.inl rfl)) (dgs_cons (dg_name (i := 4) sc_ahead_of.nd rfl (Or.inl rfl)) dgs_nil))) (dss_one (ds_if (dw_pt (dw_and (dt_cmp (op_eqP fr.r.units) od_eq (de_ix (de_var (i := 4) rfl (Or.inl rfl)) de_int) (de_var (i := 2) rfl (Or.inl rfl))) (dw_and1 (dt_cmp (op_notInP fr.r.units) od_notIn (de_tup (da_cons (de_var (i := 3) rfl (Or.inl rfl)) (da_cons (de_var (i := 1) rfl (Or.inl rfl)) da_nil))) (de_ix (de_var (i := 0) rfl (Or.inl rfl)) de_int))))) (dss_one (ds_ret (de_var (i := 3) rfl (Or.inl rfl)))) dss_nil)))
      (dss_one (ds_ret de_non)))), hm, F.kp, F.bindsN fun _ _ _ _ _ _ us hl => match us, hl with | [_, _], _ => rfl⟩
theorem sc_nil_ahead_of : FnScope ["plan", "arrow", "one", "other"] ["plan", "arrow"] (defScope s_nil_ahead_of) := ⟨rfl, rfl, rfl, by decide +kernel, rfl, by decide +kernel, by decide +kernel⟩
theorem ok_nil_ahead_of {fd : FuncData} (F : FunD K "nil_ahead_of" "nil_ahead_of" (defArgs s_nil_ahead_of) (defBody s_nil_ahead_of) (defScope s_nil_ahead_of) [] [] (W.F 4) fd) (hm : mg "nil_ahead_of" = some (.ref (W.F 4))) :
    Cal P w K mg base (L2.CX P w) W 1 "nil_ahead_of" 4 2 f_nil_ahead_of :=
  ⟨fd, ["plan", "arrow"], gokD F sc_nil_ahead_of fun cdv B up z H E fr => 
      (dss_cons (ds_for pown rfl (di_seq (de_ix (de_var (i := 0) rfl (Or.inl rfl)) de_int)) (dg_tup rfl (dgs_cons (dg_name (i := 2) sc_nil_ahead_of.nd rfl (Or.inl rfl)) (dgs_cons (dg_name (i := 3) sc_nil_ahead_of.nd rfl (Or.inl rfl)) dgs_nil))) (dss_one (ds_if (dt_cmp (op_eqP fr.r.units) od_eq (de_var (i := 3) rfl (Or.inl rfl)) (de_var (i := 1) rfl (Or.inl rfl))) (dss_one (ds_ret (de_var (i := 2) rfl (Or.inl rfl)))) dss_nil)))
      (dss_one (ds_ret de_non))), hm, F.kp, F.bindsN fun _ _ _ _ _ _ us hl => match us, hl with | [_, _], _ => rfl⟩
theorem sc_other_begun : FnScope ["plan", "arrow", "other", "ends"] ["plan", "arrow"] (defScope s_other_begun) := ⟨rfl, rfl, rfl, by decide +kernel, rfl, by decide +kernel, by decide +kernel⟩
theorem ok_other_begun {fd : FuncData} (F : FunD K "other_begun" "other_begun" (defArgs s_other_begun) (defBody s_other_begun) (defScope s_other_begun) [] [] (W.F 5) fd) (hm : mg "other_begun" = some (.ref (W.F 5))) (g_enumerate : mg "enumerate" = none) :
    Cal P w K mg base (L2.CX P w) W 1 "other_begun" 5 2 f_other_begun :=
  ⟨fd, ["plan", "arrow"], gokD F sc_other_begun fun cdv B up z H E fr => 
      (dss_cons (ds_for pown rfl (di_enum rfl g_enumerate (de_ix (de_var (i := 0) rfl (Or.inl rfl)) de_int)) (dg_tup rfl (dgs_cons (dg_name (i := 2) sc_other_begun.nd rfl (Or.inl rfl)) (dgs_cons (dg_name (i := 3) sc_other_begun.nd rfl (Or.inl rfl)) dgs_nil))) (dss_one (ds_if (dw_pt (dw_and (dt_cmp (op_neP fr.r.units) od_ne (de_var (i := 2) rfl (Or.inl rfl)) (de_var (i := 1) rfl (Or.inl rfl))) (dw_and1 (dt_cmp (op_eqP fr.r.units) od_eq (de_ix (de_var (i := 3) rfl (Or.inl rfl)) de_int) (de_ix (de_ix (de_ix (de_var (i := 0) rfl (Or.inl rfl)) de_int) (de_var (i := 1) rfl (Or.inl rfl))) de_int))))) (dss_one (ds_ret (de_var (i := 2) rfl (Or.inl rfl)))) dss_nil)))
      (dss_one (ds_ret de_non))), hm, F.kp, F.bindsN fun _ _ _ _ _ _ us hl => match us, hl with | [_, _], _ => rfl⟩
theorem sc_other_ended : FnScope ["plan", "arrow", "other", "ends"] ["plan", "arrow"] (defScope s_other_ended) := ⟨rfl, rfl, rfl, by decide +kernel, rfl, by decide +kernel, by decide +kernel⟩
theorem ok_other_ended {fd : FuncData} (F : FunD K "other_ended" "other_ended" (defArgs s_other_ended) (defBody s_other_ended) (defScope s_other_ended) [] [] (W.F 6) fd) (hm : mg "other_ended" = some (.ref (W.F 6))) (g_enumerate : mg "enumerate" = none) :
    Cal P w K mg base (L2.CX P w) W 1 "other_ended" 6 2 f_other_ended :=
  ⟨fd, ["plan", "arrow"], gokD F sc_other_ended fun cdv B up z H E fr => 
      (dss_cons (ds_for pown rfl (di_enum rfl g_enumerate (de_ix (de_var (i := 0) rfl (Or.inl rfl)) de_int)) (dg_tup rfl (dgs_cons (dg_name (i := 2) sc_other_ended.nd rfl (Or.inl rfl)) (dgs_cons (dg_name (i := 3) sc_other_ended.nd rfl (Or.inl rfl)) dgs_nil))) (dss_one (ds_if (dw_pt (dw_and (dt_cmp (op_neP fr.r.units) od_ne (de_var (i := 2) rfl (Or.inl rfl)) (de_var (i := 1) rfl (Or.inl rfl))) (dw_and1 (dt_cmp (op_eqP fr.r.units) od_eq (de_ix (de_var (i := 3) rfl (Or.inl rfl)) de_int) (de_ix (de_ix (de_ix (de_var (i := 0) rfl (Or.inl rfl)) de_int) (de_var (i := 1) rfl (Or.inl rfl))) de_int))))) (dss_one (ds_ret (de_var (i := 2) rfl (Or.inl rfl)))) dss_nil)))
      (dss_one (ds_ret de_non))), hm, F.kp, F.bindsN fun _ _ _ _ _ _ us hl => match us, hl with | [_, _], _ => rfl⟩
theorem sc_mate_of : FnScope ["plan", "letter", "other"] ["plan", "letter"] (defScope s_mate_of) := ⟨rfl, rfl, rfl, by decide +kernel, rfl, by decide +kernel, by decide +kernel⟩
theorem ok_mate_of {fd : FuncData} (F : FunD K "mate_of" "mate_of" (defArgs s_mate_of) (defBody s_mate_of) (defScope s_mate_of) [] [] (W.F 7) fd) (hm : mg "mate_of" = some (.ref (W.F 7))) (c_other_begun : Cal P w K mg base (L2.CX P w) W 1 "other_begun" 5 2 f_other_begun) (c_other_ended : Cal P w K mg base (L2.CX P w) W 1 "other_ended" 6 2 f_other_ended) :
    Cal P w K mg base (L2.CX P w) W 2 "mate_of" 7 2 f_mate_of :=
  ⟨fd, ["plan", "letter"], gokD F sc_mate_of fun cdv B up z H E fr => 
      (dss_cons (ds_if (dt_cmp (op_geP fr.r.units) od_ge (de_var (i := 1) rfl (Or.inl rfl)) de_int) (dss_one (ds_ret (de_callP c_other_begun fr px rfl (da_cons (de_var (i := 0) rfl (Or.inl rfl)) (da_cons (de_var (i := 1) rfl (Or.inl rfl)) da_nil)) (hlen := (len_cons (len_cons len_nil)))))) dss_nil)
      (dss_cons (ds_set (i := 2) sc_mate_of.nd rfl (Or.inl rfl) (de_callP c_other_ended fr px rfl (da_cons (de_var (i := 0) rfl (Or.inl rfl)) (da_cons (de_sub (de_neg de_int) (de_var (i := 1) rfl (Or.inl rfl))) da_nil)) (hlen := (len_cons (len_cons len_nil)))))
      (dss_one (ds_ret (de_if (dt_cmp op_isN od_isN (de_var (i := 2) rfl (Or.inl rfl)) de_non) de_non (de_sub (de_neg de_int) (de_var (i := 2) rfl (Or.inl rfl)))))))), hm, F.kp, F.bindsN fun _ _ _ _ _ _ us hl => match us, hl with | [_, _], _ => rfl⟩
theorem sc_followers : FnScope ["plan", "letter", "along", "against", "found"] ["plan", "letter"] (defScope s_followers) := ⟨rfl, rfl, rfl, by decide +kernel, rfl, by decide +kernel, by decide +kernel⟩
theorem ok_followers {fd : FuncData} (F : FunD K "followers" "followers" (defArgs s_followers) (defBody s_followers) (defScope s_followers) [] [] (W.F 8) fd) (hm : mg "followers" = some (.ref (W.F 8))) (g_tuple : mg "tuple" = none) (c_next_of : Cal P w K mg base (L2.CX P w) W 1 "next_of" 1 2 f_next_of) (c_other_ended : Cal P w K mg base (L2.CX P w) W 1 "other_ended" 6 2 f_other_ended) (c_other_begun : Cal P w K mg base (L2.CX P w) W 1 "other_begun" 5 2 f_other_begun) (c_ahead_of : Cal P w K mg base (L2.CX P w) W 1 "ahead_of" 3 2 f_ahead_of) :
    Cal P w K mg base (L2.CX P w) W 2 "followers" 8 2 f_followers :=
  ⟨fd, ["plan", "letter"], gokD F sc_followers fun cdv B up z H E fr => 
      (dss_cons (ds_if (dt_cmp (op_geP fr.r.units) od_ge (de_var (i := 1) rfl (Or.inl rfl)) de_int) (dss_one (ds_par (i := 2) (j := 3) rfl sc_followers.nd rfl rfl (by decide) rfl rfl (de_callP c_next_of fr px rfl (da_cons (de_var (i := 0) rfl (Or.inl rfl)) (da_cons (de_var (i := 1) rfl (Or.inl rfl)) da_nil)) (hlen := (len_cons (len_cons len_nil)))) (de_callP c_other_ended fr px rfl (da_cons (de_var (i := 0) rfl (Or.inl rfl)) (da_cons (de_var (i := 1) rfl (Or.inl rfl)) da_nil)) (hlen := (len_cons (len_cons len_nil)))) rfl)) (dss_one (ds_par (i := 2) (j := 3) rfl sc_followers.nd rfl rfl (by decide) rfl rfl (de_callP c_other_begun fr px rfl (da_cons (de_var (i := 0) rfl (Or.inl rfl)) (da_cons (de_sub (de_neg de_int) (de_var (i := 1) rfl (Or.inl rfl))) da_nil)) (hlen := (len_cons (len_cons len_nil)))) (de_callP c_ahead_of fr px rfl (da_cons (de_var (i := 0) rfl (Or.inl rfl)) (da_cons (de_sub (de_neg de_int) (de_var (i := 1) rfl (Or.inl rfl))) da_nil)) (hlen := (len_cons (len_cons len_nil)))) rfl)))
      (dss_cons (ds_set (i := 4) sc_followers.nd rfl (Or.inl rfl) (de_if (dt_cmp op_isN od_isN (de_var (i := 3) rfl (Or.inl rfl)) de_non) (de_frz (dn_lst da_nil)) (de_frz (dn_lst (da_cons (de_sub (de_neg de_int) (de_var (i := 3) rfl (Or.inl rfl))) da_nil)))))
      (dss_one (ds_ret (de_callTy call_tuple_of cd_tuple rfl g_tuple boot_tuple (da_cons (de_add (de_var (i := 4) rfl (Or.inl rfl)) (de_if (dt_cmp op_isN od_isN (de_var (i := 2) rfl (Or.inl rfl)) de_non) (de_frz (dn_lst da_nil)) (de_frz (dn_lst (da_cons (de_var (i := 2) rfl (Or.inl rfl)) da_nil))))) da_nil)))))), hm, F.kp, F.bindsN fun _ _ _ _ _ _ us hl => match us, hl with | [_, _], _ => rfl⟩
theorem sc_may_follow : FnScope ["plan", "letter", "other"] ["plan", "letter", "other"] (defScope s_may_follow) := ⟨rfl, rfl, rfl, by decide +kernel, rfl, by decide +kernel, by decide +kernel⟩
theorem ok_may_follow {fd : FuncData} (F : FunD K "may_follow" "may_follow" (defArgs s_may_follow) (defBody s_may_follow) (defScope s_may_follow) [] [] (W.F 9) fd) (hm : mg "may_follow" = some (.ref (W.F 9))) (c_followers : Cal P w K mg base (L2.CX P w) W 2 "followers" 8 2 f_followers) :
    Cal P w K mg base (L2.CX P w) W 3 "may_follow" 9 3 f_may_follow :=
  ⟨fd, ["plan", "letter", "other"], gokD F sc_may_follow fun cdv B up z H E fr => 
      (dss_one (ds_ret (de_cmp (op_inP fr.r.units) od_in (de_var (i := 2) rfl (Or.inl rfl)) (de_callP c_followers fr px rfl (da_cons (de_var (i := 0) rfl (Or.inl rfl)) (da_cons (de_var (i := 1) rfl (Or.inl rfl)) da_nil)) (hlen := (len_cons (len_cons len_nil))))))), hm, F.kp, F.bindsN fun _ _ _ _ _ _ us hl => match us, hl with | [_, _, _], _ => rfl⟩
theorem sc_from_point : FnScope ["plan", "point", "letters", "letter"] ["plan", "point"] (defScope s_from_point) := ⟨rfl, rfl, rfl, by decide +kernel, rfl, by decide +kernel, by decide +kernel⟩
theorem ok_from_point {fd : FuncData} (F : FunD K "from_point" "from_point" (defArgs s_from_point) (defBody s_from_point) (defScope s_from_point) [] [] (W.F 10) fd) (hm : mg "from_point" = some (.ref (W.F 10))) (g_len : mg "len" = none) (g_range : mg "range" = none) (g_tuple : mg "tuple" = none) (c_ends_of : Cal P w K mg base (L2.CX P w) W 1 "ends_of" 0 2 f_ends_of) :
    Cal P w K mg base (L2.CX P w) W 2 "from_point" 10 2 f_from_point :=
  ⟨fd, ["plan", "point"], gokD F sc_from_point fun cdv B up z H E fr => 
      (dss_cons (ds_set (i := 2) sc_from_point.nd rfl (Or.inl rfl) (de_callTy cr_range2 cd_rng rfl g_range PyProof.Rows.boot_range (da_cons (de_neg (de_callB call_len_seq cd_len rfl g_len boot_len (da_cons (de_ix (de_var (i := 0) rfl (Or.inr (Or.inl rfl))) de_int) da_nil))) (da_cons (de_callB call_len_seq cd_len rfl g_len boot_len (da_cons (de_ix (de_var (i := 0) rfl (Or.inr (Or.inl rfl))) de_int) da_nil)) da_nil))))
      (dss_one (ds_ret (de_callTy call_tuple_of cd_tuple rfl g_tuple boot_tuple (da_cons (de_frz (dn_lc (own := [("letter", 3)]) (is := [3]) rfl sc_from_point.nd (di_rngv (de_var (i := 2) rfl (Or.inl rfl))) (blkOk_by rfl) ⟨gName 3, fun _ _ _ _ _ => pg_name (i := 3) sc_from_point.nd rfl (Or.inl rfl), tr_name⟩ (fun _ _ _ _ _ => (dts_one (dt_cmp (op_eqP fr.r.units) od_eq (de_ix (de_callP c_ends_of fr passL rfl (da_cons (de_var (i := 0) rfl (Or.inr (Or.inl rfl))) (da_cons (de_var (i := 3) rfl (Or.inl rfl)) da_nil)) (hlen := (len_cons (len_cons len_nil)))) de_int) (de_var (i := 1) rfl (Or.inr (Or.inl rfl)))))) (fun _ _ _ _ _ => (de_var (i := 3) rfl (Or.inl rfl))) (by decide))) da_nil))))), hm, F.kp, F.bindsN fun _ _ _ _ _ _ us hl => match us, hl with | [_, _], _ => rfl⟩
theorem sc_turned_plan : FnScope ["plan", "size", "arrows", "noughts", "turned", "begin", "end", "one", "other"] ["plan"] (defScope s_turned_plan) := ⟨rfl, rfl, rfl, by decide +kernel, rfl, by decide +kernel, by decide +kernel⟩
theorem ok_turned_plan {fd : FuncData} (F : FunD K "turned_plan" "turned_plan" (defArgs s_turned_plan) (defBody s_turned_plan) (defScope s_turned_plan) [] [] (W.F 11) fd) (hm : mg "turned_plan" = some (.ref (W.F 11))) (g_sorted : mg "sorted" = none) (g_tuple : mg "tuple" = none) :
    Cal P w K mg base (L2.CX P w) W 1 "turned_plan" 11 1 f_turned_plan :=
  ⟨fd, ["plan"], gokD F sc_turned_plan fun cdv B up z H E fr => 
      (dss_cons (ds_asg (de_var (i := 0) rfl (Or.inl rfl)) (dg_tup rfl (dgs_cons (dg_name (i := 1) sc_turned_plan.nd rfl (Or.inl rfl)) (dgs_cons (dg_name (i := 2) sc_turned_plan.nd rfl (Or.inl rfl)) (dgs_cons (dg_name (i := 3) sc_turned_plan.nd rfl (Or.inl rfl)) dgs_nil)))))
      (dss_cons (ds_set (i := 4) sc_turned_plan.nd rfl (Or.inl rfl) (de_callTy call_tuple_of cd_tuple rfl g_tuple boot_tuple (da_cons (de_frz (dn_lc (own := [("begin", 5), ("end", 6)]) (is := [5, 6]) rfl sc_turned_plan.nd (di_seq (de_var (i := 2) rfl (Or.inl rfl))) (blkOk_by rfl) ⟨gTup _ 2 (gsOf [5, 6]), fun _ _ _ _ _ => pg_tup rfl (pgs_cons (pg_name (i := 5) sc_turned_plan.nd rfl (Or.inl rfl)) (pgs_cons (pg_name (i := 6) sc_turned_plan.nd rfl (Or.inl rfl)) pgs_nil)), tr_tup rfl⟩ (fun _ _ _ _ _ => dts_nil) (fun _ _ _ _ _ => (de_tup (da_cons (de_var (i := 6) rfl (Or.inl rfl)) (da_cons (de_var (i := 5) rfl (Or.inl rfl)) da_nil)))) (by decide))) da_nil)))
      (dss_one (ds_ret (de_tup (da_cons (de_var (i := 1) rfl (Or.inl rfl)) (da_cons (de_var (i := 4) rfl (Or.inl rfl)) (da_cons (de_callTy call_tuple_of cd_tuple rfl g_tuple boot_tuple (da_cons (de_frz (dn_callB (cr_sortB fr.r.units) cn_sortB rfl g_sorted PyProof.Rows.boot_sorted (da_cons (de_frz (dn_lc (own := [("one", 7), ("other", 8)]) (is := [7, 8]) rfl sc_turned_plan.nd (di_seq (de_var (i := 3) rfl (Or.inl rfl))) (blkOk_by rfl) ⟨gTup _ 2 (gsOf [7, 8]), fun _ _ _ _ _ => pg_tup rfl (pgs_cons (pg_name (i := 7) sc_turned_plan.nd rfl (Or.inl rfl)) (pgs_cons (pg_name (i := 8) sc_turned_plan.nd rfl (Or.inl rfl)) pgs_nil)), tr_tup rfl⟩ (fun _ _ _ _ _ => dts_nil) (fun _ _ _ _ _ => (de_tup (da_cons (de_var (i := 8) rfl (Or.inl rfl)) (da_cons (de_var (i := 7) rfl (Or.inl rfl)) da_nil)))) (by decide))) da_nil))) da_nil)) da_nil)))))))), hm, F.kp, F.bindsN fun _ _ _ _ _ _ us hl => match us, hl with | [_], _ => rfl⟩
theorem sc__law_begun : FnScope ["_law_script", "_law_k", "_law_cells", "_law_great", "_law_seed", "_law_cell"] ["_law_script", "_law_k"] (defScope s__law_begun) := ⟨rfl, rfl, rfl, by decide +kernel, rfl, by decide +kernel, by decide +kernel⟩
theorem ok__law_begun {fd : FuncData} (F : FunD K "_law_begun" "_law_begun" (defArgs s__law_begun) (defBody s__law_begun) (defScope s__law_begun) [] [] (W.F 12) fd) (hm : mg "_law_begun" = some (.ref (W.F 12))) (g_int : mg "int" = none) :
    Cal P w K mg base (L2.CX P w) W 1 "_law_begun" 12 2 f__law_begun :=
  ⟨fd, ["_law_script", "_law_k"], gokD F sc__law_begun fun cdv B up z H E fr => 
      (dss_cons (ds_set (i := 2) sc__law_begun.nd rfl (Or.inl rfl) (de_add (de_sl (de_var (i := 0) rfl (Or.inl rfl)) (do_some (de_var (i := 1) rfl (Or.inl rfl))) do_none) (de_sl (de_var (i := 0) rfl (Or.inl rfl)) do_none (do_some (de_var (i := 1) rfl (Or.inl rfl))))))
      (dss_cons (ds_setLc (i := 3) (own := [("_law_cell", 5)]) (is := [5]) (fun _ _ _ => lift_frz) rfl sc__law_begun.nd rfl rfl (sw_true rfl rfl rfl rfl) (di_seq (de_var (i := 2) rfl (Or.inl rfl))) (blkOk_by rfl) ⟨gName 5, fun _ _ _ _ _ => pg_name (i := 5) sc__law_begun.nd rfl (Or.inl rfl), tr_name⟩ (fun _ _ _ _ _ => (dts_one (dt_cmp (op_geP fr.r.units) od_ge (de_var (i := 5) rfl (Or.inl rfl)) (de_pow de_int de_int)))) (fun _ _ _ _ _ => (de_var (i := 5) rfl (Or.inl rfl))) (by decide))
      (dss_cons (ds_set (i := 4) sc__law_begun.nd rfl (Or.inl rfl) (de_add de_int (de_var (i := 1) rfl (Or.inl rfl))))
      (dss_cons (ds_for pown rfl (di_seq (de_var (i := 2) rfl (Or.inl rfl))) (dg_name (i := 5) sc__law_begun.nd rfl (Or.inl rfl)) (dss_one (ds_set (i := 4) sc__law_begun.nd rfl (Or.inl rfl) (de_mod (de_callTy call_int1 cd_int rfl g_int boot_int (da_cons (de_add (de_mul (de_var (i := 4) rfl (Or.inl rfl)) de_int) (de_var (i := 5) rfl (Or.inl rfl))) da_nil)) de_int))))
      (dss_one (ds_ret (de_dict (l := [((.inr "left"), (eIfE (tOf (eOp opNe (eVar 3) (eFrz (nLst aNil)))) (eOp opIx (eVar 3) (eC (.int 0))) (eC (.int 0)))), ((.inr "seed"), (eVar 4)), ((.inr "cells"), (eOp opAdd (eVar 2) (eFrz (nLst (aCons (eOp opAdd (eOp opMul (eC (.int 53)) (eVar 1)) (eC (.int 11))) aNil))))), ((.inr "spot"), (eC (.int 0)))]) (pps_cons pe_str (de_if (dt_cmp (op_neP fr.r.units) od_ne (de_var (i := 3) rfl (Or.inl rfl)) (de_frz (dn_lst da_nil))) (de_ix (de_var (i := 3) rfl (Or.inl rfl)) de_int) de_int) (pps_cons pe_str (de_var (i := 4) rfl (Or.inl rfl)) (pps_cons pe_str (de_add (de_var (i := 2) rfl (Or.inl rfl)) (de_frz (dn_lst (da_cons (de_add (de_mul de_int (de_var (i := 1) rfl (Or.inl rfl))) de_int) da_nil)))) (pps_cons pe_str de_int pps_nil))))))))))), hm, F.kp, F.bindsN fun _ _ _ _ _ _ us hl => match us, hl with | [_, _], _ => rfl⟩
theorem sc__law_draw : FnScope ["_law_m", "_law_bound", "_law_found", "_law_spot", "_law_cells", "_law_extra", "_law_cell", "_law_blend"] ["_law_m", "_law_bound"] (defScope s__law_draw) := ⟨rfl, rfl, rfl, by decide +kernel, rfl, by decide +kernel, by decide +kernel⟩
theorem ok__law_draw {fd : FuncData} (F : FunD K "_law_draw" "_law_draw" (defArgs s__law_draw) (defBody s__law_draw) (defScope s__law_draw) [] [] (W.F 13) fd) (hm : mg "_law_draw" = some (.ref (W.F 13))) (g_int : mg "int" = none) (g_len : mg "len" = none) :
    Cal P w K mg base (L2.CX P w) W 1 "_law_draw" 13 2 f__law_draw :=
  ⟨fd, ["_law_m", "_law_bound"], gokD F sc__law_draw fun cdv B up z H E fr => 
      (dss_cons (ds_if (dt_cmp (op_gtP fr.r.units) od_gt (de_dget fr.r.units1 (de_var (i := 0) rfl (Or.inl rfl)) de_str) de_int) (dss_cons (ds_set (i := 2) sc__law_draw.nd rfl (Or.inl rfl) (de_mod (de_callTy call_int1 cd_int rfl g_int boot_int (da_cons (de_dget fr.r.units1 (de_var (i := 0) rfl (Or.inl rfl)) de_str) da_nil)) (de_var (i := 1) rfl (Or.inl rfl))))
      (dss_cons (ds_dput fr.r.units1 (de_var (i := 0) rfl (Or.inl rfl)) de_str (de_fdiv (de_dget fr.r.units1 (de_var (i := 0) rfl (Or.inl rfl)) de_str) (de_var (i := 1) rfl (Or.inl rfl))))
      (dss_one (ds_ret (de_var (i := 2) rfl (Or.inl rfl)))))) dss_nil)
      (dss_cons (ds_set (i := 3) sc__law_draw.nd rfl (Or.inl rfl) (de_dget fr.r.units1 (de_var (i := 0) rfl (Or.inl rfl)) de_str))
      (dss_cons (ds_dput fr.r.units1 (de_var (i := 0) rfl (Or.inl rfl)) de_str (de_add (de_var (i := 3) rfl (Or.inl rfl)) de_int))
      (dss_cons (ds_par (i := 4) (j := 5) rfl sc__law_draw.nd rfl rfl (by decide) rfl rfl (de_dget fr.r.units1 (de_var (i := 0) rfl (Or.inl rfl)) de_str) (de_add (de_dget fr.r.units1 (de_var (i := 0) rfl (Or.inl rfl)) de_str) (de_mul (de_mul de_int (de_var (i := 3) rfl (Or.inl rfl))) (de_var (i := 3) rfl (Or.inl rfl)))) rfl)
      (dss_cons (ds_set (i := 6) sc__law_draw.nd rfl (Or.inl rfl) (de_ix (de_var (i := 4) rfl (Or.inl rfl)) (de_mod (de_callTy call_int1 cd_int rfl g_int boot_int (da_cons (de_var (i := 3) rfl (Or.inl rfl)) da_nil)) (de_callB call_len_seq cd_len rfl g_len boot_len (da_cons (de_var (i := 4) rfl (Or.inl rfl)) da_nil)))))
      (dss_cons (ds_set (i := 7) sc__law_draw.nd rfl (Or.inl rfl) (de_mod (de_callTy call_int1 cd_int rfl g_int boot_int (da_cons (de_add (de_mul (de_var (i := 6) rfl (Or.inl rfl)) (de_add (de_mul de_int (de_var (i := 3) rfl (Or.inl rfl))) de_int)) (de_var (i := 5) rfl (Or.inl rfl))) da_nil)) de_int))
      (dss_cons (ds_set (i := 7) sc__law_draw.nd rfl (Or.inl rfl) (de_mod (de_callTy call_int1 cd_int rfl g_int boot_int (da_cons (de_add (de_add (de_mul (de_var (i := 7) rfl (Or.inl rfl)) (de_var (i := 7) rfl (Or.inl rfl))) (de_mul de_int (de_var (i := 3) rfl (Or.inl rfl)))) (de_dget fr.r.units1 (de_var (i := 0) rfl (Or.inl rfl)) de_str)) da_nil)) de_int))
      (dss_one (ds_ret (de_mod (de_fdiv (de_mod (de_callTy call_int1 cd_int rfl g_int boot_int (da_cons (de_add (de_mul (de_var (i := 7) rfl (Or.inl rfl)) de_int) (de_var (i := 3) rfl (Or.inl rfl))) da_nil)) de_int) de_int) (de_var (i := 1) rfl (Or.inl rfl)))))))))))), hm, F.kp, F.bindsN fun _ _ _ _ _ _ us hl => match us, hl with | [_, _], _ => rfl⟩
theorem sc__law_of : FnScope ["_law_m", "_law_some"] ["_law_m", "_law_some"] (defScope s__law_of) := ⟨rfl, rfl, rfl, by decide +kernel, rfl, by decide +kernel, by decide +kernel⟩
theorem ok__law_of {fd : FuncData} (F : FunD K "_law_of" "_law_of" (defArgs s__law_of) (defBody s__law_of) (defScope s__law_of) [] [] (W.F 14) fd) (hm : mg "_law_of" = some (.ref (W.F 14))) (g_len : mg "len" = none) (c__law_draw : Cal P w K mg base (L2.CX P w) W 1 "_law_draw" 13 2 f__law_draw) :
    Cal P w K mg base (L2.CX P w) W 2 "_law_of" 14 2 f__law_of :=
  ⟨fd, ["_law_m", "_law_some"], gokD F sc__law_of fun cdv B up z H E fr => 
      (dss_one (ds_ret (de_ix (de_var (i := 1) rfl (Or.inl rfl)) (de_callT c__law_draw fr px rfl (da_cons (de_var (i := 0) rfl (Or.inl rfl)) (da_cons (de_callB call_len_seq cd_len rfl g_len boot_len (da_cons (de_var (i := 1) rfl (Or.inl rfl)) da_nil)) da_nil)) (hlen := (len_cons (len_cons len_nil))))))), hm, F.kp, F.bindsN fun _ _ _ _ _ _ us hl => match us, hl with | [_, _], _ => rfl⟩
theorem sc__law_like : FnScope ["_law_told", "_law_due"] ["_law_told", "_law_due"] (defScope s__law_like) := ⟨rfl, rfl, rfl, by decide +kernel, rfl, by decide +kernel, by decide +kernel⟩
theorem ok__law_like {fd : FuncData} (F : FunD K "_law_like" "_law_like" (defArgs s__law_like) (defBody s__law_like) (defScope s__law_like) [] [] (W.F 15) fd) (hm : mg "_law_like" = some (.ref (W.F 15))) (g_repr : mg "repr" = none) :
    Cal P w K mg base (L2.CX P w) W 1 "_law_like" 15 2 f__law_like :=
  ⟨fd, ["_law_told", "_law_due"], gokD F sc__law_like fun cdv B up z H E fr => 
      (dss_one (ds_ret (de_like fr.g fr.r.units rfl g_repr (de_var (i := 0) rfl (Or.inl rfl)) (de_var (i := 1) rfl (Or.inl rfl))))), hm, F.kp, F.bindsN fun _ _ _ _ _ _ us hl => match us, hl with | [_, _], _ => rfl⟩
theorem sc__law_shuffled : FnScope ["_law_m", "_law_count", "_law_left", "_law_found", "_law_k", "_law_one", "_law_other"] ["_law_m", "_law_count"] (defScope s__law_shuffled) := ⟨rfl, rfl, rfl, by decide +kernel, rfl, by decide +kernel, by decide +kernel⟩
theorem ok__law_shuffled {fd : FuncData} (F : FunD K "_law_shuffled" "_law_shuffled" (defArgs s__law_shuffled) (defBody s__law_shuffled) (defScope s__law_shuffled) [] [] (W.F 16) fd) (hm : mg "_law_shuffled" = some (.ref (W.F 16))) (g_list : mg "list" = none) (g_range : mg "range" = none) (g_tuple : mg "tuple" = none) (c__law_of : Cal P w K mg base (L2.CX P w) W 2 "_law_of" 14 2 f__law_of) :
    Cal P w K mg base (L2.CX P w) W 3 "_law_shuffled" 16 2 f__law_shuffled :=
  ⟨fd, ["_law_m", "_law_count"], gokD F sc__law_shuffled fun cdv B up z H E fr => 
      (dss_cons (ds_par (i := 2) (j := 3) rfl sc__law_shuffled.nd rfl rfl (by decide) rfl rfl (de_frz (dn_listRg rfl rfl g_list (dr_1 rfl g_range (de_var (i := 1) rfl (Or.inl rfl))))) (de_new (dn_lst da_nil)) rfl)
      (dss_cons (ds_for pown rfl (di_rg1 rfl g_range (de_var (i := 1) rfl (Or.inl rfl))) (dg_name (i := 4) sc__law_shuffled.nd rfl (Or.inl rfl)) (dss_cons (ds_set (i := 5) sc__law_shuffled.nd rfl (Or.inr rfl) (de_callT c__law_of fr px rfl (da_cons (de_var (i := 0) rfl (Or.inl rfl)) (da_cons (de_var (i := 2) rfl (Or.inl rfl)) da_nil)) (hlen := (len_cons (len_cons len_nil)))))
      (dss_cons (ds_setLc (i := 2) (own := [("_law_other", 6)]) (is := [6]) (fun _ _ _ => lift_frz) rfl sc__law_shuffled.nd rfl rfl (sw_true rfl rfl rfl rfl) (di_seq (de_var (i := 2) rfl (Or.inl rfl))) (blkOk_by rfl) ⟨gName 6, fun _ _ _ _ _ => pg_name (i := 6) sc__law_shuffled.nd rfl (Or.inl rfl), tr_name⟩ (fun _ _ _ _ _ => (dts_one (dt_cmp (op_neP fr.r.units) od_ne (de_var (i := 6) rfl (Or.inl rfl)) (de_var (i := 5) rfl (Or.inr (Or.inl rfl)))))) (fun _ _ _ _ _ => (de_var (i := 6) rfl (Or.inl rfl))) (by decide))
      (dss_one (ds_expr (de_append (de_var (i := 3) rfl (Or.inl rfl)) (de_var (i := 5) rfl (Or.inr (Or.inl rfl)))))))))
      (dss_one (ds_ret (de_callTy call_tuple_of cd_tuple rfl g_tuple boot_tuple (da_cons (de_var (i := 3) rfl (Or.inl rfl)) da_nil)))))), hm, F.kp, F.bindsN fun _ _ _ _ _ _ us hl => match us, hl with | [_, _], _ => rfl⟩
theorem sc__law_ends : FnScope ["_law_plan_here", "_law_letter", "_law_begin", "_law_end"] ["_law_plan_here", "_law_letter"] (defScope s__law_ends) := ⟨rfl, rfl, rfl, by decide +kernel, rfl, by decide +kernel, by decide +kernel⟩
theorem ok__law_ends {fd : FuncData} (F : FunD K "_law_ends" "_law_ends" (defArgs s__law_ends) (defBody s__law_ends) (defScope s__law_ends) [] [] (W.F 17) fd) (hm : mg "_law_ends" = some (.ref (W.F 17))) :
    Cal P w K mg base (L2.CX P w) W 1 "_law_ends" 17 2 f__law_ends :=
  ⟨fd, ["_law_plan_here", "_law_letter"], gokD F sc__law_ends fun cdv B up z H E fr => 
      (dss_cons (ds_asg (de_ix (de_ix (de_var (i := 0) rfl (Or.inl rfl)) de_int) (de_if (dt_cmp (op_geP fr.r.units) od_ge (de_var (i := 1) rfl (Or.inl rfl)) de_int) (de_var (i := 1) rfl (Or.inl rfl)) (de_sub (de_neg de_int) (de_var (i := 1) rfl (Or.inl rfl))))) (dg_tup rfl (dgs_cons (dg_name (i := 2) sc__law_ends.nd rfl (Or.inl rfl)) (dgs_cons (dg_name (i := 3) sc__law_ends.nd rfl (Or.inl rfl)) dgs_nil))))
      (dss_one (ds_ret (de_if (dt_cmp (op_geP fr.r.units) od_ge (de_var (i := 1) rfl (Or.inl rfl)) de_int) (de_tup (da_cons (de_var (i := 2) rfl (Or.inl rfl)) (da_cons (de_var (i := 3) rfl (Or.inl rfl)) da_nil))) (de_tup (da_cons (de_var (i := 3) rfl (Or.inl rfl)) (da_cons (de_var (i := 2) rfl (Or.inl rfl)) da_nil))))))), hm, F.kp, F.bindsN fun _ _ _ _ _ _ us hl => match us, hl with | [_, _], _ => rfl⟩
theorem sc__law_may : FnScope ["_law_plan_here", "_law_one", "_law_other"] ["_law_plan_here", "_law_one", "_law_other"] (defScope s__law_may) := ⟨rfl, rfl, rfl, by decide +kernel, rfl, by decide +kernel, by decide +kernel⟩
theorem ok__law_may {fd : FuncData} (F : FunD K "_law_may" "_law_may" (defArgs s__law_may) (defBody s__law_may) (defScope s__law_may) [] [] (W.F 18) fd) (hm : mg "_law_may" = some (.ref (W.F 18))) (c__law_ends : Cal P w K mg base (L2.CX P w) W 1 "_law_ends" 17 2 f__law_ends) :
    Cal P w K mg base (L2.CX P w) W 2 "_law_may" 18 3 f__law_may :=
  ⟨fd, ["_law_plan_here", "_law_one", "_law_other"], gokD F sc__law_may fun cdv B up z H E fr => 
      (dss_cons (ds_if (dw_pt (dw_or (dt_cmp (op_neP fr.r.units) od_ne (de_ix (de_callP c__law_ends fr px rfl (da_cons (de_var (i := 0) rfl (Or.inl rfl)) (da_cons (de_var (i := 1) rfl (Or.inl rfl)) da_nil)) (hlen := (len_cons (len_cons len_nil)))) de_int) (de_ix (de_callP c__law_ends fr px rfl (da_cons (de_var (i := 0) rfl (Or.inl rfl)) (da_cons (de_var (i := 2) rfl (Or.inl rfl)) da_nil)) (hlen := (len_cons (len_cons len_nil)))) de_int)) (dw_or1 (dt_cmp (op_eqP fr.r.units) od_eq (de_var (i := 2) rfl (Or.inl rfl)) (de_sub (de_neg de_int) (de_var (i := 1) rfl (Or.inl rfl))))))) (dss_one (ds_ret de_bl)) dss_nil)
      (dss_cons (ds_if (dw_pt (dw_and (dt_cmp (op_geP fr.r.units) od_ge (de_var (i := 1) rfl (Or.inl rfl)) de_int) (dw_and1 (dt_cmp (op_geP fr.r.units) od_ge (de_var (i := 2) rfl (Or.inl rfl)) de_int)))) (dss_one (ds_ret (de_cmp (op_notInP fr.r.units) od_notIn (de_tup (da_cons (de_var (i := 1) rfl (Or.inl rfl)) (da_cons (de_var (i := 2) rfl (Or.inl rfl)) da_nil))) (de_ix (de_var (i := 0) rfl (Or.inl rfl)) de_int)))) dss_nil)
      (dss_cons (ds_if (dw_pt (dw_and (dt_cmp (op_ltP fr.r.units) od_lt (de_var (i := 1) rfl (Or.inl rfl)) de_int) (dw_and1 (dt_cmp (op_ltP fr.r.units) od_lt (de_var (i := 2) rfl (Or.inl rfl)) de_int)))) (dss_one (ds_ret (de_cmp (op_notInP fr.r.units) od_notIn (de_tup (da_cons (de_sub (de_neg de_int) (de_var (i := 2) rfl (Or.inl rfl))) (da_cons (de_sub (de_neg de_int) (de_var (i := 1) rfl (Or.inl rfl))) da_nil))) (de_ix (de_var (i := 0) rfl (Or.inl rfl)) de_int)))) dss_nil)
      (dss_one (ds_ret de_bl))))), hm, F.kp, F.bindsN fun _ _ _ _ _ _ us hl => match us, hl with | [_, _, _], _ => rfl⟩
theorem sc__law_after : FnScope ["_law_plan_here", "_law_one", "_law_count", "_law_other"] ["_law_plan_here", "_law_one"] (defScope s__law_after) := ⟨rfl, rfl, rfl, by decide +kernel, rfl, by decide +kernel, by decide +kernel⟩
theorem ok__law_after {fd : FuncData} (F : FunD K "_law_after" "_law_after" (defArgs s__law_after) (defBody s__law_after) (defScope s__law_after) [] [] (W.F 19) fd) (hm : mg "_law_after" = some (.ref (W.F 19))) (g_len : mg "len" = none) (g_range : mg "range" = none) (c__law_may : Cal P w K mg base (L2.CX P w) W 2 "_law_may" 18 3 f__law_may) :
    Cal P w K mg base (L2.CX P w) W 3 "_law_after" 19 2 f__law_after :=
  ⟨fd, ["_law_plan_here", "_law_one"], gokD F sc__law_after fun cdv B up z H E fr => 
      (dss_cons (ds_set (i := 2) sc__law_after.nd rfl (Or.inl rfl) (de_callB call_len_seq cd_len rfl g_len boot_len (da_cons (de_ix (de_var (i := 0) rfl (Or.inr (Or.inl rfl))) de_int) da_nil)))
      (dss_one (ds_ret (de_frz (dn_lc (own := [("_law_other", 3)]) (is := [3]) rfl sc__law_after.nd (di_rg2 rfl g_range (de_neg (de_var (i := 2) rfl (Or.inl rfl))) (de_var (i := 2) rfl (Or.inl rfl))) (blkOk_by rfl) ⟨gName 3, fun _ _ _ _ _ => pg_name (i := 3) sc__law_after.nd rfl (Or.inl rfl), tr_name⟩ (fun _ _ _ _ _ => (dts_one (dt_tru (de_callP c__law_may fr passL rfl (da_cons (de_var (i := 0) rfl (Or.inr (Or.inl rfl))) (da_cons (de_var (i := 1) rfl (Or.inr (Or.inl rfl))) (da_cons (de_var (i := 3) rfl (Or.inl rfl)) da_nil))) (hlen := (len_cons (len_cons (len_cons len_nil)))))))) (fun _ _ _ _ _ => (de_var (i := 3) rfl (Or.inl rfl))) (by decide)))))), hm, F.kp, F.bindsN fun _ _ _ _ _ _ us hl => match us, hl with | [_, _], _ => rfl⟩
theorem sc__law_next : FnScope ["_law_plan_here", "_law_arrow", "_law_found", "_law_other"] ["_law_plan_here", "_law_arrow"] (defScope s__law_next) := ⟨rfl, rfl, rfl, by decide +kernel, rfl, by decide +kernel, by decide +kernel⟩
theorem ok__law_next {fd : FuncData} (F : FunD K "_law_next" "_law_next" (defArgs s__law_next) (defBody s__law_next) (defScope s__law_next) [] [] (W.F 20) fd) (hm : mg "_law_next" = some (.ref (W.F 20))) (c__law_after : Cal P w K mg base (L2.CX P w) W 3 "_law_after" 19 2 f__law_after) :
    Cal P w K mg base (L2.CX P w) W 4 "_law_next" 20 2 f__law_next :=
  ⟨fd, ["_law_plan_here", "_law_arrow"], gokD F sc__law_next fun cdv B up z H E fr => 
      (dss_cons (ds_setLc (i := 2) (own := [("_law_other", 3)]) (is := [3]) (fun _ _ _ => lift_frz) rfl sc__law_next.nd rfl rfl (sw_true rfl rfl rfl rfl) (di_seq (de_callP c__law_after fr px rfl (da_cons (de_var (i := 0) rfl (Or.inl rfl)) (da_cons (de_var (i := 1) rfl (Or.inl rfl)) da_nil)) (hlen := (len_cons (len_cons len_nil))))) (blkOk_by rfl) ⟨gName 3, fun _ _ _ _ _ => pg_name (i := 3) sc__law_next.nd rfl (Or.inl rfl), tr_name⟩ (fun _ _ _ _ _ => (dts_one (dt_cmp (op_geP fr.r.units) od_ge (de_var (i := 3) rfl (Or.inl rfl)) de_int))) (fun _ _ _ _ _ => (de_var (i := 3) rfl (Or.inl rfl))) (by decide))
      (dss_one (ds_ret (de_if (dt_cmp (op_neP fr.r.units) od_ne (de_var (i := 2) rfl (Or.inl rfl)) (de_frz (dn_lst da_nil))) (de_ix (de_var (i := 2) rfl (Or.inl rfl)) de_int) de_non)))), hm, F.kp, F.bindsN fun _ _ _ _ _ _ us hl => match us, hl with | [_, _], _ => rfl⟩
theorem sc__law_nil : FnScope ["_law_plan_here", "_law_arrow", "_law_found", "_law_pair"] ["_law_plan_here", "_law_arrow"] (defScope s__law_nil) := ⟨rfl, rfl, rfl, by decide +kernel, rfl, by decide +kernel, by decide +kernel⟩
theorem ok__law_nil {fd : FuncData} (F : FunD K "_law_nil" "_law_nil" (defArgs s__law_nil) (defBody s__law_nil) (defScope s__law_nil) [] [] (W.F 21) fd) (hm : mg "_law_nil" = some (.ref (W.F 21))) :
    Cal P w K mg base (L2.CX P w) W 1 "_law_nil" 21 2 f__law_nil :=
  ⟨fd, ["_law_plan_here", "_law_arrow"], gokD F sc__law_nil fun cdv B up z H E fr => 
      (dss_cons (ds_setLc (i := 2) (own := [("_law_pair", 3)]) (is := [3]) (fun _ _ _ => lift_frz) rfl sc__law_nil.nd rfl rfl (sw_true rfl rfl rfl rfl) (di_seq (de_ix (de_var (i := 0) rfl (Or.inl rfl)) de_int)) (blkOk_by rfl) ⟨gName 3, fun _ _ _ _ _ => pg_name (i := 3) sc__law_nil.nd rfl (Or.inl rfl), tr_name⟩ (fun _ _ _ _ _ => (dts_one (dt_cmp (op_eqP fr.r.units) od_eq (de_ix (de_var (i := 3) rfl (Or.inl rfl)) de_int) (de_var (i := 1) rfl (Or.inr (Or.inl rfl)))))) (fun _ _ _ _ _ => (de_ix (de_var (i := 3) rfl (Or.inl rfl)) de_int)) (by decide))
      (dss_one (ds_ret (de_if (dt_cmp (op_neP fr.r.units) od_ne (de_var (i := 2) rfl (Or.inl rfl)) (de_frz (dn_lst da_nil))) (de_ix (de_var (i := 2) rfl (Or.inl rfl)) de_int) de_non)))), hm, F.kp, F.bindsN fun _ _ _ _ _ _ us hl => match us, hl with | [_, _], _ => rfl⟩
theorem sc__law_without : FnScope ["_law_plan_here", "_law_arrow", "_law_rows", "_law_kept", "_law_k", "_law_pair", "_law_a", "_law_b"] ["_law_plan_here", "_law_arrow"] (defScope s__law_without) := ⟨rfl, rfl, rfl, by decide +kernel, rfl, by decide +kernel, by decide +kernel⟩
theorem ok__law_without {fd : FuncData} (F : FunD K "_law_without" "_law_without" (defArgs s__law_without) (defBody s__law_without) (defScope s__law_without) [] [] (W.F 22) fd) (hm : mg "_law_without" = some (.ref (W.F 22))) (g_len : mg "len" = none) (g_range : mg "range" = none) (g_sorted : mg "sorted" = none) (g_tuple : mg "tuple" = none) :
    Cal P w K mg base (L2.CX P w) W 1 "_law_without" 22 2 f__law_without :=
  ⟨fd, ["_law_plan_here", "_law_arrow"], gokD F sc__law_without fun cdv B up z H E fr => 
      (dss_cons (ds_setLc (i := 2) (own := [("_law_k", 4)]) (is := [4]) (fun _ _ _ => lift_frz) rfl sc__law_without.nd rfl rfl (sw_true rfl rfl rfl rfl) (di_rg1 rfl g_range (de_callB call_len_seq cd_len rfl g_len boot_len (da_cons (de_ix (de_var (i := 0) rfl (Or.inr (Or.inl rfl))) de_int) da_nil))) (blkOk_by rfl) ⟨gName 4, fun _ _ _ _ _ => pg_name (i := 4) sc__law_without.nd rfl (Or.inl rfl), tr_name⟩ (fun _ _ _ _ _ => (dts_one (dt_cmp (op_neP fr.r.units) od_ne (de_var (i := 4) rfl (Or.inl rfl)) (de_var (i := 1) rfl (Or.inr (Or.inl rfl)))))) (fun _ _ _ _ _ => (de_ix (de_ix (de_var (i := 0) rfl (Or.inr (Or.inl rfl))) de_int) (de_var (i := 4) rfl (Or.inl rfl)))) (by decide))
      (dss_cons (ds_setLc (i := 3) (own := [("_law_pair", 5)]) (is := [5]) (fun _ _ _ => lift_frz) rfl sc__law_without.nd rfl rfl (sw_true rfl rfl rfl rfl) (di_seq (de_ix (de_var (i := 0) rfl (Or.inr (Or.inl rfl))) de_int)) (blkOk_by rfl) ⟨gName 5, fun _ _ _ _ _ => pg_name (i := 5) sc__law_without.nd rfl (Or.inl rfl), tr_name⟩ (fun _ _ _ _ _ => (dts_one (dt_cmp (op_notInP fr.r.units) od_notIn (de_var (i := 1) rfl (Or.inr (Or.inl rfl))) (de_var (i := 5) rfl (Or.inl rfl))))) (fun _ _ _ _ _ => (de_var (i := 5) rfl (Or.inl rfl))) (by decide))
      (dss_cons (ds_setLc (i := 3) (own := [("_law_a", 6), ("_law_b", 7)]) (is := [6, 7]) (fun _ _ _ => lift_frz) rfl sc__law_without.nd rfl rfl (sw_true rfl rfl rfl rfl) (di_seq (de_var (i := 3) rfl (Or.inl rfl))) (blkOk_by rfl) ⟨gTup _ 2 (gsOf [6, 7]), fun _ _ _ _ _ => pg_tup rfl (pgs_cons (pg_name (i := 6) sc__law_without.nd rfl (Or.inl rfl)) (pgs_cons (pg_name (i := 7) sc__law_without.nd rfl (Or.inl rfl)) pgs_nil)), tr_tup rfl⟩ (fun _ _ _ _ _ => dts_nil) (fun _ _ _ _ _ => (de_tup (da_cons (de_sub (de_var (i := 6) rfl (Or.inl rfl)) (de_if (dt_cmp (op_gtP fr.r.units) od_gt (de_var (i := 6) rfl (Or.inl rfl)) (de_var (i := 1) rfl (Or.inr (Or.inl rfl)))) de_int de_int)) (da_cons (de_sub (de_var (i := 7) rfl (Or.inl rfl)) (de_if (dt_cmp (op_gtP fr.r.units) od_gt (de_var (i := 7) rfl (Or.inl rfl)) (de_var (i := 1) rfl (Or.inr (Or.inl rfl)))) de_int de_int)) da_nil)))) (by decide))
      (dss_one (ds_ret (de_tup (da_cons (de_ix (de_var (i := 0) rfl (Or.inr (Or.inl rfl))) de_int) (da_cons (de_callTy call_tuple_of cd_tuple rfl g_tuple boot_tuple (da_cons (de_var (i := 2) rfl (Or.inl rfl)) da_nil)) (da_cons (de_callTy call_tuple_of cd_tuple rfl g_tuple boot_tuple (da_cons (de_frz (dn_callB (cr_sortB fr.r.units) cn_sortB rfl g_sorted PyProof.Rows.boot_sorted (da_cons (de_var (i := 3) rfl (Or.inl rfl)) da_nil))) da_nil)) da_nil))))))))), hm, F.kp, F.bindsN fun _ _ _ _ _ _ us hl => match us, hl with | [_, _], _ => rfl⟩
theorem sc__law_round_arrow : FnScope ["_law_plan_here", "_law_arrow", "_law_at", "_law_step"] ["_law_plan_here"] (defScope s__law_round_arrow) := ⟨rfl, rfl, rfl, by decide +kernel, rfl, by decide +kernel, by decide +kernel⟩
theorem ok__law_round_arrow {fd : FuncData} (F : FunD K "_law_round_arrow" "_law_round_arrow" (defArgs s__law_round_arrow) (defBody s__law_round_arrow) (defScope s__law_round_arrow) [] [] (W.F 23) fd) (hm : mg "_law_round_arrow" = some (.ref (W.F 23))) (g_len : mg "len" = none) (g_range : mg "range" = none) (c__law_next : Cal P w K mg base (L2.CX P w) W 4 "_law_next" 20 2 f__law_next) :
    Cal P w K mg base (L2.CX P w) W 5 "_law_round_arrow" 23 1 f__law_round_arrow :=
  ⟨fd, ["_law_plan_here"], gokD F sc__law_round_arrow fun cdv B up z H E fr => 
      (dss_cons (ds_for pown rfl (di_rg1 rfl g_range (de_callB call_len_seq cd_len rfl g_len boot_len (da_cons (de_ix (de_var (i := 0) rfl (Or.inl rfl)) de_int) da_nil))) (dg_name (i := 1) sc__law_round_arrow.nd rfl (Or.inl rfl)) (dss_cons (ds_set (i := 2) sc__law_round_arrow.nd rfl (Or.inl rfl) (de_callP c__law_next fr px rfl (da_cons (de_var (i := 0) rfl (Or.inl rfl)) (da_cons (de_var (i := 1) rfl (Or.inl rfl)) da_nil)) (hlen := (len_cons (len_cons len_nil)))))
      (dss_cons (ds_for pown rfl (di_rg1 rfl g_range (de_callB call_len_seq cd_len rfl g_len boot_len (da_cons (de_ix (de_var (i := 0) rfl (Or.inl rfl)) de_int) da_nil))) (dg_name (i := 3) sc__law_round_arrow.nd rfl (Or.inl rfl)) (dss_one (ds_if (dw_pt (dw_and (dt_cmp op_notN od_notN (de_var (i := 2) rfl (Or.inl rfl)) de_non) (dw_and1 (dt_cmp (op_neP fr.r.units) od_ne (de_var (i := 2) rfl (Or.inl rfl)) (de_var (i := 1) rfl (Or.inl rfl)))))) (dss_one (ds_set (i := 2) sc__law_round_arrow.nd rfl (Or.inl rfl) (de_callP c__law_next fr px rfl (da_cons (de_var (i := 0) rfl (Or.inl rfl)) (da_cons (de_var (i := 2) rfl (Or.inl rfl)) da_nil)) (hlen := (len_cons (len_cons len_nil)))))) dss_nil)))
      (dss_one (ds_if (dt_cmp (op_eqP fr.r.units) od_eq (de_var (i := 2) rfl (Or.inl rfl)) (de_var (i := 1) rfl (Or.inl rfl))) (dss_one (ds_ret (de_var (i := 1) rfl (Or.inl rfl)))) dss_nil)))))
      (dss_one (ds_ret de_non))), hm, F.kp, F.bindsN fun _ _ _ _ _ _ us hl => match us, hl with | [_], _ => rfl⟩
theorem sc__law_ended : FnScope ["_law_plan_here", "_law_step", "_law_arrow"] ["_law_plan_here"] (defScope s__law_ended) := ⟨rfl, rfl, rfl, by decide +kernel, rfl, by decide +kernel, by decide +kernel⟩
theorem ok__law_ended {fd : FuncData} (F : FunD K "_law_ended" "_law_ended" (defArgs s__law_ended) (defBody s__law_ended) (defScope s__law_ended) [] [] (W.F 24) fd) (hm : mg "_law_ended" = some (.ref (W.F 24))) (g_len : mg "len" = none) (g_range : mg "range" = none) (c__law_round_arrow : Cal P w K mg base (L2.CX P w) W 5 "_law_round_arrow" 23 1 f__law_round_arrow) (c__law_without : Cal P w K mg base (L2.CX P w) W 1 "_law_without" 22 2 f__law_without) :
    Cal P w K mg base (L2.CX P w) W 6 "_law_ended" 24 1 f__law_ended :=
  ⟨fd, ["_law_plan_here"], gokD F sc__law_ended fun cdv B up z H E fr => 
      (dss_cons (ds_for pown rfl (di_rg1 rfl g_range (de_callB call_len_seq cd_len rfl g_len boot_len (da_cons (de_ix (de_var (i := 0) rfl (Or.inl rfl)) de_int) da_nil))) (dg_name (i := 1) sc__law_ended.nd rfl (Or.inl rfl)) (dss_cons (ds_set (i := 2) sc__law_ended.nd rfl (Or.inl rfl) (de_callP c__law_round_arrow fr px rfl (da_cons (de_var (i := 0) rfl (Or.inl rfl)) da_nil) (hlen := (len_cons len_nil))))
      (dss_one (ds_if (dt_cmp op_notN od_notN (de_var (i := 2) rfl (Or.inl rfl)) de_non) (dss_one (ds_set (i := 0) sc__law_ended.nd rfl (Or.inl rfl) (de_callP c__law_without fr px rfl (da_cons (de_var (i := 0) rfl (Or.inl rfl)) (da_cons (de_var (i := 2) rfl (Or.inl rfl)) da_nil)) (hlen := (len_cons (len_cons len_nil)))))) dss_nil))))
      (dss_one (ds_ret (de_var (i := 0) rfl (Or.inl rfl))))), hm, F.kp, F.bindsN fun _ _ _ _ _ _ us hl => match us, hl with | [_], _ => rfl⟩
theorem sc__law_with_noughts : FnScope ["_law_m", "_law_size", "_law_rows", "_law_pairs", "_law_p", "_law_ins", "_law_outs", "_law_side", "_law_a", "_law_b"] ["_law_m", "_law_size", "_law_rows"] (defScope s__law_with_noughts) := ⟨rfl, rfl, rfl, by decide +kernel, rfl, by decide +kernel, by decide +kernel⟩
theorem ok__law_with_noughts {fd : FuncData} (F : FunD K "_law_with_noughts" "_law_with_noughts" (defArgs s__law_with_noughts) (defBody s__law_with_noughts) (defScope s__law_with_noughts) [] [] (W.F 25) fd) (hm : mg "_law_with_noughts" = some (.ref (W.F 25))) (g_len : mg "len" = none) (g_range : mg "range" = none) (g_sorted : mg "sorted" = none) (g_tuple : mg "tuple" = none) (c__law_draw : Cal P w K mg base (L2.CX P w) W 1 "_law_draw" 13 2 f__law_draw) (c__law_ended : Cal P w K mg base (L2.CX P w) W 6 "_law_ended" 24 1 f__law_ended) :
    Cal P w K mg base (L2.CX P w) W 7 "_law_with_noughts" 25 3 f__law_with_noughts :=
  ⟨fd, ["_law_m", "_law_size", "_law_rows"], gokD F sc__law_with_noughts fun cdv B up z H E fr => 
      (dss_cons (ds_set (i := 3) sc__law_with_noughts.nd rfl (Or.inl rfl) (de_new (dn_lst da_nil)))
      (dss_cons (ds_for pown rfl (di_rg1 rfl g_range (de_var (i := 1) rfl (Or.inl rfl))) (dg_name (i := 4) sc__law_with_noughts.nd rfl (Or.inr rfl)) (dss_cons (ds_setLc (i := 5) (own := [("_law_a", 8)]) (is := [8]) (fun _ _ _ => lift_frz) rfl sc__law_with_noughts.nd rfl rfl (sw_true rfl rfl rfl rfl) (di_rg1 rfl g_range (de_callB call_len_seq cd_len rfl g_len boot_len (da_cons (de_var (i := 2) rfl (Or.inr (Or.inl rfl))) da_nil))) (blkOk_by rfl) ⟨gName 8, fun _ _ _ _ _ => pg_name (i := 8) sc__law_with_noughts.nd rfl (Or.inl rfl), tr_name⟩ (fun _ _ _ _ _ => (dts_one (dt_cmp (op_eqP fr.r.units) od_eq (de_ix (de_ix (de_var (i := 2) rfl (Or.inr (Or.inl rfl))) (de_var (i := 8) rfl (Or.inl rfl))) de_int) (de_var (i := 4) rfl (Or.inr (Or.inl rfl)))))) (fun _ _ _ _ _ => (de_var (i := 8) rfl (Or.inl rfl))) (by decide))
      (dss_cons (ds_setLc (i := 6) (own := [("_law_b", 9)]) (is := [9]) (fun _ _ _ => lift_frz) rfl sc__law_with_noughts.nd rfl rfl (sw_true rfl rfl rfl rfl) (di_rg1 rfl g_range (de_callB call_len_seq cd_len rfl g_len boot_len (da_cons (de_var (i := 2) rfl (Or.inr (Or.inl rfl))) da_nil))) (blkOk_by rfl) ⟨gName 9, fun _ _ _ _ _ => pg_name (i := 9) sc__law_with_noughts.nd rfl (Or.inl rfl), tr_name⟩ (fun _ _ _ _ _ => (dts_one (dt_cmp (op_eqP fr.r.units) od_eq (de_ix (de_ix (de_var (i := 2) rfl (Or.inr (Or.inl rfl))) (de_var (i := 9) rfl (Or.inl rfl))) de_int) (de_var (i := 4) rfl (Or.inr (Or.inl rfl)))))) (fun _ _ _ _ _ => (de_var (i := 9) rfl (Or.inl rfl))) (by decide))
      (dss_cons (ds_set (i := 7) sc__law_with_noughts.nd rfl (Or.inl rfl) (de_callT c__law_draw fr px rfl (da_cons (de_var (i := 0) rfl (Or.inl rfl)) (da_cons de_int da_nil)) (hlen := (len_cons (len_cons len_nil)))))
      (dss_cons (ds_if (dw_pt (dw_and (dt_cmp (op_eqP fr.r.units) od_eq (de_callB call_len_seq cd_len rfl g_len boot_len (da_cons (de_var (i := 5) rfl (Or.inl rfl)) da_nil)) de_int) (dw_and1 (dt_cmp (op_eqP fr.r.units) od_eq (de_callB call_len_seq cd_len rfl g_len boot_len (da_cons (de_var (i := 6) rfl (Or.inl rfl)) da_nil)) de_int)))) (dss_one (ds_set (i := 3) sc__law_with_noughts.nd rfl (Or.inl rfl) (de_new (dn_add (de_var (i := 3) rfl (Or.inl rfl)) (de_frz (dn_lst (da_cons (de_tup (da_cons (de_ix (de_var (i := 5) rfl (Or.inl rfl)) de_int) (da_cons (de_ix (de_var (i := 6) rfl (Or.inl rfl)) (de_var (i := 7) rfl (Or.inl rfl))) da_nil))) (da_cons (de_tup (da_cons (de_ix (de_var (i := 5) rfl (Or.inl rfl)) de_int) (da_cons (de_ix (de_var (i := 6) rfl (Or.inl rfl)) (de_sub de_int (de_var (i := 7) rfl (Or.inl rfl)))) da_nil))) da_nil)))))))) dss_nil)
      (dss_cons (ds_if (dw_pt (dw_and (dt_cmp (op_eqP fr.r.units) od_eq (de_callB call_len_seq cd_len rfl g_len boot_len (da_cons (de_var (i := 5) rfl (Or.inl rfl)) da_nil)) de_int) (dw_and1 (dt_cmp (op_eqP fr.r.units) od_eq (de_callB call_len_seq cd_len rfl g_len boot_len (da_cons (de_var (i := 6) rfl (Or.inl rfl)) da_nil)) de_int)))) (dss_one (ds_expr (de_append (de_var (i := 3) rfl (Or.inl rfl)) (de_tup (da_cons (de_ix (de_var (i := 5) rfl (Or.inl rfl)) (de_var (i := 7) rfl (Or.inl rfl))) (da_cons (de_ix (de_var (i := 6) rfl (Or.inl rfl)) de_int) da_nil)))))) dss_nil)
      (dss_cons (ds_if (dw_pt (dw_and (dt_cmp (op_eqP fr.r.units) od_eq (de_callB call_len_seq cd_len rfl g_len boot_len (da_cons (de_var (i := 5) rfl (Or.inl rfl)) da_nil)) de_int) (dw_and1 (dt_cmp (op_eqP fr.r.units) od_eq (de_callB call_len_seq cd_len rfl g_len boot_len (da_cons (de_var (i := 6) rfl (Or.inl rfl)) da_nil)) de_int)))) (dss_one (ds_expr (de_append (de_var (i := 3) rfl (Or.inl rfl)) (de_tup (da_cons (de_ix (de_var (i := 5) rfl (Or.inl rfl)) de_int) (da_cons (de_ix (de_var (i := 6) rfl (Or.inl rfl)) (de_var (i := 7) rfl (Or.inl rfl))) da_nil)))))) dss_nil)
      (dss_one (ds_if (dw_pt (dw_and (dt_cmp (op_eqP fr.r.units) od_eq (de_callB call_len_seq cd_len rfl g_len boot_len (da_cons (de_var (i := 5) rfl (Or.inl rfl)) da_nil)) de_int) (dw_and (dt_cmp (op_eqP fr.r.units) od_eq (de_callB call_len_seq cd_len rfl g_len boot_len (da_cons (de_var (i := 6) rfl (Or.inl rfl)) da_nil)) de_int) (dw_and1 (dt_cmp (op_eqP fr.r.units) od_eq (de_var (i := 7) rfl (Or.inl rfl)) de_int))))) (dss_one (ds_expr (de_append (de_var (i := 3) rfl (Or.inl rfl)) (de_tup (da_cons (de_ix (de_var (i := 5) rfl (Or.inl rfl)) de_int) (da_cons (de_ix (de_var (i := 6) rfl (Or.inl rfl)) de_int) da_nil)))))) dss_nil)))))))))
      (dss_one (ds_ret (de_callP c__law_ended fr px rfl (da_cons (de_tup (da_cons (de_var (i := 1) rfl (Or.inl rfl)) (da_cons (de_callTy call_tuple_of cd_tuple rfl g_tuple boot_tuple (da_cons (de_var (i := 2) rfl (Or.inr (Or.inl rfl))) da_nil)) (da_cons (de_callTy call_tuple_of cd_tuple rfl g_tuple boot_tuple (da_cons (de_frz (dn_callB (cr_sortB fr.r.units) cn_sortB rfl g_sorted PyProof.Rows.boot_sorted (da_cons (de_var (i := 3) rfl (Or.inl rfl)) da_nil))) da_nil)) da_nil)))) da_nil) (hlen := (len_cons len_nil))))))), hm, F.kp, F.bindsN fun _ _ _ _ _ _ us hl => match us, hl with | [_, _, _], _ => rfl⟩
theorem sc__law_free_plan : FnScope ["_law_m", "_law_size", "_law_most", "_law_rows", "_law_step", "_law_a", "_law_b", "_law_begun_here", "_law_ended_here", "_law_row"] ["_law_m", "_law_size", "_law_most"] (defScope s__law_free_plan) := ⟨rfl, rfl, rfl, by decide +kernel, rfl, by decide +kernel, by decide +kernel⟩
theorem ok__law_free_plan {fd : FuncData} (F : FunD K "_law_free_plan" "_law_free_plan" (defArgs s__law_free_plan) (defBody s__law_free_plan) (defScope s__law_free_plan) [] [] (W.F 26) fd) (hm : mg "_law_free_plan" = some (.ref (W.F 26))) (g_int : mg "int" = none) (g_len : mg "len" = none) (g_range : mg "range" = none) (c__law_draw : Cal P w K mg base (L2.CX P w) W 1 "_law_draw" 13 2 f__law_draw) (c__law_with_noughts : Cal P w K mg base (L2.CX P w) W 7 "_law_with_noughts" 25 3 f__law_with_noughts) :
    Cal P w K mg base (L2.CX P w) W 8 "_law_free_plan" 26 3 f__law_free_plan :=
  ⟨fd, ["_law_m", "_law_size", "_law_most"], gokD F sc__law_free_plan fun cdv B up z H E fr => 
      (dss_cons (ds_set (i := 3) sc__law_free_plan.nd rfl (Or.inl rfl) (de_new (dn_lst da_nil)))
      (dss_cons (ds_for pown rfl (di_rg1 rfl g_range (de_add (de_sub (de_var (i := 1) rfl (Or.inl rfl)) de_int) (de_callT c__law_draw fr px rfl (da_cons (de_var (i := 0) rfl (Or.inl rfl)) (da_cons (de_var (i := 2) rfl (Or.inl rfl)) da_nil)) (hlen := (len_cons (len_cons len_nil)))))) (dg_name (i := 4) sc__law_free_plan.nd rfl (Or.inl rfl)) (dss_cons (ds_asg (de_tup (da_cons (de_callT c__law_draw fr px rfl (da_cons (de_var (i := 0) rfl (Or.inl rfl)) (da_cons (de_var (i := 1) rfl (Or.inl rfl)) da_nil)) (hlen := (len_cons (len_cons len_nil)))) (da_cons (de_callT c__law_draw fr px rfl (da_cons (de_var (i := 0) rfl (Or.inl rfl)) (da_cons (de_var (i := 1) rfl (Or.inl rfl)) da_nil)) (hlen := (len_cons (len_cons len_nil)))) da_nil))) (dg_tup rfl (dgs_cons (dg_name (i := 5) sc__law_free_plan.nd rfl (Or.inr rfl)) (dgs_cons (dg_name (i := 6) sc__law_free_plan.nd rfl (Or.inr rfl)) dgs_nil))))
      (dss_cons (ds_set (i := 6) sc__law_free_plan.nd rfl (Or.inr rfl) (de_if (dw_pt (dw_and (dt_cmp (op_eqP fr.r.units) od_eq (de_var (i := 5) rfl (Or.inr (Or.inl rfl))) (de_var (i := 6) rfl (Or.inr (Or.inl rfl)))) (dw_and1 (dt_cmp (op_gtP fr.r.units) od_gt (de_callT c__law_draw fr px rfl (da_cons (de_var (i := 0) rfl (Or.inl rfl)) (da_cons de_int da_nil)) (hlen := (len_cons (len_cons len_nil)))) de_int)))) (de_mod (de_callTy call_int1 cd_int rfl g_int boot_int (da_cons (de_add (de_var (i := 5) rfl (Or.inr (Or.inl rfl))) de_int) da_nil)) (de_var (i := 1) rfl (Or.inl rfl))) (de_var (i := 6) rfl (Or.inr (Or.inl rfl)))))
      (dss_cons (ds_setLc (i := 7) (own := [("_law_row", 9)]) (is := [9]) (fun _ _ _ => lift_frz) rfl sc__law_free_plan.nd rfl rfl (sw_true rfl rfl rfl rfl) (di_seq (de_var (i := 3) rfl (Or.inl rfl))) (blkOk_by rfl) ⟨gName 9, fun _ _ _ _ _ => pg_name (i := 9) sc__law_free_plan.nd rfl (Or.inl rfl), tr_name⟩ (fun _ _ _ _ _ => (dts_one (dt_cmp (op_eqP fr.r.units) od_eq (de_ix (de_var (i := 9) rfl (Or.inl rfl)) de_int) (de_var (i := 5) rfl (Or.inr (Or.inl rfl)))))) (fun _ _ _ _ _ => (de_var (i := 9) rfl (Or.inl rfl))) (by decide))
      (dss_cons (ds_setLc (i := 8) (own := [("_law_row", 9)]) (is := [9]) (fun _ _ _ => lift_frz) rfl sc__law_free_plan.nd rfl rfl (sw_true rfl rfl rfl rfl) (di_seq (de_var (i := 3) rfl (Or.inl rfl))) (blkOk_by rfl) ⟨gName 9, fun _ _ _ _ _ => pg_name (i := 9) sc__law_free_plan.nd rfl (Or.inl rfl), tr_name⟩ (fun _ _ _ _ _ => (dts_one (dt_cmp (op_eqP fr.r.units) od_eq (de_ix (de_var (i := 9) rfl (Or.inl rfl)) de_int) (de_var (i := 6) rfl (Or.inr (Or.inl rfl)))))) (fun _ _ _ _ _ => (de_var (i := 9) rfl (Or.inl rfl))) (by decide))
      (dss_one (ds_if (dw_pt (dw_and (dt_cmp (op_ltP fr.r.units) od_lt (de_callB call_len_seq cd_len rfl g_len boot_len (da_cons (de_var (i := 7) rfl (Or.inl rfl)) da_nil)) de_int) (dw_and1 (dt_cmp (op_ltP fr.r.units) od_lt (de_callB call_len_seq cd_len rfl g_len boot_len (da_cons (de_var (i := 8) rfl (Or.inl rfl)) da_nil)) de_int)))) (dss_one (ds_expr (de_append (de_var (i := 3) rfl (Or.inl rfl)) (de_tup (da_cons (de_var (i := 5) rfl (Or.inr (Or.inl rfl))) (da_cons (de_var (i := 6) rfl (Or.inr (Or.inl rfl))) da_nil)))))) dss_nil)))))))
      (dss_one (ds_ret (de_callT c__law_with_noughts fr px rfl (da_cons (de_var (i := 0) rfl (Or.inl rfl)) (da_cons (de_var (i := 1) rfl (Or.inl rfl)) (da_cons (de_var (i := 3) rfl (Or.inl rfl)) da_nil))) (hlen := (len_cons (len_cons (len_cons len_nil))))))))), hm, F.kp, F.bindsN fun _ _ _ _ _ _ us hl => match us, hl with | [_, _, _], _ => rfl⟩
theorem sc__law_known_plan : FnScope ["_law_m", "_law_size", "_law_word", "_law_turns", "_law_rows", "_law_k", "_law_pairs"] ["_law_m", "_law_size"] (defScope s__law_known_plan) := ⟨rfl, rfl, rfl, by decide +kernel, rfl, by decide +kernel, by decide +kernel⟩
theorem ok__law_known_plan {fd : FuncData} (F : FunD K "_law_known_plan" "_law_known_plan" (defArgs s__law_known_plan) (defBody s__law_known_plan) (defScope s__law_known_plan) [] [] (W.F 27) fd) (hm : mg "_law_known_plan" = some (.ref (W.F 27))) (g_int : mg "int" = none) (g_range : mg "range" = none) (g_sorted : mg "sorted" = none) (g_tuple : mg "tuple" = none) (c__law_draw : Cal P w K mg base (L2.CX P w) W 1 "_law_draw" 13 2 f__law_draw) (c__law_with_noughts : Cal P w K mg base (L2.CX P w) W 7 "_law_with_noughts" 25 3 f__law_with_noughts) :
    Cal P w K mg base (L2.CX P w) W 8 "_law_known_plan" 27 2 f__law_known_plan :=
  ⟨fd, ["_law_m", "_law_size"], gokD F sc__law_known_plan fun cdv B up z H E fr => 
      (dss_cons (ds_set (i := 2) sc__law_known_plan.nd rfl (Or.inl rfl) (de_callT c__law_draw fr px rfl (da_cons (de_var (i := 0) rfl (Or.inr (Or.inl rfl))) (da_cons de_int da_nil)) (hlen := (len_cons (len_cons len_nil)))))
      (dss_cons (ds_if (dt_cmp (op_eqP fr.r.units) od_eq (de_var (i := 2) rfl (Or.inl rfl)) de_int) (dss_cons (ds_set (i := 3) sc__law_known_plan.nd rfl (Or.inr rfl) (de_frz (dn_lc (own := [("_law_k", 5)]) (is := [5]) rfl sc__law_known_plan.nd (di_rg1 rfl g_range (de_sub (de_var (i := 1) rfl (Or.inr (Or.inl rfl))) de_int)) (blkOk_by rfl) ⟨gName 5, fun _ _ _ _ _ => pg_name (i := 5) sc__law_known_plan.nd rfl (Or.inl rfl), tr_name⟩ (fun _ _ _ _ _ => dts_nil) (fun _ _ _ _ _ => (de_callT c__law_draw fr passL rfl (da_cons (de_var (i := 0) rfl (Or.inr (Or.inl rfl))) (da_cons de_int da_nil)) (hlen := (len_cons (len_cons len_nil))))) (by decide))))
      (dss_cons (ds_setLc (i := 4) (own := [("_law_k", 5)]) (is := [5]) (fun _ _ _ => lift_new) rfl sc__law_known_plan.nd rfl rfl (sw_true rfl rfl rfl rfl) (di_rg1 rfl g_range (de_sub (de_var (i := 1) rfl (Or.inr (Or.inl rfl))) de_int)) (blkOk_by rfl) ⟨gName 5, fun _ _ _ _ _ => pg_name (i := 5) sc__law_known_plan.nd rfl (Or.inl rfl), tr_name⟩ (fun _ _ _ _ _ => dts_nil) (fun _ _ _ _ _ => (de_if (dt_cmp (op_eqP fr.r.units) od_eq (de_ix (de_var (i := 3) rfl (Or.inr (Or.inl rfl))) (de_var (i := 5) rfl (Or.inl rfl))) de_int) (de_tup (da_cons (de_var (i := 5) rfl (Or.inl rfl)) (da_cons (de_add (de_var (i := 5) rfl (Or.inl rfl)) de_int) da_nil))) (de_tup (da_cons (de_add (de_var (i := 5) rfl (Or.inl rfl)) de_int) (da_cons (de_var (i := 5) rfl (Or.inl rfl)) da_nil))))) (by decide))
      (dss_one (ds_ret (de_callT c__law_with_noughts fr px rfl (da_cons (de_var (i := 0) rfl (Or.inr (Or.inl rfl))) (da_cons (de_var (i := 1) rfl (Or.inr (Or.inl rfl))) (da_cons (de_var (i := 4) rfl (Or.inl rfl)) da_nil))) (hlen := (len_cons (len_cons (len_cons len_nil))))))))) dss_nil)
      (dss_cons (ds_if (dt_cmp (op_eqP fr.r.units) od_eq (de_var (i := 2) rfl (Or.inl rfl)) de_int) (dss_cons (ds_setLc (i := 4) (own := [("_law_k", 5)]) (is := [5]) (fun _ _ _ => lift_new) rfl sc__law_known_plan.nd rfl rfl (sw_true rfl rfl rfl rfl) (di_rg1 rfl g_range (de_var (i := 1) rfl (Or.inr (Or.inl rfl)))) (blkOk_by rfl) ⟨gName 5, fun _ _ _ _ _ => pg_name (i := 5) sc__law_known_plan.nd rfl (Or.inl rfl), tr_name⟩ (fun _ _ _ _ _ => dts_nil) (fun _ _ _ _ _ => (de_tup (da_cons (de_var (i := 5) rfl (Or.inl rfl)) (da_cons (de_mod (de_callTy call_int1 cd_int rfl g_int boot_int (da_cons (de_add (de_var (i := 5) rfl (Or.inl rfl)) de_int) da_nil)) (de_var (i := 1) rfl (Or.inr (Or.inl rfl)))) da_nil)))) (by decide))
      (dss_one (ds_ret (de_tup (da_cons (de_var (i := 1) rfl (Or.inr (Or.inl rfl))) (da_cons (de_callTy call_tuple_of cd_tuple rfl g_tuple boot_tuple (da_cons (de_var (i := 4) rfl (Or.inl rfl)) da_nil)) (da_cons (de_callTy call_tuple_of cd_tuple rfl g_tuple boot_tuple (da_cons (de_frz (dn_callB (cr_sortB fr.r.units) cn_sortB rfl g_sorted PyProof.Rows.boot_sorted (da_cons (de_frz (dn_lc (own := [("_law_k", 5)]) (is := [5]) rfl sc__law_known_plan.nd (di_rg1 rfl g_range (de_var (i := 1) rfl (Or.inr (Or.inl rfl)))) (blkOk_by rfl) ⟨gName 5, fun _ _ _ _ _ => pg_name (i := 5) sc__law_known_plan.nd rfl (Or.inl rfl), tr_name⟩ (fun _ _ _ _ _ => dts_nil) (fun _ _ _ _ _ => (de_tup (da_cons (de_var (i := 5) rfl (Or.inl rfl)) (da_cons (de_mod (de_callTy call_int1 cd_int rfl g_int boot_int (da_cons (de_add (de_var (i := 5) rfl (Or.inl rfl)) de_int) da_nil)) (de_var (i := 1) rfl (Or.inr (Or.inl rfl)))) da_nil)))) (by decide))) da_nil))) da_nil)) da_nil))))))) dss_nil)
      (dss_cons (ds_if (dt_cmp (op_eqP fr.r.units) od_eq (de_var (i := 2) rfl (Or.inl rfl)) de_int) (dss_cons (ds_setLc (i := 4) (own := [("_law_k", 5)]) (is := [5]) (fun _ _ _ => lift_new) rfl sc__law_known_plan.nd rfl rfl (sw_true rfl rfl rfl rfl) (di_rg1 rfl g_range (de_sub (de_var (i := 1) rfl (Or.inr (Or.inl rfl))) de_int)) (blkOk_by rfl) ⟨gName 5, fun _ _ _ _ _ => pg_name (i := 5) sc__law_known_plan.nd rfl (Or.inl rfl), tr_name⟩ (fun _ _ _ _ _ => dts_nil) (fun _ _ _ _ _ => (de_tup (da_cons (de_var (i := 5) rfl (Or.inl rfl)) (da_cons (de_add (de_var (i := 5) rfl (Or.inl rfl)) de_int) da_nil)))) (by decide))
      (dss_one (ds_ret (de_callT c__law_with_noughts fr px rfl (da_cons (de_var (i := 0) rfl (Or.inr (Or.inl rfl))) (da_cons (de_var (i := 1) rfl (Or.inr (Or.inl rfl))) (da_cons (de_add (de_var (i := 4) rfl (Or.inl rfl)) (de_if (dt_cmp (op_gtP fr.r.units) od_gt (de_var (i := 1) rfl (Or.inr (Or.inl rfl))) de_int) (de_frz (dn_lst (da_cons (de_tup (da_cons de_int (da_cons de_int da_nil))) da_nil))) (de_frz (dn_lst da_nil)))) da_nil))) (hlen := (len_cons (len_cons (len_cons len_nil)))))))) dss_nil)
      (dss_cons (ds_if (dt_cmp (op_eqP fr.r.units) od_eq (de_var (i := 2) rfl (Or.inl rfl)) de_int) (dss_cons (ds_set (i := 4) sc__law_known_plan.nd rfl (Or.inl rfl) (de_new (dn_lst da_nil)))
      (dss_cons (ds_for pown rfl (di_rg1 rfl g_range (de_sub (de_var (i := 1) rfl (Or.inr (Or.inl rfl))) de_int)) (dg_name (i := 5) sc__law_known_plan.nd rfl (Or.inl rfl)) (dss_cons (ds_expr (de_append (de_var (i := 4) rfl (Or.inl rfl)) (de_tup (da_cons (de_var (i := 5) rfl (Or.inl rfl)) (da_cons (de_add (de_var (i := 5) rfl (Or.inl rfl)) de_int) da_nil)))))
      (dss_one (ds_if (dt_cmp (op_eqP fr.r.units) od_eq (de_mod (de_callTy call_int1 cd_int rfl g_int boot_int (da_cons (de_var (i := 5) rfl (Or.inl rfl)) da_nil)) de_int) de_int) (dss_one (ds_expr (de_append (de_var (i := 4) rfl (Or.inl rfl)) (de_tup (da_cons (de_add (de_var (i := 5) rfl (Or.inl rfl)) de_int) (da_cons (de_var (i := 5) rfl (Or.inl rfl)) da_nil)))))) dss_nil))))
      (dss_one (ds_ret (de_callT c__law_with_noughts fr px rfl (da_cons (de_var (i := 0) rfl (Or.inr (Or.inl rfl))) (da_cons (de_var (i := 1) rfl (Or.inr (Or.inl rfl))) (da_cons (de_var (i := 4) rfl (Or.inl rfl)) da_nil))) (hlen := (len_cons (len_cons (len_cons len_nil))))))))) dss_nil)
      (dss_cons (ds_set (i := 4) sc__law_known_plan.nd rfl (Or.inl rfl) (de_new (dn_add (de_frz (dn_lc (own := [("_law_k", 5)]) (is := [5]) rfl sc__law_known_plan.nd (di_rg1 rfl g_range (de_sub (de_var (i := 1) rfl (Or.inr (Or.inl rfl))) de_int)) (blkOk_by rfl) ⟨gName 5, fun _ _ _ _ _ => pg_name (i := 5) sc__law_known_plan.nd rfl (Or.inl rfl), tr_name⟩ (fun _ _ _ _ _ => dts_nil) (fun _ _ _ _ _ => (de_tup (da_cons (de_var (i := 5) rfl (Or.inl rfl)) (da_cons (de_add (de_var (i := 5) rfl (Or.inl rfl)) de_int) da_nil)))) (by decide))) (de_frz (dn_lst (da_cons (de_tup (da_cons (de_sub (de_var (i := 1) rfl (Or.inr (Or.inl rfl))) de_int) (da_cons (de_sub (de_var (i := 1) rfl (Or.inr (Or.inl rfl))) de_int) da_nil))) da_nil))))))
      (dss_cons (ds_set (i := 6) sc__law_known_plan.nd rfl (Or.inl rfl) (de_add (de_frz (dn_lst (da_cons (de_tup (da_cons (de_sub (de_var (i := 1) rfl (Or.inr (Or.inl rfl))) de_int) (da_cons (de_sub (de_var (i := 1) rfl (Or.inr (Or.inl rfl))) de_int) da_nil))) da_nil))) (de_frz (dn_lc (own := [("_law_k", 5)]) (is := [5]) rfl sc__law_known_plan.nd (di_rg1 rfl g_range (de_sub (de_var (i := 1) rfl (Or.inr (Or.inl rfl))) de_int)) (blkOk_by rfl) ⟨gName 5, fun _ _ _ _ _ => pg_name (i := 5) sc__law_known_plan.nd rfl (Or.inl rfl), tr_name⟩ (fun _ _ _ _ _ => (dts_one (dt_cmp (op_eqP fr.r.units) od_eq (de_callT c__law_draw fr passL rfl (da_cons (de_var (i := 0) rfl (Or.inr (Or.inl rfl))) (da_cons de_int da_nil)) (hlen := (len_cons (len_cons len_nil)))) de_int))) (fun _ _ _ _ _ => (de_tup (da_cons (de_var (i := 5) rfl (Or.inl rfl)) (da_cons (de_add (de_var (i := 5) rfl (Or.inl rfl)) de_int) da_nil)))) (by decide)))))
      (dss_one (ds_ret (de_tup (da_cons (de_var (i := 1) rfl (Or.inr (Or.inl rfl))) (da_cons (de_callTy call_tuple_of cd_tuple rfl g_tuple boot_tuple (da_cons (de_var (i := 4) rfl (Or.inl rfl)) da_nil)) (da_cons (de_callTy call_tuple_of cd_tuple rfl g_tuple boot_tuple (da_cons (de_frz (dn_callB (cr_sortB fr.r.units) cn_sortB rfl g_sorted PyProof.Rows.boot_sorted (da_cons (de_var (i := 6) rfl (Or.inl rfl)) da_nil))) da_nil)) da_nil))))))))))))), hm, F.kp, F.bindsN fun _ _ _ _ _ _ us hl => match us, hl with | [_, _], _ => rfl⟩
theorem sc__law_renamed : FnScope ["_law_plan_here", "_law_points", "_law_arrows", "_law_rows", "_law_a", "_law_row", "_law_b"] ["_law_plan_here", "_law_points", "_law_arrows"] (defScope s__law_renamed) := ⟨rfl, rfl, rfl, by decide +kernel, rfl, by decide +kernel, by decide +kernel⟩
theorem ok__law_renamed {fd : FuncData} (F : FunD K "_law_renamed" "_law_renamed" (defArgs s__law_renamed) (defBody s__law_renamed) (defScope s__law_renamed) [] [] (W.F 28) fd) (hm : mg "_law_renamed" = some (.ref (W.F 28))) (g_len : mg "len" = none) (g_range : mg "range" = none) (g_sorted : mg "sorted" = none) (g_tuple : mg "tuple" = none) :
    Cal P w K mg base (L2.CX P w) W 1 "_law_renamed" 28 3 f__law_renamed :=
  ⟨fd, ["_law_plan_here", "_law_points", "_law_arrows"], gokD F sc__law_renamed fun cdv B up z H E fr => 
      (dss_cons (ds_setLc (i := 3) (own := [("_law_row", 5)]) (is := [5]) (fun _ _ _ => lift_new) rfl sc__law_renamed.nd rfl rfl (sw_true rfl rfl rfl rfl) (di_seq (de_ix (de_var (i := 0) rfl (Or.inl rfl)) de_int)) (blkOk_by rfl) ⟨gName 5, fun _ _ _ _ _ => pg_name (i := 5) sc__law_renamed.nd rfl (Or.inl rfl), tr_name⟩ (fun _ _ _ _ _ => dts_nil) (fun _ _ _ _ _ => de_non) (by decide))
      (dss_cons (ds_for pown rfl (di_rg1 rfl g_range (de_callB call_len_seq cd_len rfl g_len boot_len (da_cons (de_var (i := 3) rfl (Or.inl rfl)) da_nil))) (dg_name (i := 4) sc__law_renamed.nd rfl (Or.inl rfl)) (dss_one (ds_setIx (de_var (i := 3) rfl (Or.inl rfl)) (de_ix (de_var (i := 2) rfl (Or.inr (Or.inl rfl))) (de_var (i := 4) rfl (Or.inl rfl))) (de_tup (da_cons (de_ix (de_var (i := 1) rfl (Or.inl rfl)) (de_ix (de_ix (de_ix (de_var (i := 0) rfl (Or.inl rfl)) de_int) (de_var (i := 4) rfl (Or.inl rfl))) de_int)) (da_cons (de_ix (de_var (i := 1) rfl (Or.inl rfl)) (de_ix (de_ix (de_ix (de_var (i := 0) rfl (Or.inl rfl)) de_int) (de_var (i := 4) rfl (Or.inl rfl))) de_int)) da_nil))))))
      (dss_one (ds_ret (de_tup (da_cons (de_ix (de_var (i := 0) rfl (Or.inl rfl)) de_int) (da_cons (de_callTy call_tuple_of cd_tuple rfl g_tuple boot_tuple (da_cons (de_var (i := 3) rfl (Or.inl rfl)) da_nil)) (da_cons (de_callTy call_tuple_of cd_tuple rfl g_tuple boot_tuple (da_cons (de_frz (dn_callB (cr_sortB fr.r.units) cn_sortB rfl g_sorted PyProof.Rows.boot_sorted (da_cons (de_frz (dn_lc (own := [("_law_a", 4), ("_law_b", 6)]) (is := [4, 6]) rfl sc__law_renamed.nd (di_seq (de_ix (de_var (i := 0) rfl (Or.inl rfl)) de_int)) (blkOk_by rfl) ⟨gTup _ 2 (gsOf [4, 6]), fun _ _ _ _ _ => pg_tup rfl (pgs_cons (pg_name (i := 4) sc__law_renamed.nd rfl (Or.inl rfl)) (pgs_cons (pg_name (i := 6) sc__law_renamed.nd rfl (Or.inl rfl)) pgs_nil)), tr_tup rfl⟩ (fun _ _ _ _ _ => dts_nil) (fun _ _ _ _ _ => (de_tup (da_cons (de_ix (de_var (i := 2) rfl (Or.inr (Or.inl rfl))) (de_var (i := 4) rfl (Or.inl rfl))) (da_cons (de_ix (de_var (i := 2) rfl (Or.inr (Or.inl rfl))) (de_var (i := 6) rfl (Or.inl rfl))) da_nil)))) (by decide))) da_nil))) da_nil)) da_nil)))))))), hm, F.kp, F.bindsN fun _ _ _ _ _ _ us hl => match us, hl with | [_, _, _], _ => rfl⟩
theorem sc__law_plan : FnScope ["_law_m", "_law_most", "_law_size", "_law_plan_here"] ["_law_m", "_law_most"] (defScope s__law_plan) := ⟨rfl, rfl, rfl, by decide +kernel, rfl, by decide +kernel, by decide +kernel⟩
theorem ok__law_plan {fd : FuncData} (F : FunD K "_law_plan" "_law_plan" (defArgs s__law_plan) (defBody s__law_plan) (defScope s__law_plan) [] [] (W.F 29) fd) (hm : mg "_law_plan" = some (.ref (W.F 29))) (g_len : mg "len" = none) (c__law_draw : Cal P w K mg base (L2.CX P w) W 1 "_law_draw" 13 2 f__law_draw) (c__law_known_plan : Cal P w K mg base (L2.CX P w) W 8 "_law_known_plan" 27 2 f__law_known_plan) (c__law_free_plan : Cal P w K mg base (L2.CX P w) W 8 "_law_free_plan" 26 3 f__law_free_plan) (c__law_shuffled : Cal P w K mg base (L2.CX P w) W 3 "_law_shuffled" 16 2 f__law_shuffled) (c__law_renamed : Cal P w K mg base (L2.CX P w) W 1 "_law_renamed" 28 3 f__law_renamed) :
    Cal P w K mg base (L2.CX P w) W 9 "_law_plan" 29 2 f__law_plan :=
  ⟨fd, ["_law_m", "_law_most"], gokD F sc__law_plan fun cdv B up z H E fr => 
      (dss_cons (ds_set (i := 2) sc__law_plan.nd rfl (Or.inl rfl) (de_add de_int (de_callT c__law_draw fr px rfl (da_cons (de_var (i := 0) rfl (Or.inl rfl)) (da_cons (de_var (i := 1) rfl (Or.inl rfl)) da_nil)) (hlen := (len_cons (len_cons len_nil))))))
      (dss_cons (ds_if (dt_cmp (op_eqP fr.r.units) od_eq (de_callT c__law_draw fr px rfl (da_cons (de_var (i := 0) rfl (Or.inl rfl)) (da_cons de_int da_nil)) (hlen := (len_cons (len_cons len_nil)))) de_int) (dss_one (ds_set (i := 3) sc__law_plan.nd rfl (Or.inl rfl) (de_callT c__law_known_plan fr px rfl (da_cons (de_var (i := 0) rfl (Or.inl rfl)) (da_cons (de_var (i := 2) rfl (Or.inl rfl)) da_nil)) (hlen := (len_cons (len_cons len_nil)))))) (dss_one (ds_set (i := 3) sc__law_plan.nd rfl (Or.inl rfl) (de_callT c__law_free_plan fr px rfl (da_cons (de_var (i := 0) rfl (Or.inl rfl)) (da_cons (de_var (i := 2) rfl (Or.inl rfl)) (da_cons (de_mul de_int (de_var (i := 2) rfl (Or.inl rfl))) da_nil))) (hlen := (len_cons (len_cons (len_cons len_nil))))))))
      (dss_one (ds_ret (de_callP c__law_renamed fr px rfl (da_cons (de_var (i := 3) rfl (Or.inl rfl)) (da_cons (de_callT c__law_shuffled fr px rfl (da_cons (de_var (i := 0) rfl (Or.inl rfl)) (da_cons (de_var (i := 2) rfl (Or.inl rfl)) da_nil)) (hlen := (len_cons (len_cons len_nil)))) (da_cons (de_callT c__law_shuffled fr px rfl (da_cons (de_var (i := 0) rfl (Or.inl rfl)) (da_cons (de_callB call_len_seq cd_len rfl g_len boot_len (da_cons (de_ix (de_var (i := 3) rfl (Or.inl rfl)) de_int) da_nil)) da_nil)) (hlen := (len_cons (len_cons len_nil)))) da_nil))) (hlen := (len_cons (len_cons (len_cons len_nil))))))))), hm, F.kp, F.bindsN fun _ _ _ _ _ _ us hl => match us, hl with | [_, _], _ => rfl⟩
theorem sc__law_turned_plan : FnScope ["_law_plan_here", "_law_rows", "_law_a", "_law_b"] ["_law_plan_here"] (defScope s__law_turned_plan) := ⟨rfl, rfl, rfl, by decide +kernel, rfl, by decide +kernel, by decide +kernel⟩
theorem ok__law_turned_plan {fd : FuncData} (F : FunD K "_law_turned_plan" "_law_turned_plan" (defArgs s__law_turned_plan) (defBody s__law_turned_plan) (defScope s__law_turned_plan) [] [] (W.F 30) fd) (hm : mg "_law_turned_plan" = some (.ref (W.F 30))) (g_sorted : mg "sorted" = none) (g_tuple : mg "tuple" = none) :
    Cal P w K mg base (L2.CX P w) W 1 "_law_turned_plan" 30 1 f__law_turned_plan :=
  ⟨fd, ["_law_plan_here"], gokD F sc__law_turned_plan fun cdv B up z H E fr => 
      (dss_cons (ds_set (i := 1) sc__law_turned_plan.nd rfl (Or.inl rfl) (de_callTy call_tuple_of cd_tuple rfl g_tuple boot_tuple (da_cons (de_frz (dn_lc (own := [("_law_a", 2), ("_law_b", 3)]) (is := [2, 3]) rfl sc__law_turned_plan.nd (di_seq (de_ix (de_var (i := 0) rfl (Or.inl rfl)) de_int)) (blkOk_by rfl) ⟨gTup _ 2 (gsOf [2, 3]), fun _ _ _ _ _ => pg_tup rfl (pgs_cons (pg_name (i := 2) sc__law_turned_plan.nd rfl (Or.inl rfl)) (pgs_cons (pg_name (i := 3) sc__law_turned_plan.nd rfl (Or.inl rfl)) pgs_nil)), tr_tup rfl⟩ (fun _ _ _ _ _ => dts_nil) (fun _ _ _ _ _ => (de_tup (da_cons (de_var (i := 3) rfl (Or.inl rfl)) (da_cons (de_var (i := 2) rfl (Or.inl rfl)) da_nil)))) (by decide))) da_nil)))
      (dss_one (ds_ret (de_tup (da_cons (de_ix (de_var (i := 0) rfl (Or.inl rfl)) de_int) (da_cons (de_var (i := 1) rfl (Or.inl rfl)) (da_cons (de_callTy call_tuple_of cd_tuple rfl g_tuple boot_tuple (da_cons (de_frz (dn_callB (cr_sortB fr.r.units) cn_sortB rfl g_sorted PyProof.Rows.boot_sorted (da_cons (de_frz (dn_lc (own := [("_law_a", 2), ("_law_b", 3)]) (is := [2, 3]) rfl sc__law_turned_plan.nd (di_seq (de_ix (de_var (i := 0) rfl (Or.inl rfl)) de_int)) (blkOk_by rfl) ⟨gTup _ 2 (gsOf [2, 3]), fun _ _ _ _ _ => pg_tup rfl (pgs_cons (pg_name (i := 2) sc__law_turned_plan.nd rfl (Or.inl rfl)) (pgs_cons (pg_name (i := 3) sc__law_turned_plan.nd rfl (Or.inl rfl)) pgs_nil)), tr_tup rfl⟩ (fun _ _ _ _ _ => dts_nil) (fun _ _ _ _ _ => (de_tup (da_cons (de_var (i := 3) rfl (Or.inl rfl)) (da_cons (de_var (i := 2) rfl (Or.inl rfl)) da_nil)))) (by decide))) da_nil))) da_nil)) da_nil))))))), hm, F.kp, F.bindsN fun _ _ _ _ _ _ us hl => match us, hl with | [_], _ => rfl⟩
theorem sc__law_begins : FnScope ["_law_plan_here", "_law_point", "_law_count", "_law_one"] ["_law_plan_here", "_law_point"] (defScope s__law_begins) := ⟨rfl, rfl, rfl, by decide +kernel, rfl, by decide +kernel, by decide +kernel⟩
theorem ok__law_begins {fd : FuncData} (F : FunD K "_law_begins" "_law_begins" (defArgs s__law_begins) (defBody s__law_begins) (defScope s__law_begins) [] [] (W.F 31) fd) (hm : mg "_law_begins" = some (.ref (W.F 31))) (g_len : mg "len" = none) (g_range : mg "range" = none) (c__law_ends : Cal P w K mg base (L2.CX P w) W 1 "_law_ends" 17 2 f__law_ends) :
    Cal P w K mg base (L2.CX P w) W 2 "_law_begins" 31 2 f__law_begins :=
  ⟨fd, ["_law_plan_here", "_law_point"], gokD F sc__law_begins fun cdv B up z H E fr => 
      (dss_cons (ds_set (i := 2) sc__law_begins.nd rfl (Or.inl rfl) (de_callB call_len_seq cd_len rfl g_len boot_len (da_cons (de_ix (de_var (i := 0) rfl (Or.inr (Or.inl rfl))) de_int) da_nil)))
      (dss_one (ds_ret (de_frz (dn_lc (own := [("_law_one", 3)]) (is := [3]) rfl sc__law_begins.nd (di_rg2 rfl g_range (de_neg (de_var (i := 2) rfl (Or.inl rfl))) (de_var (i := 2) rfl (Or.inl rfl))) (blkOk_by rfl) ⟨gName 3, fun _ _ _ _ _ => pg_name (i := 3) sc__law_begins.nd rfl (Or.inl rfl), tr_name⟩ (fun _ _ _ _ _ => (dts_one (dt_cmp (op_eqP fr.r.units) od_eq (de_ix (de_callP c__law_ends fr passL rfl (da_cons (de_var (i := 0) rfl (Or.inr (Or.inl rfl))) (da_cons (de_var (i := 3) rfl (Or.inl rfl)) da_nil)) (hlen := (len_cons (len_cons len_nil)))) de_int) (de_var (i := 1) rfl (Or.inr (Or.inl rfl)))))) (fun _ _ _ _ _ => (de_var (i := 3) rfl (Or.inl rfl))) (by decide)))))), hm, F.kp, F.bindsN fun _ _ _ _ _ _ us hl => match us, hl with | [_, _], _ => rfl⟩
theorem sc__law_first : FnScope ["_law_some"] ["_law_some"] (defScope s__law_first) := ⟨rfl, rfl, rfl, by decide +kernel, rfl, by decide +kernel, by decide +kernel⟩
theorem ok__law_first {fd : FuncData} (F : FunD K "_law_first" "_law_first" (defArgs s__law_first) (defBody s__law_first) (defScope s__law_first) [] [] (W.F 32) fd) (hm : mg "_law_first" = some (.ref (W.F 32))) (g_len : mg "len" = none) :
    Cal P w K mg base (L2.CX P w) W 1 "_law_first" 32 1 f__law_first :=
  ⟨fd, ["_law_some"], gokD F sc__law_first fun cdv B up z H E fr => 
      (dss_one (ds_ret (de_if (dt_cmp (op_eqP fr.r.units) od_eq (de_var (i := 0) rfl (Or.inl rfl)) (de_frz (dn_lst da_nil))) de_non (de_if (dt_cmp (op_eqP fr.r.units) od_eq (de_callB call_len_seq cd_len rfl g_len boot_len (da_cons (de_var (i := 0) rfl (Or.inl rfl)) da_nil)) de_int) (de_ix (de_var (i := 0) rfl (Or.inl rfl)) de_int) de_str)))), hm, F.kp, F.bindsN fun _ _ _ _ _ _ us hl => match us, hl with | [_], _ => rfl⟩
theorem sc__law_arrow_told : FnScope ["_law_plan_here", "_law_arrow", "_law_arrows", "_law_due", "_law_ahead", "_law_nil_ahead", "_law_begun_here", "_law_ended_here", "_law_against", "_law_one"] ["_law_plan_here", "_law_arrow"] (defScope s__law_arrow_told) := ⟨rfl, rfl, rfl, by decide +kernel, rfl, by decide +kernel, by decide +kernel⟩
theorem ok__law_arrow_told {fd : FuncData} (F : FunD K "_law_arrow_told" "_law_arrow_told" (defArgs s__law_arrow_told) (defBody s__law_arrow_told) (defScope s__law_arrow_told) [] [] (W.F 33) fd) (hm : mg "_law_arrow_told" = some (.ref (W.F 33))) (g_len : mg "len" = none) (g_list : mg "list" = none) (g_range : mg "range" = none) (c__law_next : Cal P w K mg base (L2.CX P w) W 4 "_law_next" 20 2 f__law_next) (c__law_nil : Cal P w K mg base (L2.CX P w) W 1 "_law_nil" 21 2 f__law_nil) (c_next_of : Cal P w K mg base (L2.CX P w) W 1 "next_of" 1 2 f_next_of) (c_nil_of : Cal P w K mg base (L2.CX P w) W 1 "nil_of" 2 2 f_nil_of) (c__law_like : Cal P w K mg base (L2.CX P w) W 1 "_law_like" 15 2 f__law_like) (c__law_first : Cal P w K mg base (L2.CX P w) W 1 "_law_first" 32 1 f__law_first) (c_ahead_of : Cal P w K mg base (L2.CX P w) W 1 "ahead_of" 3 2 f_ahead_of) (c_nil_ahead_of : Cal P w K mg base (L2.CX P w) W 1 "nil_ahead_of" 4 2 f_nil_ahead_of) (c_mate_of : Cal P w K mg base (L2.CX P w) W 2 "mate_of" 7 2 f_mate_of) :
    Cal P w K mg base (L2.CX P w) W 5 "_law_arrow_told" 33 2 f__law_arrow_told :=
  ⟨fd, ["_law_plan_here", "_law_arrow"], gokD F sc__law_arrow_told fun cdv B up z H E fr => 
      (dss_cons (ds_set (i := 2) sc__law_arrow_told.nd rfl (Or.inl rfl) (de_frz (dn_listRg rfl rfl g_list (dr_1 rfl g_range (de_callB call_len_seq cd_len rfl g_len boot_len (da_cons (de_ix (de_var (i := 0) rfl (Or.inr (Or.inl rfl))) de_int) da_nil))))))
      (dss_cons (ds_set (i := 3) sc__law_arrow_told.nd rfl (Or.inl rfl) (de_tup (da_cons (de_callP c__law_next fr px rfl (da_cons (de_var (i := 0) rfl (Or.inr (Or.inl rfl))) (da_cons (de_var (i := 1) rfl (Or.inr (Or.inl rfl))) da_nil)) (hlen := (len_cons (len_cons len_nil)))) (da_cons (de_callP c__law_nil fr px rfl (da_cons (de_var (i := 0) rfl (Or.inr (Or.inl rfl))) (da_cons (de_var (i := 1) rfl (Or.inr (Or.inl rfl))) da_nil)) (hlen := (len_cons (len_cons len_nil)))) da_nil))))
      (dss_cons (ds_if (dt_not (dt_tru (de_callP c__law_like fr px rfl (da_cons (de_tup (da_cons (de_callP c_next_of fr px rfl (da_cons (de_var (i := 0) rfl (Or.inr (Or.inl rfl))) (da_cons (de_var (i := 1) rfl (Or.inr (Or.inl rfl))) da_nil)) (hlen := (len_cons (len_cons len_nil)))) (da_cons (de_callP c_nil_of fr px rfl (da_cons (de_var (i := 0) rfl (Or.inr (Or.inl rfl))) (da_cons (de_var (i := 1) rfl (Or.inr (Or.inl rfl))) da_nil)) (hlen := (len_cons (len_cons len_nil)))) da_nil))) (da_cons (de_var (i := 3) rfl (Or.inl rfl)) da_nil)) (hlen := (len_cons (len_cons len_nil)))))) (dss_one (ds_ret de_bl)) dss_nil)
      (dss_cons (ds_set (i := 4) sc__law_arrow_told.nd rfl (Or.inl rfl) (de_callP c__law_first fr px rfl (da_cons (de_frz (dn_lc (own := [("_law_one", 9)]) (is := [9]) rfl sc__law_arrow_told.nd (di_seq (de_var (i := 2) rfl (Or.inl rfl))) (blkOk_by rfl) ⟨gName 9, fun _ _ _ _ _ => pg_name (i := 9) sc__law_arrow_told.nd rfl (Or.inl rfl), tr_name⟩ (fun _ _ _ _ _ => (dts_one (dt_cmp (op_eqP fr.r.units) od_eq (de_callP c__law_next fr passL rfl (da_cons (de_var (i := 0) rfl (Or.inr (Or.inl rfl))) (da_cons (de_var (i := 9) rfl (Or.inl rfl)) da_nil)) (hlen := (len_cons (len_cons len_nil)))) (de_var (i := 1) rfl (Or.inr (Or.inl rfl)))))) (fun _ _ _ _ _ => (de_var (i := 9) rfl (Or.inl rfl))) (by decide))) da_nil) (hlen := (len_cons len_nil))))
      (dss_cons (ds_set (i := 5) sc__law_arrow_told.nd rfl (Or.inl rfl) (de_callP c__law_first fr px rfl (da_cons (de_frz (dn_lc (own := [("_law_one", 9)]) (is := [9]) rfl sc__law_arrow_told.nd (di_seq (de_var (i := 2) rfl (Or.inl rfl))) (blkOk_by rfl) ⟨gName 9, fun _ _ _ _ _ => pg_name (i := 9) sc__law_arrow_told.nd rfl (Or.inl rfl), tr_name⟩ (fun _ _ _ _ _ => (dts_one (dt_cmp (op_eqP fr.r.units) od_eq (de_callP c__law_nil fr passL rfl (da_cons (de_var (i := 0) rfl (Or.inr (Or.inl rfl))) (da_cons (de_var (i := 9) rfl (Or.inl rfl)) da_nil)) (hlen := (len_cons (len_cons len_nil)))) (de_var (i := 1) rfl (Or.inr (Or.inl rfl)))))) (fun _ _ _ _ _ => (de_var (i := 9) rfl (Or.inl rfl))) (by decide))) da_nil) (hlen := (len_cons len_nil))))
      (dss_cons (ds_if (dt_not (dt_tru (de_callP c__law_like fr px rfl (da_cons (de_tup (da_cons (de_callP c_ahead_of fr px rfl (da_cons (de_var (i := 0) rfl (Or.inr (Or.inl rfl))) (da_cons (de_var (i := 1) rfl (Or.inr (Or.inl rfl))) da_nil)) (hlen := (len_cons (len_cons len_nil)))) (da_cons (de_callP c_nil_ahead_of fr px rfl (da_cons (de_var (i := 0) rfl (Or.inr (Or.inl rfl))) (da_cons (de_var (i := 1) rfl (Or.inr (Or.inl rfl))) da_nil)) (hlen := (len_cons (len_cons len_nil)))) da_nil))) (da_cons (de_tup (da_cons (de_var (i := 4) rfl (Or.inl rfl)) (da_cons (de_var (i := 5) rfl (Or.inl rfl)) da_nil))) da_nil)) (hlen := (len_cons (len_cons len_nil)))))) (dss_one (ds_ret de_bl)) dss_nil)
      (dss_cons (ds_set (i := 6) sc__law_arrow_told.nd rfl (Or.inl rfl) (de_callP c__law_first fr px rfl (da_cons (de_frz (dn_lc (own := [("_law_one", 9)]) (is := [9]) rfl sc__law_arrow_told.nd (di_seq (de_var (i := 2) rfl (Or.inl rfl))) (blkOk_by rfl) ⟨gName 9, fun _ _ _ _ _ => pg_name (i := 9) sc__law_arrow_told.nd rfl (Or.inl rfl), tr_name⟩ (fun _ _ _ _ _ => (dts_one (dw_pt (dw_and (dt_cmp (op_neP fr.r.units) od_ne (de_var (i := 9) rfl (Or.inl rfl)) (de_var (i := 1) rfl (Or.inr (Or.inl rfl)))) (dw_and1 (dt_cmp (op_eqP fr.r.units) od_eq (de_ix (de_ix (de_ix (de_var (i := 0) rfl (Or.inr (Or.inl rfl))) de_int) (de_var (i := 9) rfl (Or.inl rfl))) de_int) (de_ix (de_ix (de_ix (de_var (i := 0) rfl (Or.inr (Or.inl rfl))) de_int) (de_var (i := 1) rfl (Or.inr (Or.inl rfl)))) de_int))))))) (fun _ _ _ _ _ => (de_var (i := 9) rfl (Or.inl rfl))) (by decide))) da_nil) (hlen := (len_cons len_nil))))
      (dss_cons (ds_set (i := 7) sc__law_arrow_told.nd rfl (Or.inl rfl) (de_callP c__law_first fr px rfl (da_cons (de_frz (dn_lc (own := [("_law_one", 9)]) (is := [9]) rfl sc__law_arrow_told.nd (di_seq (de_var (i := 2) rfl (Or.inl rfl))) (blkOk_by rfl) ⟨gName 9, fun _ _ _ _ _ => pg_name (i := 9) sc__law_arrow_told.nd rfl (Or.inl rfl), tr_name⟩ (fun _ _ _ _ _ => (dts_one (dw_pt (dw_and (dt_cmp (op_neP fr.r.units) od_ne (de_var (i := 9) rfl (Or.inl rfl)) (de_var (i := 1) rfl (Or.inr (Or.inl rfl)))) (dw_and1 (dt_cmp (op_eqP fr.r.units) od_eq (de_ix (de_ix (de_ix (de_var (i := 0) rfl (Or.inr (Or.inl rfl))) de_int) (de_var (i := 9) rfl (Or.inl rfl))) de_int) (de_ix (de_ix (de_ix (de_var (i := 0) rfl (Or.inr (Or.inl rfl))) de_int) (de_var (i := 1) rfl (Or.inr (Or.inl rfl)))) de_int))))))) (fun _ _ _ _ _ => (de_var (i := 9) rfl (Or.inl rfl))) (by decide))) da_nil) (hlen := (len_cons len_nil))))
      (dss_cons (ds_set (i := 8) sc__law_arrow_told.nd rfl (Or.inl rfl) (de_if (dt_cmp op_isN od_isN (de_var (i := 7) rfl (Or.inl rfl)) de_non) de_non (de_sub (de_neg de_int) (de_var (i := 7) rfl (Or.inl rfl)))))
      (dss_one (ds_ret (de_callP c__law_like fr px rfl (da_cons (de_tup (da_cons (de_callP c_mate_of fr px rfl (da_cons (de_var (i := 0) rfl (Or.inr (Or.inl rfl))) (da_cons (de_var (i := 1) rfl (Or.inr (Or.inl rfl))) da_nil)) (hlen := (len_cons (len_cons len_nil)))) (da_cons (de_callP c_mate_of fr px rfl (da_cons (de_var (i := 0) rfl (Or.inr (Or.inl rfl))) (da_cons (de_sub (de_neg de_int) (de_var (i := 1) rfl (Or.inr (Or.inl rfl)))) da_nil)) (hlen := (len_cons (len_cons len_nil)))) da_nil))) (da_cons (de_tup (da_cons (de_var (i := 6) rfl (Or.inl rfl)) (da_cons (de_var (i := 8) rfl (Or.inl rfl)) da_nil))) da_nil)) (hlen := (len_cons (len_cons len_nil))))))))))))))), hm, F.kp, F.bindsN fun _ _ _ _ _ _ us hl => match us, hl with | [_, _], _ => rfl⟩
theorem sc__law_letter_told : FnScope ["_law_plan_here", "_law_letter", "_law_after_here", "_law_count", "_law_other"] ["_law_plan_here", "_law_letter"] (defScope s__law_letter_told) := ⟨rfl, rfl, rfl, by decide +kernel, rfl, by decide +kernel, by decide +kernel⟩
theorem ok__law_letter_told {fd : FuncData} (F : FunD K "_law_letter_told" "_law_letter_told" (defArgs s__law_letter_told) (defBody s__law_letter_told) (defScope s__law_letter_told) [] [] (W.F 34) fd) (hm : mg "_law_letter_told" = some (.ref (W.F 34))) (g_len : mg "len" = none) (g_range : mg "range" = none) (g_tuple : mg "tuple" = none) (c_ends_of : Cal P w K mg base (L2.CX P w) W 1 "ends_of" 0 2 f_ends_of) (c__law_ends : Cal P w K mg base (L2.CX P w) W 1 "_law_ends" 17 2 f__law_ends) (c__law_like : Cal P w K mg base (L2.CX P w) W 1 "_law_like" 15 2 f__law_like) (c__law_after : Cal P w K mg base (L2.CX P w) W 3 "_law_after" 19 2 f__law_after) (c_followers : Cal P w K mg base (L2.CX P w) W 2 "followers" 8 2 f_followers) (c_may_follow : Cal P w K mg base (L2.CX P w) W 3 "may_follow" 9 3 f_may_follow) :
    Cal P w K mg base (L2.CX P w) W 4 "_law_letter_told" 34 2 f__law_letter_told :=
  ⟨fd, ["_law_plan_here", "_law_letter"], gokD F sc__law_letter_told fun cdv B up z H E fr => 
      (dss_cons (ds_if (dt_not (dt_tru (de_callP c__law_like fr px rfl (da_cons (de_callP c_ends_of fr px rfl (da_cons (de_var (i := 0) rfl (Or.inl rfl)) (da_cons (de_var (i := 1) rfl (Or.inl rfl)) da_nil)) (hlen := (len_cons (len_cons len_nil)))) (da_cons (de_callP c__law_ends fr px rfl (da_cons (de_var (i := 0) rfl (Or.inl rfl)) (da_cons (de_var (i := 1) rfl (Or.inl rfl)) da_nil)) (hlen := (len_cons (len_cons len_nil)))) da_nil)) (hlen := (len_cons (len_cons len_nil)))))) (dss_one (ds_ret de_bl)) dss_nil)
      (dss_cons (ds_set (i := 2) sc__law_letter_told.nd rfl (Or.inl rfl) (de_callP c__law_after fr px rfl (da_cons (de_var (i := 0) rfl (Or.inl rfl)) (da_cons (de_var (i := 1) rfl (Or.inl rfl)) da_nil)) (hlen := (len_cons (len_cons len_nil)))))
      (dss_cons (ds_if (dt_not (dt_tru (de_callP c__law_like fr px rfl (da_cons (de_callP c_followers fr px rfl (da_cons (de_var (i := 0) rfl (Or.inl rfl)) (da_cons (de_var (i := 1) rfl (Or.inl rfl)) da_nil)) (hlen := (len_cons (len_cons len_nil)))) (da_cons (de_callTy call_tuple_of cd_tuple rfl g_tuple boot_tuple (da_cons (de_var (i := 2) rfl (Or.inl rfl)) da_nil)) da_nil)) (hlen := (len_cons (len_cons len_nil)))))) (dss_one (ds_ret de_bl)) dss_nil)
      (dss_cons (ds_set (i := 3) sc__law_letter_told.nd rfl (Or.inl rfl) (de_callB call_len_seq cd_len rfl g_len boot_len (da_cons (de_ix (de_var (i := 0) rfl (Or.inl rfl)) de_int) da_nil)))
      (dss_cons (ds_for pown rfl (di_rg2 rfl g_range (de_neg (de_var (i := 3) rfl (Or.inl rfl))) (de_var (i := 3) rfl (Or.inl rfl))) (dg_name (i := 4) sc__law_letter_told.nd rfl (Or.inl rfl)) (dss_one (ds_if (dt_not (dt_tru (de_callP c__law_like fr px rfl (da_cons (de_callP c_may_follow fr px rfl (da_cons (de_var (i := 0) rfl (Or.inl rfl)) (da_cons (de_var (i := 1) rfl (Or.inl rfl)) (da_cons (de_var (i := 4) rfl (Or.inl rfl)) da_nil))) (hlen := (len_cons (len_cons (len_cons len_nil))))) (da_cons (de_cmp (op_inP fr.r.units) od_in (de_var (i := 4) rfl (Or.inl rfl)) (de_var (i := 2) rfl (Or.inl rfl))) da_nil)) (hlen := (len_cons (len_cons len_nil)))))) (dss_one (ds_ret de_bl)) dss_nil)))
      (dss_one (ds_ret de_bl))))))), hm, F.kp, F.bindsN fun _ _ _ _ _ _ us hl => match us, hl with | [_, _], _ => rfl⟩
theorem sc__law_plan_told : FnScope ["_law_plan_here", "_law_count", "_law_letter", "_law_arrow", "_law_point"] ["_law_plan_here"] (defScope s__law_plan_told) := ⟨rfl, rfl, rfl, by decide +kernel, rfl, by decide +kernel, by decide +kernel⟩
theorem ok__law_plan_told {fd : FuncData} (F : FunD K "_law_plan_told" "_law_plan_told" (defArgs s__law_plan_told) (defBody s__law_plan_told) (defScope s__law_plan_told) [] [] (W.F 35) fd) (hm : mg "_law_plan_told" = some (.ref (W.F 35))) (g_len : mg "len" = none) (g_range : mg "range" = none) (g_tuple : mg "tuple" = none) (c__law_letter_told : Cal P w K mg base (L2.CX P w) W 4 "_law_letter_told" 34 2 f__law_letter_told) (c__law_arrow_told : Cal P w K mg base (L2.CX P w) W 5 "_law_arrow_told" 33 2 f__law_arrow_told) (c_from_point : Cal P w K mg base (L2.CX P w) W 2 "from_point" 10 2 f_from_point) (c__law_begins : Cal P w K mg base (L2.CX P w) W 2 "_law_begins" 31 2 f__law_begins) (c__law_like : Cal P w K mg base (L2.CX P w) W 1 "_law_like" 15 2 f__law_like) :
    Cal P w K mg base (L2.CX P w) W 6 "_law_plan_told" 35 1 f__law_plan_told :=
  ⟨fd, ["_law_plan_here"], gokD F sc__law_plan_told fun cdv B up z H E fr => 
      (dss_cons (ds_set (i := 1) sc__law_plan_told.nd rfl (Or.inl rfl) (de_callB call_len_seq cd_len rfl g_len boot_len (da_cons (de_ix (de_var (i := 0) rfl (Or.inl rfl)) de_int) da_nil)))
      (dss_cons (ds_for pown rfl (di_rg2 rfl g_range (de_neg (de_var (i := 1) rfl (Or.inl rfl))) (de_var (i := 1) rfl (Or.inl rfl))) (dg_name (i := 2) sc__law_plan_told.nd rfl (Or.inl rfl)) (dss_one (ds_if (dt_not (dt_tru (de_callP c__law_letter_told fr px rfl (da_cons (de_var (i := 0) rfl (Or.inl rfl)) (da_cons (de_var (i := 2) rfl (Or.inl rfl)) da_nil)) (hlen := (len_cons (len_cons len_nil)))))) (dss_one (ds_ret de_bl)) dss_nil)))
      (dss_cons (ds_for pown rfl (di_rg1 rfl g_range (de_var (i := 1) rfl (Or.inl rfl))) (dg_name (i := 3) sc__law_plan_told.nd rfl (Or.inl rfl)) (dss_one (ds_if (dt_not (dt_tru (de_callP c__law_arrow_told fr px rfl (da_cons (de_var (i := 0) rfl (Or.inl rfl)) (da_cons (de_var (i := 3) rfl (Or.inl rfl)) da_nil)) (hlen := (len_cons (len_cons len_nil)))))) (dss_one (ds_ret de_bl)) dss_nil)))
      (dss_cons (ds_for pown rfl (di_rg1 rfl g_range (de_ix (de_var (i := 0) rfl (Or.inl rfl)) de_int)) (dg_name (i := 4) sc__law_plan_told.nd rfl (Or.inl rfl)) (dss_one (ds_if (dt_not (dt_tru (de_callP c__law_like fr px rfl (da_cons (de_callP c_from_point fr px rfl (da_cons (de_var (i := 0) rfl (Or.inl rfl)) (da_cons (de_var (i := 4) rfl (Or.inl rfl)) da_nil)) (hlen := (len_cons (len_cons len_nil)))) (da_cons (de_callTy call_tuple_of cd_tuple rfl g_tuple boot_tuple (da_cons (de_callP c__law_begins fr px rfl (da_cons (de_var (i := 0) rfl (Or.inl rfl)) (da_cons (de_var (i := 4) rfl (Or.inl rfl)) da_nil)) (hlen := (len_cons (len_cons len_nil)))) da_nil)) da_nil)) (hlen := (len_cons (len_cons len_nil)))))) (dss_one (ds_ret de_bl)) dss_nil)))
      (dss_one (ds_ret de_bl)))))), hm, F.kp, F.bindsN fun _ _ _ _ _ _ us hl => match us, hl with | [_], _ => rfl⟩
theorem sc__law_turned_told : FnScope ["_law_plan_here", "_law_other", "_law_arrow", "_law_on", "_law_nil_here"] ["_law_plan_here"] (defScope s__law_turned_told) := ⟨rfl, rfl, rfl, by decide +kernel, rfl, by decide +kernel, by decide +kernel⟩
theorem ok__law_turned_told {fd : FuncData} (F : FunD K "_law_turned_told" "_law_turned_told" (defArgs s__law_turned_told) (defBody s__law_turned_told) (defScope s__law_turned_told) [] [] (W.F 36) fd) (hm : mg "_law_turned_told" = some (.ref (W.F 36))) (g_len : mg "len" = none) (g_range : mg "range" = none) (c_turned_plan : Cal P w K mg base (L2.CX P w) W 1 "turned_plan" 11 1 f_turned_plan) (c__law_turned_plan : Cal P w K mg base (L2.CX P w) W 1 "_law_turned_plan" 30 1 f__law_turned_plan) (c__law_like : Cal P w K mg base (L2.CX P w) W 1 "_law_like" 15 2 f__law_like) (c_next_of : Cal P w K mg base (L2.CX P w) W 1 "next_of" 1 2 f_next_of) (c_ahead_of : Cal P w K mg base (L2.CX P w) W 1 "ahead_of" 3 2 f_ahead_of) (c_nil_ahead_of : Cal P w K mg base (L2.CX P w) W 1 "nil_ahead_of" 4 2 f_nil_ahead_of) (c_nil_of : Cal P w K mg base (L2.CX P w) W 1 "nil_of" 2 2 f_nil_of) (c__law_plan_told : Cal P w K mg base (L2.CX P w) W 6 "_law_plan_told" 35 1 f__law_plan_told) :
    Cal P w K mg base (L2.CX P w) W 7 "_law_turned_told" 36 1 f__law_turned_told :=
  ⟨fd, ["_law_plan_here"], gokD F sc__law_turned_told fun cdv B up z H E fr => 
      (dss_cons (ds_set (i := 1) sc__law_turned_told.nd rfl (Or.inl rfl) (de_callP c_turned_plan fr px rfl (da_cons (de_var (i := 0) rfl (Or.inl rfl)) da_nil) (hlen := (len_cons len_nil))))
      (dss_cons (ds_if (dw_pt (dw_or (dt_not (dt_tru (de_callP c__law_like fr px rfl (da_cons (de_var (i := 1) rfl (Or.inl rfl)) (da_cons (de_callP c__law_turned_plan fr px rfl (da_cons (de_var (i := 0) rfl (Or.inl rfl)) da_nil) (hlen := (len_cons len_nil))) da_nil)) (hlen := (len_cons (len_cons len_nil)))))) (dw_or1 (dt_not (dt_tru (de_callP c__law_like fr px rfl (da_cons (de_callP c_turned_plan fr px rfl (da_cons (de_var (i := 1) rfl (Or.inl rfl)) da_nil) (hlen := (len_cons len_nil))) (da_cons (de_var (i := 0) rfl (Or.inl rfl)) da_nil)) (hlen := (len_cons (len_cons len_nil))))))))) (dss_one (ds_ret de_bl)) dss_nil)
      (dss_cons (ds_for pown rfl (di_rg1 rfl g_range (de_callB call_len_seq cd_len rfl g_len boot_len (da_cons (de_ix (de_var (i := 0) rfl (Or.inl rfl)) de_int) da_nil))) (dg_name (i := 2) sc__law_turned_told.nd rfl (Or.inl rfl)) (dss_cons (ds_if (dt_not (dt_tru (de_callP c__law_like fr px rfl (da_cons (de_callP c_next_of fr px rfl (da_cons (de_var (i := 1) rfl (Or.inl rfl)) (da_cons (de_var (i := 2) rfl (Or.inl rfl)) da_nil)) (hlen := (len_cons (len_cons len_nil)))) (da_cons (de_callP c_ahead_of fr px rfl (da_cons (de_var (i := 0) rfl (Or.inl rfl)) (da_cons (de_var (i := 2) rfl (Or.inl rfl)) da_nil)) (hlen := (len_cons (len_cons len_nil)))) da_nil)) (hlen := (len_cons (len_cons len_nil)))))) (dss_one (ds_ret de_bl)) dss_nil)
      (dss_cons (ds_if (dt_not (dt_tru (de_callP c__law_like fr px rfl (da_cons (de_callP c_nil_ahead_of fr px rfl (da_cons (de_var (i := 1) rfl (Or.inl rfl)) (da_cons (de_var (i := 2) rfl (Or.inl rfl)) da_nil)) (hlen := (len_cons (len_cons len_nil)))) (da_cons (de_callP c_nil_of fr px rfl (da_cons (de_var (i := 0) rfl (Or.inl rfl)) (da_cons (de_var (i := 2) rfl (Or.inl rfl)) da_nil)) (hlen := (len_cons (len_cons len_nil)))) da_nil)) (hlen := (len_cons (len_cons len_nil)))))) (dss_one (ds_ret de_bl)) dss_nil)
      (dss_cons (ds_par (i := 3) (j := 4) rfl sc__law_turned_told.nd rfl rfl (by decide) rfl rfl (de_callP c_next_of fr px rfl (da_cons (de_var (i := 0) rfl (Or.inl rfl)) (da_cons (de_var (i := 2) rfl (Or.inl rfl)) da_nil)) (hlen := (len_cons (len_cons len_nil)))) (de_callP c_nil_of fr px rfl (da_cons (de_var (i := 0) rfl (Or.inl rfl)) (da_cons (de_var (i := 2) rfl (Or.inl rfl)) da_nil)) (hlen := (len_cons (len_cons len_nil)))) rfl)
      (dss_cons (ds_if (dw_pt (dw_and (dt_cmp op_notN od_notN (de_var (i := 3) rfl (Or.inl rfl)) de_non) (dw_and1 (dt_not (dt_tru (de_callP c__law_like fr px rfl (da_cons (de_callP c_ahead_of fr px rfl (da_cons (de_var (i := 0) rfl (Or.inl rfl)) (da_cons (de_var (i := 3) rfl (Or.inl rfl)) da_nil)) (hlen := (len_cons (len_cons len_nil)))) (da_cons (de_var (i := 2) rfl (Or.inl rfl)) da_nil)) (hlen := (len_cons (len_cons len_nil))))))))) (dss_one (ds_ret de_bl)) dss_nil)
      (dss_one (ds_if (dw_pt (dw_and (dt_cmp op_notN od_notN (de_var (i := 4) rfl (Or.inl rfl)) de_non) (dw_and1 (dt_not (dt_tru (de_callP c__law_like fr px rfl (da_cons (de_callP c_nil_ahead_of fr px rfl (da_cons (de_var (i := 0) rfl (Or.inl rfl)) (da_cons (de_var (i := 4) rfl (Or.inl rfl)) da_nil)) (hlen := (len_cons (len_cons len_nil)))) (da_cons (de_var (i := 2) rfl (Or.inl rfl)) da_nil)) (hlen := (len_cons (len_cons len_nil))))))))) (dss_one (ds_ret de_bl)) dss_nil)))))))
      (dss_one (ds_ret (de_callP c__law_plan_told fr px rfl (da_cons (de_var (i := 1) rfl (Or.inl rfl)) da_nil) (hlen := (len_cons len_nil)))))))), hm, F.kp, F.bindsN fun _ _ _ _ _ _ us hl => match us, hl with | [_], _ => rfl⟩
theorem sc__law_hands_right : FnScope ["_law_loop", "_law_side", "_law_ring", "_law_line", "_law_told"] [] (defScope s__law_hands_right) := ⟨rfl, rfl, rfl, by decide +kernel, rfl, by decide +kernel, by decide +kernel⟩
theorem ok__law_hands_right {fd : FuncData} (F : FunD K "_law_hands_right" "_law_hands_right" (defArgs s__law_hands_right) (defBody s__law_hands_right) (defScope s__law_hands_right) [] [] (W.F 37) fd) (hm : mg "_law_hands_right" = some (.ref (W.F 37))) (c_next_of : Cal P w K mg base (L2.CX P w) W 1 "next_of" 1 2 f_next_of) (c_nil_of : Cal P w K mg base (L2.CX P w) W 1 "nil_of" 2 2 f_nil_of) (c_nil_ahead_of : Cal P w K mg base (L2.CX P w) W 1 "nil_ahead_of" 4 2 f_nil_ahead_of) (c_followers : Cal P w K mg base (L2.CX P w) W 2 "followers" 8 2 f_followers) (c_from_point : Cal P w K mg base (L2.CX P w) W 2 "from_point" 10 2 f_from_point) (c__law_like : Cal P w K mg base (L2.CX P w) W 1 "_law_like" 15 2 f__law_like) (c_mate_of : Cal P w K mg base (L2.CX P w) W 2 "mate_of" 7 2 f_mate_of) (c_ends_of : Cal P w K mg base (L2.CX P w) W 1 "ends_of" 0 2 f_ends_of) (c_ahead_of : Cal P w K mg base (L2.CX P w) W 1 "ahead_of" 3 2 f_ahead_of) :
    Cal P w K mg base (L2.CX P w) W 3 "_law_hands_right" 37 0 f__law_hands_right :=
  ⟨fd, [], gokD F sc__law_hands_right fun cdv B up z H E fr => 
      (dss_cons (ds_set (i := 0) sc__law_hands_right.nd rfl (Or.inl rfl) (de_tup (da_cons de_int (da_cons (de_tup (da_cons (de_tup (da_cons de_int (da_cons de_int da_nil))) da_nil)) (da_cons (de_tup (da_cons (de_tup (da_cons de_int (da_cons de_int da_nil))) da_nil)) da_nil)))))
      (dss_cons (ds_set (i := 1) sc__law_hands_right.nd rfl (Or.inl rfl) (de_tup (da_cons de_int (da_cons (de_tup (da_cons (de_tup (da_cons de_int (da_cons de_int da_nil))) (da_cons (de_tup (da_cons de_int (da_cons de_int da_nil))) da_nil))) (da_cons (de_tup da_nil) da_nil)))))
      (dss_cons (ds_set (i := 2) sc__law_hands_right.nd rfl (Or.inl rfl) (de_tup (da_cons de_int (da_cons (de_tup (da_cons (de_tup (da_cons de_int (da_cons de_int da_nil))) (da_cons (de_tup (da_cons de_int (da_cons de_int da_nil))) da_nil))) (da_cons (de_tup (da_cons (de_tup (da_cons de_int (da_cons de_int da_nil))) (da_cons (de_tup (da_cons de_int (da_cons de_int da_nil))) da_nil))) da_nil)))))
      (dss_cons (ds_set (i := 3) sc__law_hands_right.nd rfl (Or.inl rfl) (de_tup (da_cons de_int (da_cons (de_tup (da_cons (de_tup (da_cons de_int (da_cons de_int da_nil))) (da_cons (de_tup (da_cons de_int (da_cons de_int da_nil))) da_nil))) (da_cons (de_tup da_nil) da_nil)))))
      (dss_cons (ds_set (i := 4) sc__law_hands_right.nd rfl (Or.inl rfl) (de_frz (dn_lst (da_cons (de_callP c_next_of fr px rfl (da_cons (de_var (i := 0) rfl (Or.inl rfl)) (da_cons de_int da_nil)) (hlen := (len_cons (len_cons len_nil)))) (da_cons (de_callP c_nil_of fr px rfl (da_cons (de_var (i := 0) rfl (Or.inl rfl)) (da_cons de_int da_nil)) (hlen := (len_cons (len_cons len_nil)))) (da_cons (de_callP c_nil_ahead_of fr px rfl (da_cons (de_var (i := 0) rfl (Or.inl rfl)) (da_cons de_int da_nil)) (hlen := (len_cons (len_cons len_nil)))) (da_cons (de_callP c_followers fr px rfl (da_cons (de_var (i := 0) rfl (Or.inl rfl)) (da_cons de_int da_nil)) (hlen := (len_cons (len_cons len_nil)))) (da_cons (de_callP c_from_point fr px rfl (da_cons (de_var (i := 0) rfl (Or.inl rfl)) (da_cons de_int da_nil)) (hlen := (len_cons (len_cons len_nil)))) da_nil))))))))
      (dss_cons (ds_if (dt_not (dt_tru (de_callP c__law_like fr px rfl (da_cons (de_var (i := 4) rfl (Or.inl rfl)) (da_cons (de_frz (dn_lst (da_cons de_non (da_cons de_int (da_cons de_int (da_cons (de_tup da_nil) (da_cons (de_tup (da_cons (de_neg de_int) (da_cons de_int da_nil))) da_nil))))))) da_nil)) (hlen := (len_cons (len_cons len_nil)))))) (dss_one (ds_ret de_bl)) dss_nil)
      (dss_cons (ds_set (i := 4) sc__law_hands_right.nd rfl (Or.inl rfl) (de_frz (dn_lst (da_cons (de_callP c_mate_of fr px rfl (da_cons (de_var (i := 1) rfl (Or.inl rfl)) (da_cons de_int da_nil)) (hlen := (len_cons (len_cons len_nil)))) (da_cons (de_callP c_mate_of fr px rfl (da_cons (de_var (i := 1) rfl (Or.inl rfl)) (da_cons (de_neg de_int) da_nil)) (hlen := (len_cons (len_cons len_nil)))) (da_cons (de_callP c_followers fr px rfl (da_cons (de_var (i := 1) rfl (Or.inl rfl)) (da_cons de_int da_nil)) (hlen := (len_cons (len_cons len_nil)))) (da_cons (de_callP c_followers fr px rfl (da_cons (de_var (i := 1) rfl (Or.inl rfl)) (da_cons (de_neg de_int) da_nil)) (hlen := (len_cons (len_cons len_nil)))) (da_cons (de_callP c_ends_of fr px rfl (da_cons (de_var (i := 1) rfl (Or.inl rfl)) (da_cons (de_neg de_int) da_nil)) (hlen := (len_cons (len_cons len_nil)))) da_nil))))))))
      (dss_cons (ds_if (dt_not (dt_tru (de_callP c__law_like fr px rfl (da_cons (de_var (i := 4) rfl (Or.inl rfl)) (da_cons (de_frz (dn_lst (da_cons de_int (da_cons (de_neg de_int) (da_cons (de_tup (da_cons (de_neg de_int) da_nil)) (da_cons (de_tup (da_cons de_int da_nil)) (da_cons (de_tup (da_cons de_int (da_cons de_int da_nil))) da_nil))))))) da_nil)) (hlen := (len_cons (len_cons len_nil)))))) (dss_one (ds_ret de_bl)) dss_nil)
      (dss_cons (ds_set (i := 4) sc__law_hands_right.nd rfl (Or.inl rfl) (de_frz (dn_lst (da_cons (de_callP c_next_of fr px rfl (da_cons (de_var (i := 2) rfl (Or.inl rfl)) (da_cons de_int da_nil)) (hlen := (len_cons (len_cons len_nil)))) (da_cons (de_callP c_nil_of fr px rfl (da_cons (de_var (i := 2) rfl (Or.inl rfl)) (da_cons de_int da_nil)) (hlen := (len_cons (len_cons len_nil)))) (da_cons (de_callP c_followers fr px rfl (da_cons (de_var (i := 2) rfl (Or.inl rfl)) (da_cons de_int da_nil)) (hlen := (len_cons (len_cons len_nil)))) (da_cons (de_callP c_mate_of fr px rfl (da_cons (de_var (i := 2) rfl (Or.inl rfl)) (da_cons de_int da_nil)) (hlen := (len_cons (len_cons len_nil)))) (da_cons (de_callP c_from_point fr px rfl (da_cons (de_var (i := 2) rfl (Or.inl rfl)) (da_cons de_int da_nil)) (hlen := (len_cons (len_cons len_nil)))) da_nil))))))))
      (dss_cons (ds_if (dt_not (dt_tru (de_callP c__law_like fr px rfl (da_cons (de_var (i := 4) rfl (Or.inl rfl)) (da_cons (de_frz (dn_lst (da_cons de_non (da_cons de_int (da_cons (de_tup da_nil) (da_cons de_non (da_cons (de_tup (da_cons (de_neg de_int) (da_cons de_int da_nil))) da_nil))))))) da_nil)) (hlen := (len_cons (len_cons len_nil)))))) (dss_one (ds_ret de_bl)) dss_nil)
      (dss_cons (ds_set (i := 4) sc__law_hands_right.nd rfl (Or.inl rfl) (de_frz (dn_lst (da_cons (de_callP c_next_of fr px rfl (da_cons (de_var (i := 3) rfl (Or.inl rfl)) (da_cons de_int da_nil)) (hlen := (len_cons (len_cons len_nil)))) (da_cons (de_callP c_ahead_of fr px rfl (da_cons (de_var (i := 3) rfl (Or.inl rfl)) (da_cons de_int da_nil)) (hlen := (len_cons (len_cons len_nil)))) (da_cons (de_callP c_followers fr px rfl (da_cons (de_var (i := 3) rfl (Or.inl rfl)) (da_cons de_int da_nil)) (hlen := (len_cons (len_cons len_nil)))) (da_cons (de_callP c_followers fr px rfl (da_cons (de_var (i := 3) rfl (Or.inl rfl)) (da_cons (de_neg de_int) da_nil)) (hlen := (len_cons (len_cons len_nil)))) (da_cons (de_callP c_ahead_of fr px rfl (da_cons (de_var (i := 3) rfl (Or.inl rfl)) (da_cons de_int da_nil)) (hlen := (len_cons (len_cons len_nil)))) da_nil))))))))
      (dss_one (ds_ret (de_callP c__law_like fr px rfl (da_cons (de_var (i := 4) rfl (Or.inl rfl)) (da_cons (de_frz (dn_lst (da_cons de_int (da_cons de_int (da_cons (de_tup (da_cons de_int da_nil)) (da_cons (de_tup (da_cons (de_neg de_int) da_nil)) (da_cons de_non da_nil))))))) da_nil)) (hlen := (len_cons (len_cons len_nil))))))))))))))))), hm, F.kp, F.bindsN fun _ _ _ _ _ _ us hl => match us, hl with | [], _ => rfl⟩
theorem sc_law : FnScope ["_law_script", "_law_k", "_law_m", "_law_plan_here", "_law_points", "_law_arrows"] ["_law_script"] (defScope s_law) := ⟨rfl, rfl, rfl, by decide +kernel, rfl, by decide +kernel, by decide +kernel⟩
theorem okG_law {fd : FuncData} (F : FunD K "law" "law" (defArgs s_law) (defBody s_law) (defScope s_law) [] [] (W.F 38) fd) (g_len : mg "len" = none) (g_max : mg "max" = none) (g_min : mg "min" = none) (g_range : mg "range" = none) (c__law_hands_right : Cal P w K mg base (L2.CX P w) W 3 "_law_hands_right" 37 0 f__law_hands_right) (c__law_begun : Cal P w K mg base (L2.CX P w) W 1 "_law_begun" 12 2 f__law_begun) (c__law_plan : Cal P w K mg base (L2.CX P w) W 9 "_law_plan" 29 2 f__law_plan) (c__law_plan_told : Cal P w K mg base (L2.CX P w) W 6 "_law_plan_told" 35 1 f__law_plan_told) (c__law_turned_told : Cal P w K mg base (L2.CX P w) W 7 "_law_turned_told" 36 1 f__law_turned_told) (c__law_shuffled : Cal P w K mg base (L2.CX P w) W 3 "_law_shuffled" 16 2 f__law_shuffled) (c__law_renamed : Cal P w K mg base (L2.CX P w) W 1 "_law_renamed" 28 3 f__law_renamed) :
    GOk P w K mg base (L2.CX P w) 10 (W.F 38) fd ["_law_script"] (spD W 1 f_law) :=
  gokD F sc_law fun cdv B up z H E fr => 
      (dss_cons (ds_if (dt_not (dt_tru (de_call0 c__law_hands_right fr px rfl))) (dss_one (ds_ret de_bl)) dss_nil)
      (dss_cons (ds_for pown rfl (di_rg1 rfl g_range (de_callB ((cr_bestmax rfl fr.r.units).or (cr_twomax rfl fr.r.units)) cd_max rfl g_max PyProof.Rows.boot_max (da_cons de_int (da_cons (de_callB ((cr_bestmin rfl fr.r.units).or (cr_twomin rfl fr.r.units)) cd_min rfl g_min PyProof.Rows.boot_min (da_cons (de_callB call_len_seq cd_len rfl g_len boot_len (da_cons (de_var (i := 0) rfl (Or.inl rfl)) da_nil)) (da_cons de_int da_nil))) da_nil)))) (dg_name (i := 1) sc_law.nd rfl (Or.inl rfl)) (dss_cons (ds_set (i := 2) sc_law.nd rfl (Or.inl rfl) (de_callR c__law_begun fr px rfl (da_cons (de_var (i := 0) rfl (Or.inl rfl)) (da_cons (de_var (i := 1) rfl (Or.inl rfl)) da_nil)) (hlen := (len_cons (len_cons len_nil)))))
      (dss_cons (ds_set (i := 3) sc_law.nd rfl (Or.inl rfl) (de_callT c__law_plan fr px rfl (da_cons (de_var (i := 2) rfl (Or.inl rfl)) (da_cons de_int da_nil)) (hlen := (len_cons (len_cons len_nil)))))
      (dss_cons (ds_if (dw_pt (dw_or (dt_not (dt_tru (de_callP c__law_plan_told fr px rfl (da_cons (de_var (i := 3) rfl (Or.inl rfl)) da_nil) (hlen := (len_cons len_nil))))) (dw_or1 (dt_not (dt_tru (de_callP c__law_turned_told fr px rfl (da_cons (de_var (i := 3) rfl (Or.inl rfl)) da_nil) (hlen := (len_cons len_nil)))))))) (dss_one (ds_ret de_bl)) dss_nil)
      (dss_cons (ds_par (i := 4) (j := 5) rfl sc_law.nd rfl rfl (by decide) rfl rfl (de_callT c__law_shuffled fr px rfl (da_cons (de_var (i := 2) rfl (Or.inl rfl)) (da_cons (de_ix (de_var (i := 3) rfl (Or.inl rfl)) de_int) da_nil)) (hlen := (len_cons (len_cons len_nil)))) (de_callT c__law_shuffled fr px rfl (da_cons (de_var (i := 2) rfl (Or.inl rfl)) (da_cons (de_callB call_len_seq cd_len rfl g_len boot_len (da_cons (de_ix (de_var (i := 3) rfl (Or.inl rfl)) de_int) da_nil)) da_nil)) (hlen := (len_cons (len_cons len_nil)))) rfl)
      (dss_one (ds_if (dw_pt (dw_or (dt_not (dt_tru (de_callP c__law_plan_told fr px rfl (da_cons (de_callP c__law_renamed fr px rfl (da_cons (de_var (i := 3) rfl (Or.inl rfl)) (da_cons (de_var (i := 4) rfl (Or.inl rfl)) (da_cons (de_var (i := 5) rfl (Or.inl rfl)) da_nil))) (hlen := (len_cons (len_cons (len_cons len_nil))))) da_nil) (hlen := (len_cons len_nil))))) (dw_or1 (dt_not (dt_tru (de_callP c__law_plan_told fr px rfl (da_cons (de_var (i := 3) rfl (Or.inl rfl)) da_nil) (hlen := (len_cons len_nil)))))))) (dss_one (ds_ret de_bl)) dss_nil)))))))
      (dss_one (ds_ret de_bl))))
end
end FK

set_option Elab.async false
set_option linter.all false
set_option maxRecDepth 100000
namespace FK
open DL
/-! the script's cells and the draws -/
def zs (ns : List Int) : List D := ns.map D.int
theorem zs_fits : ∀ (ns : List Int) (n : Nat), fits (zs ns) (n + 1) = true
  | [], n => rfl
  | i :: ns, n => by
    show (fit (.int i) (n + 1) && fits (zs ns) (n + 1)) = true
    rw [zs_fits ns n]
    rfl
theorem mul_r {st : Store} {i j : Int} (h : inR j = true) : opMul st (.int i) (.int j) = some (.int (i * j)) := by
  show (if (inR i || inR j) = true then _ else _) = _
  rw [h, Bool.or_true, if_pos rfl]
theorem mul_l {st : Store} {i j : Int} (h : inR i = true) : opMul st (.int i) (.int j) = some (.int (i * j)) := by
  show (if (inR i || inR j) = true then _ else _) = _
  rw [h, Bool.true_or, if_pos rfl]
theorem mod_i {st : Store} {i j : Int} (h : j ≠ 0) : opMod st (.int i) (.int j) = some (.int (i.fmod j)) := if_neg h
theorem fdiv_i {st : Store} {i j : Int} (h : j ≠ 0) (h2 : j.natAbs < 1073741824) : opFdiv st (.int i) (.int j) = some (.int (i.fdiv j)) := by
  show (if j = 0 ∨ ¬ j.natAbs < 1073741824 then _ else _) = _
  rw [if_neg (by omega)]
theorem add_i {st : Store} {i j : Int} : opAdd st (.int i) (.int j) = some (.int (i + j)) := rfl
theorem ge_i {st : Store} {i j : Int} : opGe st (.int i) (.int j) = some (.bl (!decide (i < j))) := rfl
theorem gt_i {st : Store} {i j : Int} : opGt st (.int i) (.int j) = some (.bl (decide (j < i))) := rfl
theorem fmod_r {i j : Int} (h : 0 < j) : 0 ≤ i.fmod j ∧ i.fmod j < j := ⟨Int.fmod_nonneg_of_pos i h, Int.fmod_lt_of_pos i h⟩
/-- the seed's loop -/
abbrev bSeed : EvT := sAsg (eOp opMod (eCallB opInt (aCons (eOp opAdd (eOp opMul (eVar 4) (eC (.int 48271))) (eVar 5)) aNil)) (eC (.int 2147483647))) (tgN 4)
theorem seed_one (a b c d : Option D) (s i : Int) (st : Store) : bSeed [a, b, c, d, some (.int s), some (.int i)] st = .ok (.nx, [a, b, c, d, some (.int ((s * 48271 + i).fmod 2147483647)), some (.int i)]) st := by
  simp only [bSeed, sAsg, eOp, eCallB, aCons, aNil, eVar, eC, R.bind, R.ofO, List.getElem?_cons_succ, List.getElem?_cons_zero, mul_r (show inR 48271 = true by decide), add_i, opInt, mod_i (show (2147483647 : Int) ≠ 0 by decide), tgN, List.set_cons_succ, List.set_cons_zero]
theorem seed_loop : ∀ (ns : List Int) (a b c d x : Option D) (s : Int) (st : Store), ∃ (s' : Int) (x' : Option D), forVals (tgN 5) bSeed (zs ns) [a, b, c, d, some (.int s), x] st = .ok (.nx, [a, b, c, d, some (.int s'), x']) st
  | [], a, b, c, d, x, s, st => ⟨s, x, rfl⟩
  | i :: ns, a, b, c, d, x, s, st => by
    obtain ⟨s', x', h⟩ := seed_loop ns a b c d (some (.int i)) ((s * 48271 + i).fmod 2147483647) st
    refine ⟨s', x', ?_⟩
    rw [← h]
    show (bSeed [a, b, c, d, some (.int s), some (.int i)] st).bind _ = _
    rw [seed_one]
    rfl
theorem pow18 {st : Store} : opPow st (.int 10) (.int 18) = some (.int 1000000000000000000) := by
  show (if (0 : Int) ≤ 18 ∧ (18 : Int) ≤ 1000000 ∧ (10 : Int).natAbs < 18446744073709551616 then some (D.int ((10 : Int) ^ (18 : Int).toNat)) else none) = _
  rw [if_pos (by decide)]
  rfl
/-- the great cells -/
def great (ns : List Int) : List Int := ns.filter fun i => !decide (i < 1000000000000000000)
theorem great_one {env : Ent} {st : Store} {i : Int} (h : env.length = 6) : lcTurn (tgN 5) (tOf (eOp opGe (eVar 5) (eOp opPow (eC (.int 10)) (eC (.int 18))))) (eVar 5) (.int i) env st = .ok (if decide (i < 1000000000000000000) = true then none else some (.int i)) st := by
  match env, h with
  | [a, b, c, d, e, f], _ =>
    simp only [lcTurn, tgN, List.set_cons_succ, List.set_cons_zero, tOf, eOp, eVar, eC, R.bind, R.ofO, List.getElem?_cons_succ, List.getElem?_cons_zero, pow18, ge_i]
    cases decide (i < 1000000000000000000) <;> rfl
theorem great_all (env : Ent) (st : Store) (h : env.length = 6) : ∀ ns : List Int, lcVals (tgN 5) (tOf (eOp opGe (eVar 5) (eOp opPow (eC (.int 10)) (eC (.int 18))))) (eVar 5) env (zs ns) st = .ok (zs (great ns)) st
  | [] => rfl
  | i :: ns => by
    have ih := great_all env st h ns
    show (lcTurn _ _ _ (.int i) env st).bind _ = _
    rw [great_one h]
    unfold great
    rw [List.filter_cons]
    cases q : decide (i < 1000000000000000000)
    · rw [if_neg Bool.false_ne_true]
      show ((lcVals _ _ _ env (zs ns) st).bind _) = _
      rw [ih]
      rfl
    · rw [if_pos rfl]
      exact ih
theorem great_pos : ∀ {ns : List Int} {i : Int}, i ∈ great ns → 0 < i := fun h => by
  have := (List.mem_filter.mp h).2
  simp at this
  omega
def mD (L S : Int) (cs : List D) (sp : Int) : Cell := .dct [(.inr "left", .int L), (.inr "seed", .int S), (.inr "cells", .lst cs), (.inr "spot", .int sp)]
theorem cut0 {α : Type} (xs : List α) : cutD xs (some 0) none = xs := by
  unfold cutD
  simp [HT.sIx]
theorem cut00 {α : Type} (xs : List α) : cutD xs none (some 0) = [] := by
  unfold cutD
  simp [HT.sIx]
theorem ix0 {st : Store} {d : D} {ds : List D} : opIx st (.lst (d :: ds)) (.int 0) = some d := by
  show L2.atI (d :: ds) 0 = _
  simp [L2.atI, L2.ixN]
theorem seq_nx {f g : EvT} {env env1 : Ent} {st st1 : Store} (h : f env st = .ok (.nx, env1) st1) : sSeq f g env st = g env1 st1 := by
  unfold sSeq
  rw [h]
  rfl
theorem asg_ok {f : Ev} {i : Nat} {env : Ent} {st st1 : Store} {d : D} (h : f env st = .ok d st1) : sAsg f (tgN i) env st = .ok (.nx, env.set i (some d)) st1 := by
  unfold sAsg
  rw [h]
  rfl
theorem cons_ok {f : Ev} {h : EvL} {env : Ent} {st st1 st2 : Store} {a : D} {as : List D} (e1 : f env st = .ok a st1) (e2 : h env st1 = .ok as st2) : aCons f h env st = .ok (a :: as) st2 := by
  unfold aCons
  rw [e1]
  show R.bind (h env st1) _ = _
  rw [e2]
  rfl
theorem ret_ok {f : Ev} {env : Ent} {st st1 : Store} {d : D} (h : f env st = .ok d st1) : sRet f env st = .ok (.rt d, env) st1 := by
  unfold sRet
  rw [h]
  rfl
theorem sOk_small {n : Nat} (h : n ≤ 100) : sOk n = true := sOk_of (by omega)
set_option maxHeartbeats 4000000 in
theorem begun (ns : List Int) (hn : ns.length ≤ 63) : ∃ (L S : Int), 0 ≤ L ∧ f__law_begun [.lst (zs ns), .int 0] [] = .ok (.ref 0) [mD L S (zs ns ++ [.int 11]) 0] := by
  have lz : (zs ns).length = ns.length := by simp [zs]
  have lg : (zs (great ns)).length ≤ 63 := by
    simp only [zs, great, List.length_map]
    exact Nat.le_trans (List.length_filter_le ..) hn
  obtain ⟨s', x', hs⟩ := seed_loop ns (some (.lst (zs ns))) (some (.int 0)) (some (.lst (zs ns))) (some (.lst (zs (great ns)))) none 71 []
  have e1 : (eOp opAdd (eSl (eVar 0) (oSome (eVar 1)) oNone) (eSl (eVar 0) oNone (oSome (eVar 1)))) [some (.lst (zs ns)), some (.int 0), none, none, none, none] [] = .ok (.lst (zs ns)) [] := by
    show R.ofO (opAdd [] (.lst (cutD (zs ns) (some 0) none)) (.lst (cutD (zs ns) none (some 0)))) [] = _
    rw [cut0, cut00]
    show R.ofO (if sOk ((zs ns).length + 0) = true then some (D.lst (zs ns ++ [])) else none) [] = _
    rw [if_pos (sOk_small (by omega)), List.append_nil]
    rfl
  have e2 : (eFrz (nLc (iSeq (eVar 2)) (tgN 5) (tOf (eOp opGe (eVar 5) (eOp opPow (eC (.int 10)) (eC (.int 18))))) (eVar 5) [5])) [some (.lst (zs ns)), some (.int 0), some (.lst (zs ns)), none, none, none] [] = .ok (.lst (zs (great ns))) [] := by
    show R.bind (match lcVals _ _ _ [some (.lst (zs ns)), some (.int 0), some (.lst (zs ns)), none, none, none] (zs ns) [] with | .ok ds st2 => if sOk ds.length then .ok ds st2 else .no | _ => .no) _ = _
    rw [great_all _ _ rfl]
    show R.bind (if sOk (zs (great ns)).length = true then _ else _) _ = _
    rw [if_pos (sOk_small (by omega))]
    rfl
  have e3 : ∃ L : Int, 0 ≤ L ∧ ∀ env : Ent, env[3]? = some (some (.lst (zs (great ns)))) → (eIfE (tOf (eOp opNe (eVar 3) (eFrz (nLst aNil)))) (eOp opIx (eVar 3) (eC (.int 0))) (eC (.int 0))) env [.dct []] = .ok (.int L) [.dct []] := by
    cases hg : great ns with
    | nil => refine ⟨0, Int.le_refl _, fun env he => ?_⟩; simp only [eIfE, tOf, eOp, eVar, he]; rfl
    | cons g gs =>
      refine ⟨g, Int.le_of_lt (great_pos (ns := ns) (by rw [hg]; exact List.mem_cons_self ..)), fun env he => ?_⟩
      have q : ∀ st : Store, opNe st (.lst (zs (g :: gs))) (.lst []) = some (.bl true) := fun st => by
        show (if (fits (zs (g :: gs)) 39 && true) = true then some (D.bl true) else none) = _
        rw [zs_fits _ 38]
        rfl
      simp only [eIfE, tOf, eOp, eVar, he, eC, eFrz, nLst, aNil, R.bind, R.ofO, List.length_nil, sOk_small (Nat.zero_le _), if_true, q]
      show R.ofO (opIx _ (.lst (zs (g :: gs))) (.int 0)) _ = _
      rw [show zs (g :: gs) = .int g :: zs gs from rfl, ix0]
      rfl
  obtain ⟨L, hL, e3⟩ := e3
  refine ⟨L, s', hL, ?_⟩
  have e4 : (sFor 1000 (iSeq (eVar 2)) (tgN 5) bSeed) [some (.lst (zs ns)), some (.int 0), some (.lst (zs ns)), some (.lst (zs (great ns))), some (.int 71), none] [] = _ := hs
  have e5 : ∀ st : Store, opAdd st (.lst (zs ns)) (.lst [.int 11]) = some (.lst (zs ns ++ [.int 11])) := fun st => by
    show (if sOk ((zs ns).length + 1) = true then some (D.lst (zs ns ++ [.int 11])) else none) = _
    rw [if_pos (sOk_small (by omega))]
  have e6 : opMul [.dct []] (.int 53) (.int 0) = some (.int 0) := mul_l (by decide)
  show (runF 2 6 b__law_begun) _ _ = _
  have hb : b__law_begun [some (.lst (zs ns)), some (.int 0), none, none, none, none] [] = .ok (.rt (.ref 0), [some (.lst (zs ns)), some (.int 0), some (.lst (zs ns)), some (.lst (zs (great ns))), some (.int s'), x']) [mD L s' (zs ns ++ [.int 11]) 0] := by
    refine (seq_nx (asg_ok e1)).trans ?_
    refine (seq_nx (asg_ok e2)).trans ?_
    refine (seq_nx (asg_ok (d := .int 71) rfl)).trans ?_
    refine (seq_nx e4).trans ?_
    show (eDict _ _ [some (.lst (zs ns)), some (.int 0), some (.lst (zs ns)), some (.lst (zs (great ns))), some (.int s'), x'] []).bind _ = _
    have e7 : eOp opAdd (eVar 2) (eFrz (nLst (aCons (eOp opAdd (eOp opMul (eC (.int 53)) (eVar 1)) (eC (.int 11))) aNil))) [some (.lst (zs ns)), some (.int 0), some (.lst (zs ns)), some (.lst (zs (great ns))), some (.int s'), x'] [.dct []] = .ok (.lst (zs ns ++ [.int 11])) [.dct []] := by
      show R.ofO (opAdd [.dct []] (.lst (zs ns)) (.lst [.int 11])) _ = _
      rw [e5]
      rfl
    have e9 : eAll [eIfE (tOf (eOp opNe (eVar 3) (eFrz (nLst aNil)))) (eOp opIx (eVar 3) (eC (.int 0))) (eC (.int 0)), eVar 4, eOp opAdd (eVar 2) (eFrz (nLst (aCons (eOp opAdd (eOp opMul (eC (.int 53)) (eVar 1)) (eC (.int 11))) aNil))), eC (.int 0)] [some (.lst (zs ns)), some (.int 0), some (.lst (zs ns)), some (.lst (zs (great ns))), some (.int s'), x'] ([] ++ [.dct []]) = .ok [.int L, .int s', .lst (zs ns ++ [.int 11]), .int 0] [.dct []] := cons_ok (e3 _ rfl) (cons_ok (f := eVar 4) rfl (cons_ok e7 (cons_ok (f := eC (.int 0)) rfl (rfl : aNil _ _ = _))))
    unfold eDict
    rw [e9]
    rfl
  unfold runF
  show (b__law_begun [some (.lst (zs ns)), some (.int 0), none, none, none, none] []).bind _ = _
  rw [hb]
  rfl
theorem vhit {k : L2.Key} {d : D} {r : List (L2.Key × D)} : valD ((k, d) :: r) k = some d := by
  unfold valD
  rw [if_pos rfl]
theorem vskip {k1 k : L2.Key} {d : D} {r : List (L2.Key × D)} (h : k1 ≠ k) : valD ((k1, d) :: r) k = valD r k := by
  show (if k1 = k then some d else valD r k) = _
  rw [if_neg h]
theorem phit {k : L2.Key} {d d' : D} {r : List (L2.Key × D)} : putD ((k, d) :: r) k d' = (k, d') :: r := by
  unfold putD
  rw [if_pos rfl]
theorem pskip {k1 k : L2.Key} {d d' : D} {r : List (L2.Key × D)} (h : k1 ≠ k) : putD ((k1, d) :: r) k d' = (k1, d) :: putD r k d' := by
  show (if k1 = k then (k, d') :: r else (k1, d) :: putD r k d') = _
  rw [if_neg h]
section
variable {st : Store} {n : Nat} {L S sp : Int} {cs : List D}
theorem get_left (h : st[n]? = some (mD L S cs sp)) : opDGet st (.ref n) (.str "left") = some (.int L) := by
  show (match st[n]? with | some (.dct kds) => valD kds (.inr "left") | _ => none) = _
  rw [h]
  exact vhit
theorem get_seed (h : st[n]? = some (mD L S cs sp)) : opDGet st (.ref n) (.str "seed") = some (.int S) := by
  show (match st[n]? with | some (.dct kds) => valD kds (.inr "seed") | _ => none) = _
  rw [h]
  exact (vskip (by decide)).trans vhit
theorem get_cells (h : st[n]? = some (mD L S cs sp)) : opDGet st (.ref n) (.str "cells") = some (.lst cs) := by
  show (match st[n]? with | some (.dct kds) => valD kds (.inr "cells") | _ => none) = _
  rw [h]
  exact (vskip (by decide)).trans ((vskip (by decide)).trans vhit)
theorem get_spot (h : st[n]? = some (mD L S cs sp)) : opDGet st (.ref n) (.str "spot") = some (.int sp) := by
  show (match st[n]? with | some (.dct kds) => valD kds (.inr "spot") | _ => none) = _
  rw [h]
  exact (vskip (by decide)).trans ((vskip (by decide)).trans ((vskip (by decide)).trans vhit))
theorem nd_mD : ndK [((.inr "left" : L2.Key), D.int L), (.inr "seed", .int S), (.inr "cells", .lst cs), (.inr "spot", .int sp)] = true := by
  simp only [ndK, valD]
  simp (decide := true)
theorem put_ok {fd fk fv : Ev} {env : Ent} {v : D} {k : PySem.Str} {c : Cell} (e1 : fv env st = .ok v st) (e2 : fd env st = .ok (.ref n) st) (e3 : fk env st = .ok (.str k) st) (h : st[n]? = some (mD L S cs sp))
    (e4 : Cell.dct (putD [((.inr "left" : L2.Key), D.int L), (.inr "seed", .int S), (.inr "cells", .lst cs), (.inr "spot", .int sp)] (.inr k) v) = c) : sDPutD fd fk fv env st = .ok (.nx, env) (st.set n c) := by
  unfold sDPutD
  rw [e1]
  show R.bind (fd env st) _ = _
  rw [e2]
  show R.bind (fk env st) _ = _
  rw [e3]
  show (match st[n]? with | some (.dct kds) => (if (ndK kds && sOk (kds.length + 1)) = true then R.ok (Out.nx, env) (st.set n (.dct (putD kds (.inr k) v))) else .no) | _ => .no) = _
  rw [h]
  show (if (ndK _ && sOk 5) = true then _ else _) = _
  rw [nd_mD, sOk_small (by decide), if_pos (by rfl), e4]
theorem put_left {L' : Int} : Cell.dct (putD [((.inr "left" : L2.Key), D.int L), (.inr "seed", .int S), (.inr "cells", .lst cs), (.inr "spot", .int sp)] (.inr "left") (.int L')) = mD L' S cs sp := by
  rw [phit]
  rfl
theorem put_spot {sp' : Int} : Cell.dct (putD [((.inr "left" : L2.Key), D.int L), (.inr "seed", .int S), (.inr "cells", .lst cs), (.inr "spot", .int sp)] (.inr "spot") (.int sp')) = mD L S cs sp' := by
  rw [pskip (by decide), pskip (by decide), pskip (by decide), phit]
  rfl
end
theorem op_ok {op : Store → D → D → Option D} {f g : Ev} {env : Ent} {st st1 st2 : Store} {a b d : D} (h1 : f env st = .ok a st1) (h2 : g env st1 = .ok b st2) (h3 : op st2 a b = some d) : eOp op f g env st = .ok d st2 := by
  unfold eOp
  rw [h1]
  show R.bind (g env st1) _ = _
  rw [h2]
  show R.ofO (op st2 a b) st2 = _
  rw [h3]
  rfl
theorem callB_ok {op : Store → List D → Option D} {g : EvL} {env : Ent} {st st1 : Store} {as : List D} {d : D} (h1 : g env st = .ok as st1) (h3 : op st1 as = some d) : eCallB op g env st = .ok d st1 := by
  unfold eCallB
  rw [h1]
  show R.ofO (op st1 as) st1 = _
  rw [h3]
  rfl
theorem one_ok {f : Ev} {env : Ent} {st st1 : Store} {a : D} (h1 : f env st = .ok a st1) : aCons f aNil env st = .ok [a] st1 := cons_ok h1 rfl
theorem int_ok {f : Ev} {env : Ent} {st st1 : Store} {i : Int} (h1 : f env st = .ok (.int i) st1) : eCallB opInt (aCons f aNil) env st = .ok (.int i) st1 := callB_ok (one_ok h1) rfl
theorem par_ok {f g : Ev} {i j : Nat} {env : Ent} {st st1 st2 : Store} {a b : D} (h1 : f env st = .ok a st1) (h2 : g env st1 = .ok b st2) : sPar i j f g env st = .ok (.nx, (env.set i (some a)).set j (some b)) st2 := by
  unfold sPar
  rw [h1]
  show R.bind (g env st1) _ = _
  rw [h2]
  rfl
theorem if_t {p : EvB} {f g : EvT} {env : Ent} {st st1 : Store} (h : p env st = .ok true st1) : sIf p f g env st = f env st1 := by
  unfold sIf
  rw [h]
  rfl
theorem if_f {p : EvB} {f g : EvT} {env : Ent} {st st1 : Store} (h : p env st = .ok false st1) : sIf p f g env st = g env st1 := by
  unfold sIf
  rw [h]
  rfl
theorem tof_ok {f : Ev} {env : Ent} {st st1 : Store} {k : Bool} (h : f env st = .ok (.bl k) st1) : tOf f env st = .ok k st1 := by
  unfold tOf
  rw [h]
  rfl
theorem seq_rt {f g : EvT} {env env1 : Ent} {st st1 : Store} {d : D} (h : f env st = .ok (.rt d, env1) st1) : sSeq f g env st = .ok (.rt d, env1) st1 := by
  unfold sSeq
  rw [h]
  rfl
theorem ix_at {st : Store} {ms : List Int} {i : Int} (h0 : 0 ≤ i) (h1 : i < ms.length) : ∃ c : Int, opIx st (.lst (zs ms)) (.int i) = some (.int c) := by
  have hl : i.toNat < ms.length := by omega
  refine ⟨ms[i.toNat], ?_⟩
  show L2.atI (zs ms) i = _
  have lz : (zs ms).length = ms.length := by simp [zs]
  unfold L2.atI L2.ixN
  rw [if_pos h0, if_pos (by rw [lz]; exact h1)]
  show (zs ms)[i.toNat]? = _
  unfold zs
  rw [List.getElem?_map, List.getElem?_eq_getElem hl]
  rfl
theorem inR_of {i : Int} (h0 : 0 ≤ i) (h1 : i < 18446744073709551616) : inR i = true := by
  unfold inR
  simp
  omega
theorem draw {st : Store} {n : Nat} {L S sp b : Int} {ms : List Int} (h : st[n]? = some (mD L S (zs ms) sp)) (hL : 0 ≤ L) (hs0 : 0 ≤ sp) (hs1 : sp < 1000000000000) (hm : ms ≠ []) (hb : 1 ≤ b) (hb2 : b < 1073741824) :
    ∃ (v L' sp' : Int), f__law_draw [.ref n, .int b] st = .ok (.int v) (st.set n (mD L' S (zs ms) sp')) ∧ 0 ≤ v ∧ v < b ∧ 0 ≤ L' ∧ sp ≤ sp' ∧ sp' ≤ sp + 1 := by
  have hb0 : b ≠ 0 := by omega
  have hbn : b.natAbs < 1073741824 := by omega
  by_cases hl : 0 < L
  · refine ⟨L.fmod b, L.fdiv b, sp, ?_, (fmod_r (by omega)).1, (fmod_r (by omega)).2, Int.fdiv_nonneg hL (by omega), Int.le_refl _, by omega⟩
    have hb : b__law_draw [some (.ref n), some (.int b), none, none, none, none, none, none] st = .ok (.rt (.int (L.fmod b)), [some (.ref n), some (.int b), some (.int (L.fmod b)), none, none, none, none, none]) (st.set n (mD (L.fdiv b) S (zs ms) sp)) := by
      refine seq_rt ?_
      refine (if_t (tof_ok (op_ok (op_ok (f := eVar 0) rfl (g := eC _) rfl (get_left h)) (g := eC _) rfl (by rw [gt_i]; simp [hl] : _ = some (D.bl true))))).trans ?_
      refine (seq_nx (asg_ok (op_ok (int_ok (op_ok (f := eVar 0) rfl (g := eC _) rfl (get_left h))) (g := eVar 1) rfl (mod_i hb0)))).trans ?_
      refine (seq_nx (put_ok (n := n) (op_ok (op_ok (f := eVar 0) rfl (g := eC _) rfl (get_left h)) (g := eVar 1) rfl (fdiv_i hb0 hbn)) rfl rfl h put_left)).trans ?_
      exact ret_ok rfl
    unfold f__law_draw runF
    show (b__law_draw [some (.ref n), some (.int b), none, none, none, none, none, none] st).bind _ = _
    rw [hb]
    rfl
  · have hll : n < st.length := (List.getElem?_eq_some_iff.mp h).1
    have h2 : (st.set n (mD L S (zs ms) (sp + 1)))[n]? = some (mD L S (zs ms) (sp + 1)) := by rw [List.getElem?_set_self hll]
    have lz : ((zs ms).length : Int) = ms.length := by simp [zs]
    have hm0 : 0 < (ms.length : Int) := by
      have := List.length_pos_iff.mpr hm
      omega
    obtain ⟨c, hc⟩ := ix_at (st := st.set n (mD L S (zs ms) (sp + 1))) (ms := ms) (i := sp.fmod ms.length) (fmod_r hm0).1 (fmod_r hm0).2
    let b1 : Int := (c * (2 * sp + 3) + (S + 40503 * sp * sp)).fmod 2147483647
    have hb1 := fmod_r (i := c * (2 * sp + 3) + (S + 40503 * sp * sp)) (j := 2147483647) (by decide)
    let b2 : Int := (b1 * b1 + 69621 * sp + S).fmod 2147483629
    refine ⟨(((b2 * 48271 + sp).fmod 2147483647).fdiv 11).fmod b, L, sp + 1, ?_, (fmod_r (by omega)).1, (fmod_r (by omega)).2, hL, by omega, Int.le_refl _⟩
    have hb : b__law_draw [some (.ref n), some (.int b), none, none, none, none, none, none] st = .ok (.rt (.int ((((b2 * 48271 + sp).fmod 2147483647).fdiv 11).fmod b)), [some (.ref n), some (.int b), none, some (.int sp), some (.lst (zs ms)), some (.int (S + 40503 * sp * sp)), some (.int c), some (.int b2)]) (st.set n (mD L S (zs ms) (sp + 1))) := by
      refine (seq_nx ((if_f (tof_ok (op_ok (op_ok (f := eVar 0) rfl (g := eC _) rfl (get_left h)) (g := eC _) rfl (by rw [gt_i]; simp [hl] : _ = some (D.bl false))))).trans rfl)).trans ?_
      refine (seq_nx (asg_ok (op_ok (f := eVar 0) rfl (g := eC _) rfl (get_spot h)))).trans ?_
      refine (seq_nx (put_ok (n := n) (op_ok (f := eVar 3) rfl (g := eC _) rfl add_i) rfl rfl h put_spot)).trans ?_
      refine (seq_nx (par_ok (op_ok (f := eVar 0) rfl (g := eC _) rfl (get_cells h2)) (op_ok (op_ok (f := eVar 0) rfl (g := eC _) rfl (get_seed h2)) (op_ok (op_ok (f := eC _) rfl (g := eVar 3) rfl (mul_l (by decide))) (g := eVar 3) rfl (mul_r (inR_of hs0 (by omega)))) add_i))).trans ?_
      refine (seq_nx (asg_ok (op_ok (f := eVar 4) rfl (op_ok (int_ok (f := eVar 3) rfl) (callB_ok (one_ok (f := eVar 4) rfl) (rfl : opLen _ [D.lst (zs ms)] = _)) (by rw [lz]; exact mod_i (by omega))) hc))).trans ?_
      refine (seq_nx (asg_ok (op_ok (int_ok (op_ok (op_ok (f := eVar 6) rfl (op_ok (op_ok (f := eC _) rfl (g := eVar 3) rfl (mul_l (by decide))) (g := eC _) rfl add_i) (mul_r (inR_of (by omega) (by omega)))) (g := eVar 5) rfl add_i)) (g := eC _) rfl (mod_i (by decide))))).trans ?_
      refine (seq_nx (asg_ok (op_ok (int_ok (op_ok (op_ok (op_ok (f := eVar 7) rfl (g := eVar 7) rfl (mul_r (inR_of hb1.1 (by omega)))) (op_ok (f := eC _) rfl (g := eVar 3) rfl (mul_l (by decide))) add_i) (op_ok (f := eVar 0) rfl (g := eC _) rfl (get_seed h2)) add_i)) (g := eC _) rfl (mod_i (by decide))))).trans ?_
      exact ret_ok (op_ok (op_ok (op_ok (int_ok (op_ok (op_ok (f := eVar 7) rfl (g := eC _) rfl (mul_r (by decide))) (g := eVar 3) rfl add_i)) (g := eC _) rfl (mod_i (by decide))) (g := eC _) rfl (fdiv_i (by decide) (by decide))) (g := eVar 1) rfl (mod_i hb0))
    unfold f__law_draw runF
    show (b__law_draw [some (.ref n), some (.int b), none, none, none, none, none, none] st).bind _ = _
    rw [hb]
    rfl
end FK

set_option Elab.async false
set_option linter.all false
set_option maxRecDepth 100000
namespace FK
open DL
def prD (p : Int × Int) : D := .tup [.int p.1, .int p.2]
def plD (P : Pl) : D := .tup [.int P.n, .tup (P.rows.map prD), .tup (P.pairs.map prD)]
theorem ix_map {α : Type} {f : α → D} {xs : List α} {k : Int} {x : α} {st : Store} (h0 : 0 ≤ k) (h : xs[k.toNat]? = some x) : opIx st (.tup (xs.map f)) (.int k) = some (f x) := by
  have hl := (List.getElem?_eq_some_iff.mp h).1
  show L2.atI (xs.map f) k = _
  unfold L2.atI L2.ixN
  rw [if_pos h0, if_pos (by rw [List.length_map]; omega)]
  show (xs.map f)[k.toNat]? = _
  rw [List.getElem?_map, h]
  rfl
theorem pl_1 {P : Pl} {st : Store} : opIx st (plD P) (.int 1) = some (.tup (P.rows.map prD)) := rfl
theorem pl_2 {P : Pl} {st : Store} : opIx st (plD P) (.int 2) = some (.tup (P.pairs.map prD)) := rfl
theorem pl_0 {P : Pl} {st : Store} : opIx st (plD P) (.int 0) = some (.int P.n) := rfl
theorem pr_0 {p : Int × Int} {st : Store} : opIx st (prD p) (.int 0) = some (.int p.1) := rfl
theorem pr_1 {p : Int × Int} {st : Store} : opIx st (prD p) (.int 1) = some (.int p.2) := rfl
theorem i_ge {st : Store} {i j : Int} : opGe st (.int i) (.int j) = some (.bl (!decide (i < j))) := rfl
theorem i_sub {st : Store} {i j : Int} : opSub st (.int i) (.int j) = some (.int (i - j)) := rfl
theorem i_neg {st : Store} {i : Int} : opNeg st (.int i) = some (.int (-i)) := rfl
theorem ends_pos {P : Pl} {l : Int} {e : Int × Int} {st : Store} (h0 : 0 ≤ l) (h : P.rows[l.toNat]? = some e) : f_ends_of [plD P, .int l] st = .ok (prD e) st := by
  have hl : (!decide (l < 0)) = true := by simp; omega
  simp only [f_ends_of, runF, b_ends_of, List.map_cons, List.map_nil, List.cons_append, List.nil_append, Nat.reduceSub, List.replicate_succ, List.replicate_zero,
    v_seq, v_if, v_tof, v_op, v_var, v_c, v_ret, List.getElem?_cons_zero, List.getElem?_cons_succ, k_var, k_op, k_op2, i_ge, k_some, k_tof, hl, k_ifT, pl_1, ix_map h0 h, k_ret, k_seqR, R.bind]
theorem ends_neg {P : Pl} {l : Int} {e : Int × Int} {st : Store} (h0 : l < 0) (h : P.rows[(-1 - l).toNat]? = some e) : f_ends_of [plD P, .int l] st = .ok (prD (e.2, e.1)) st := by
  have hl : (!decide (l < 0)) = false := by simp; omega
  have h1 : (0 : Int) ≤ -1 - l := by omega
  simp only [f_ends_of, runF, b_ends_of, List.map_cons, List.map_nil, List.cons_append, List.nil_append, Nat.reduceSub, List.replicate_succ, List.replicate_zero,
    v_seq, v_if, v_tof, v_op, v_var, v_c, v_ret, List.getElem?_cons_zero, List.getElem?_cons_succ, k_var, k_op, k_op2, i_ge, k_some, k_tof, hl, k_ifF, pl_1, v_un, k_un, i_neg, i_sub, ix_map h1 h, k_ret, k_seqR, R.bind, v_nx, k_seqN, v_asg]
  rfl
theorem i_eq {st : Store} {i j : Int} : opEq st (.int i) (.int j) = some (.bl (decide (i = j))) := rfl
theorem i_ne {st : Store} {i j : Int} : opNe st (.int i) (.int j) = some (.bl (!decide (i = j))) := rfl
theorem same_pr {p q : Int × Int} : same (prD p) (prD q) = decide (p = q) := by
  show (decide (p.1 = q.1) && (decide (p.2 = q.2) && true)) = _
  obtain ⟨a, b⟩ := p
  obtain ⟨c, d⟩ := q
  simp [Prod.ext_iff]
theorem fits_pr : ∀ (ps : List (Int × Int)) (n : Nat), fits (ps.map prD) (n + 2) = true
  | [], n => rfl
  | p :: ps, n => by
    show (fit (prD p) (n + 2) && fits (ps.map prD) (n + 2)) = true
    rw [fits_pr ps n]
    rfl
theorem any_pr (ps : List (Int × Int)) (q : Int × Int) : ((ps.map prD).any fun y => same y (prD q)) = ps.contains q := by
  induction ps with
  | nil => rfl
  | cons p ps ih =>
    rw [List.map_cons, List.any_cons, ih, List.contains_cons, same_pr]
    congr 1
    by_cases h : p = q
    · subst h; simp
    · have h2 : ¬ q = p := fun z => h z.symm
      simp [h, h2]
theorem in_pr {ps : List (Int × Int)} {a b : Int} {st : Store} : opIn st (.tup [.int a, .int b]) (.tup (ps.map prD)) = some (.bl (ps.contains (a, b))) := by
  show (if (true && fits (ps.map prD) 40) = true then some (D.bl ((ps.map prD).any fun y => same y (prD (a, b)))) else none) = _
  rw [fits_pr ps 38, any_pr]
  rfl
theorem nin_pr {ps : List (Int × Int)} {a b : Int} {st : Store} : opNotIn st (.tup [.int a, .int b]) (.tup (ps.map prD)) = some (.bl (!ps.contains (a, b))) := by
  show (if (true && fits (ps.map prD) 40) = true then some (D.bl (!(ps.map prD).any fun y => same y (prD (a, b)))) else none) = _
  rw [fits_pr ps 38, any_pr]
  rfl
/-! rows with their places -/
def enD (q : (Int × Int) × Nat) : D := .tup [.int (q.2 : Nat), prD q.1]
theorem enumGo_pr : ∀ (rs : List (Int × Int)) (k : Nat), enumGo k (rs.map prD) = (rs.zipIdx k).map enD
  | [], k => rfl
  | r :: rs, k => by
    show D.tup [.int (k : Nat), prD r] :: enumGo (k + 1) (rs.map prD) = _
    rw [enumGo_pr rs (k + 1)]
    rfl
theorem it_enumP {P : Pl} {st : Store} {env : Ent} {f : Ev} (h : f env st = .ok (.tup (P.rows.map prD)) st) : iEnum f env st = R.ok (Src.vals (P.rows.zipIdx.map enD)) st := by
  unfold iEnum
  rw [h]
  show R.ok (Src.vals (enumD (P.rows.map prD))) st = _
  unfold enumD
  rw [enumGo_pr]
def optN : Option Nat → D
  | none => .non
  | some i => .int (i : Nat)
/-- the first place whose row is as asked -/
def firstP (P : Pl) (c : Int × Int → Nat → Bool) : Option Nat := (P.rows.zipIdx.find? fun q => c q.1 q.2).map (·.2)
/-- a loop over the rows that returns the first place as asked -/
theorem find_rows {P : Pl} {c : Int × Int → Nat → Bool} {body : EvT} {i j : Nat} {env : Ent} {st : Store} {Inv : Ent → Prop} (hI : Inv env) (hset : ∀ e x y, Inv e → Inv ((e.set i (some x)).set j (some y)))
    (hb : ∀ (e : Ent) (r : Int × Int) (k : Nat), Inv e → r ∈ P.rows → P.rows[k]? = some r → body ((e.set i (some (.int (k : Nat)))).set j (some (prD r))) st = (if c r k then .ok (.rt (.int (k : Nat)), (e.set i (some (.int (k : Nat)))).set j (some (prD r))) st else .ok (.nx, (e.set i (some (.int (k : Nat)))).set j (some (prD r))) st)) :
    (∃ k e', firstP P c = some k ∧ forVals (tgT [i, j]) body (P.rows.zipIdx.map enD) env st = .ok (.rt (.int (k : Nat)), e') st) ∨ (∃ e', firstP P c = none ∧ Inv e' ∧ forVals (tgT [i, j]) body (P.rows.zipIdx.map enD) env st = .ok (.nx, e') st) := by
  have key := for_find (T := tgT [i, j]) (body := body) (st := st) (Inv := Inv) (pb := fun d => match d with | .tup [.int k, .tup [.int a, .int b]] => c (a, b) k.toNat | _ => false) (fv := fun d => match d with | .tup [x, _] => x | _ => .non) (ds := P.rows.zipIdx.map enD) (env := env) hI fun d hd e he => by
    obtain ⟨⟨r, k⟩, hm, rfl⟩ := List.mem_map.mp hd
    have hk := List.mem_zipIdx' hm
    have hr : P.rows[k]? = some r := by
      rw [List.getElem?_eq_some_iff]
      exact ⟨hk.1, hk.2.symm⟩
    refine ⟨_, rfl, fun hp => ?_, fun hp => ?_⟩
    · have hp' : c r k = true := hp
      have := hb e r k he (List.mem_of_getElem? hr) hr
      rw [if_pos hp'] at this
      exact ⟨_, this⟩
    · have hp' : c r k = false := hp
      have := hb e r k he (List.mem_of_getElem? hr) hr
      rw [hp'] at this
      exact ⟨_, hset e (.int (k : Nat)) (prD r) he, this⟩
  have ef : (P.rows.zipIdx.map enD).find? (fun d => match d with | .tup [.int k, .tup [.int a, .int b]] => c (a, b) k.toNat | _ => false) = (P.rows.zipIdx.find? fun q => c q.1 q.2).map enD := by
    rw [List.find?_map]
    rfl
  rcases key with ⟨d, e', h1, h2⟩ | ⟨e', h1, hI', h2⟩
  · rw [ef] at h1
    obtain ⟨q, hq, rfl⟩ := Option.map_eq_some_iff.mp h1
    refine .inl ⟨q.2, e', ?_, h2⟩
    unfold firstP
    rw [hq]
    rfl
  · rw [ef] at h1
    refine .inr ⟨e', ?_, hI', h2⟩
    unfold firstP
    rw [Option.map_eq_none_iff.mp h1]
    rfl
end FK

set_option Elab.async false
set_option linter.all false
set_option maxRecDepth 100000
namespace FK
open DL
theorem tup2 {ds : List D} {st : Store} (h : ds.length ≤ 16777216) : kTup (R.ok ds st) = R.ok (.tup ds) st := k_tup h
def nextP (P : Pl) (a : Int) (e : Int × Int) : Option Nat := firstP P fun r k => decide (r.1 = e.2) && !(P.pairs.contains (a, (k : Int)))
theorem spec_next {P : Pl} {a : Int} {e : Int × Int} {st : Store} (h0 : 0 ≤ a) (h : P.rows[a.toNat]? = some e) : f_next_of [plD P, .int a] st = .ok (optN (nextP P a e)) st := by
  simp only [f_next_of, b_next_of, runF, List.map_cons, List.map_nil, List.cons_append, List.nil_append, Nat.reduceSub, List.replicate_succ, List.replicate_zero, v_seq, v_if, v_tof, v_op, v_un, v_var, v_c, v_ret, v_nx, v_asg, v_and, v_or, v_not, v_nil, v_cons, v_tup, v_lst, v_frz, v_cb, v_cn, v_cp, v_ife, v_par, v_for, v_tru, List.getElem?_cons_zero, List.getElem?_cons_succ, List.set_cons_zero, List.set_cons_succ, k_var, k_op, k_op2, k_un, k_some, k_tof, k_asgN, k_ret, k_seqR, k_seqN, k_cons, k_cons2, k_cb, k_cn, k_cp, k_frz, k_par, k_par2, k_forV, k_truB, k_truT, k_not, k_orF, k_andT, k_andF, k_orT, k_ifT, k_ifF, k_ifeT, k_ifeF, i_ge, i_sub, i_neg, i_eq, i_ne, in_pr, nin_pr, pl_0, pl_1, pl_2, pr_0, pr_1, R.bind, k_tup, k_lst, List.length_cons, List.length_nil, Nat.reduceAdd, Nat.reduceLeDiff, decide_true, decide_false, Bool.not_true, Bool.not_false, Bool.true_and, Bool.false_and, Bool.and_true, Bool.and_false, Bool.or_true, Bool.or_false, if_true, if_false, Bool.false_eq_true, ix_map h0 h, it_enumP (P := P) (f := eOp opIx (eVar 0) (eC (.int 1))) (env := [some (plD P), some (.int a), some (.int e.2), none, none]) rfl]
  rcases find_rows (P := P) (c := fun r k => decide (r.1 = e.2) && !(P.pairs.contains (a, (k : Int)))) (i := 3) (j := 4) (env := [some (plD P), some (.int a), some (.int e.2), none, none]) (st := st)
    (body := sIf (tAndD (tOf (eOp opEq (eOp opIx (eVar 4) (eC (.int 0))) (eVar 2))) (tOf (eOp opNotIn (eTup (aCons (eVar 1) (aCons (eVar 3) aNil))) (eOp opIx (eVar 0) (eC (.int 2)))))) (sRet (eVar 3)) sNx)
    (Inv := fun v => ∃ x y, v = [some (plD P), some (.int a), some (.int e.2), x, y]) ⟨none, none, rfl⟩ (fun v x y ⟨x', y', hv⟩ => by subst hv; exact ⟨_, _, rfl⟩) (fun v r k ⟨x', y', hv⟩ hr hk => by
      subst hv
      by_cases q1 : r.1 = e.2
      · cases q2 : P.pairs.contains (a, (k : Int))
        all_goals simp only [runF, List.map_cons, List.map_nil, List.cons_append, List.nil_append, Nat.reduceSub, List.replicate_succ, List.replicate_zero, v_seq, v_if, v_tof, v_op, v_un, v_var, v_c, v_ret, v_nx, v_asg, v_and, v_or, v_not, v_nil, v_cons, v_tup, v_lst, v_frz, v_cb, v_cn, v_cp, v_ife, v_par, v_for, v_tru, List.getElem?_cons_zero, List.getElem?_cons_succ, List.set_cons_zero, List.set_cons_succ, k_var, k_op, k_op2, k_un, k_some, k_tof, k_asgN, k_ret, k_seqR, k_seqN, k_cons, k_cons2, k_cb, k_cn, k_cp, k_frz, k_par, k_par2, k_forV, k_truB, k_truT, k_not, k_orF, k_andT, k_andF, k_orT, k_ifT, k_ifF, k_ifeT, k_ifeF, i_ge, i_sub, i_neg, i_eq, i_ne, in_pr, nin_pr, pl_0, pl_1, pl_2, pr_0, pr_1, R.bind, k_tup, k_lst, List.length_cons, List.length_nil, Nat.reduceAdd, Nat.reduceLeDiff, decide_true, decide_false, Bool.not_true, Bool.not_false, Bool.true_and, Bool.false_and, Bool.and_true, Bool.and_false, Bool.or_true, Bool.or_false, if_true, if_false, Bool.false_eq_true, q1, q2]
      · simp only [runF, List.map_cons, List.map_nil, List.cons_append, List.nil_append, Nat.reduceSub, List.replicate_succ, List.replicate_zero, v_seq, v_if, v_tof, v_op, v_un, v_var, v_c, v_ret, v_nx, v_asg, v_and, v_or, v_not, v_nil, v_cons, v_tup, v_lst, v_frz, v_cb, v_cn, v_cp, v_ife, v_par, v_for, v_tru, List.getElem?_cons_zero, List.getElem?_cons_succ, List.set_cons_zero, List.set_cons_succ, k_var, k_op, k_op2, k_un, k_some, k_tof, k_asgN, k_ret, k_seqR, k_seqN, k_cons, k_cons2, k_cb, k_cn, k_cp, k_frz, k_par, k_par2, k_forV, k_truB, k_truT, k_not, k_orF, k_andT, k_andF, k_orT, k_ifT, k_ifF, k_ifeT, k_ifeF, i_ge, i_sub, i_neg, i_eq, i_ne, in_pr, nin_pr, pl_0, pl_1, pl_2, pr_0, pr_1, R.bind, k_tup, k_lst, List.length_cons, List.length_nil, Nat.reduceAdd, Nat.reduceLeDiff, decide_true, decide_false, Bool.not_true, Bool.not_false, Bool.true_and, Bool.false_and, Bool.and_true, Bool.and_false, Bool.or_true, Bool.or_false, if_true, if_false, Bool.false_eq_true, q1]) with ⟨k, e', h1, h2⟩ | ⟨e', h1, hI, h2⟩
  · simp only [runF, List.map_cons, List.map_nil, List.cons_append, List.nil_append, Nat.reduceSub, List.replicate_succ, List.replicate_zero, v_seq, v_if, v_tof, v_op, v_un, v_var, v_c, v_ret, v_nx, v_asg, v_and, v_or, v_not, v_nil, v_cons, v_tup, v_lst, v_frz, v_cb, v_cn, v_cp, v_ife, v_par, v_for, v_tru, List.getElem?_cons_zero, List.getElem?_cons_succ, List.set_cons_zero, List.set_cons_succ, k_var, k_op, k_op2, k_un, k_some, k_tof, k_asgN, k_ret, k_seqR, k_seqN, k_cons, k_cons2, k_cb, k_cn, k_cp, k_frz, k_par, k_par2, k_forV, k_truB, k_truT, k_not, k_orF, k_andT, k_andF, k_orT, k_ifT, k_ifF, k_ifeT, k_ifeF, i_ge, i_sub, i_neg, i_eq, i_ne, in_pr, nin_pr, pl_0, pl_1, pl_2, pr_0, pr_1, R.bind, k_tup, k_lst, List.length_cons, List.length_nil, Nat.reduceAdd, Nat.reduceLeDiff, decide_true, decide_false, Bool.not_true, Bool.not_false, Bool.true_and, Bool.false_and, Bool.and_true, Bool.and_false, Bool.or_true, Bool.or_false, if_true, if_false, Bool.false_eq_true, h2, nextP, h1, optN]
  · simp only [runF, List.map_cons, List.map_nil, List.cons_append, List.nil_append, Nat.reduceSub, List.replicate_succ, List.replicate_zero, v_seq, v_if, v_tof, v_op, v_un, v_var, v_c, v_ret, v_nx, v_asg, v_and, v_or, v_not, v_nil, v_cons, v_tup, v_lst, v_frz, v_cb, v_cn, v_cp, v_ife, v_par, v_for, v_tru, List.getElem?_cons_zero, List.getElem?_cons_succ, List.set_cons_zero, List.set_cons_succ, k_var, k_op, k_op2, k_un, k_some, k_tof, k_asgN, k_ret, k_seqR, k_seqN, k_cons, k_cons2, k_cb, k_cn, k_cp, k_frz, k_par, k_par2, k_forV, k_truB, k_truT, k_not, k_orF, k_andT, k_andF, k_orT, k_ifT, k_ifF, k_ifeT, k_ifeF, i_ge, i_sub, i_neg, i_eq, i_ne, in_pr, nin_pr, pl_0, pl_1, pl_2, pr_0, pr_1, R.bind, k_tup, k_lst, List.length_cons, List.length_nil, Nat.reduceAdd, Nat.reduceLeDiff, decide_true, decide_false, Bool.not_true, Bool.not_false, Bool.true_and, Bool.false_and, Bool.and_true, Bool.and_false, Bool.or_true, Bool.or_false, if_true, if_false, Bool.false_eq_true, h2, nextP, h1, optN]

def aheadP (P : Pl) (a : Int) (e : Int × Int) : Option Nat := firstP P fun r k => decide (r.2 = e.1) && !(P.pairs.contains ((k : Int), a))
theorem spec_ahead {P : Pl} {a : Int} {e : Int × Int} {st : Store} (h0 : 0 ≤ a) (h : P.rows[a.toNat]? = some e) : f_ahead_of [plD P, .int a] st = .ok (optN (aheadP P a e)) st := by
  simp only [f_ahead_of, b_ahead_of, runF, List.map_cons, List.map_nil, List.cons_append, List.nil_append, Nat.reduceSub, List.replicate_succ, List.replicate_zero, v_seq, v_if, v_tof, v_op, v_un, v_var, v_c, v_ret, v_nx, v_asg, v_and, v_or, v_not, v_nil, v_cons, v_tup, v_lst, v_frz, v_cb, v_cn, v_cp, v_ife, v_par, v_for, v_tru, List.getElem?_cons_zero, List.getElem?_cons_succ, List.set_cons_zero, List.set_cons_succ, k_var, k_op, k_op2, k_un, k_some, k_tof, k_asgN, k_ret, k_seqR, k_seqN, k_cons, k_cons2, k_cb, k_cn, k_cp, k_frz, k_par, k_par2, k_forV, k_truB, k_truT, k_not, k_orF, k_andT, k_andF, k_orT, k_ifT, k_ifF, k_ifeT, k_ifeF, i_ge, i_sub, i_neg, i_eq, i_ne, in_pr, nin_pr, pl_0, pl_1, pl_2, pr_0, pr_1, R.bind, k_tup, k_lst, List.length_cons, List.length_nil, Nat.reduceAdd, Nat.reduceLeDiff, decide_true, decide_false, Bool.not_true, Bool.not_false, Bool.true_and, Bool.false_and, Bool.and_true, Bool.and_false, Bool.or_true, Bool.or_false, if_true, if_false, Bool.false_eq_true, ix_map h0 h, it_enumP (P := P) (f := eOp opIx (eVar 0) (eC (.int 1))) (env := [some (plD P), some (.int a), some (.int e.1), none, none]) rfl]
  rcases find_rows (P := P) (c := fun r k => decide (r.2 = e.1) && !(P.pairs.contains ((k : Int), a))) (i := 3) (j := 4) (env := [some (plD P), some (.int a), some (.int e.1), none, none]) (st := st)
    (body := sIf (tAndD (tOf (eOp opEq (eOp opIx (eVar 4) (eC (.int 1))) (eVar 2))) (tOf (eOp opNotIn (eTup (aCons (eVar 3) (aCons (eVar 1) aNil))) (eOp opIx (eVar 0) (eC (.int 2)))))) (sRet (eVar 3)) sNx)
    (Inv := fun v => ∃ x y, v = [some (plD P), some (.int a), some (.int e.1), x, y]) ⟨none, none, rfl⟩ (fun v x y ⟨x', y', hv⟩ => by subst hv; exact ⟨_, _, rfl⟩) (fun v r k ⟨x', y', hv⟩ hr hk => by
      subst hv
      by_cases q1 : r.2 = e.1
      · cases q2 : P.pairs.contains ((k : Int), a)
        all_goals simp only [runF, List.map_cons, List.map_nil, List.cons_append, List.nil_append, Nat.reduceSub, List.replicate_succ, List.replicate_zero, v_seq, v_if, v_tof, v_op, v_un, v_var, v_c, v_ret, v_nx, v_asg, v_and, v_or, v_not, v_nil, v_cons, v_tup, v_lst, v_frz, v_cb, v_cn, v_cp, v_ife, v_par, v_for, v_tru, List.getElem?_cons_zero, List.getElem?_cons_succ, List.set_cons_zero, List.set_cons_succ, k_var, k_op, k_op2, k_un, k_some, k_tof, k_asgN, k_ret, k_seqR, k_seqN, k_cons, k_cons2, k_cb, k_cn, k_cp, k_frz, k_par, k_par2, k_forV, k_truB, k_truT, k_not, k_orF, k_andT, k_andF, k_orT, k_ifT, k_ifF, k_ifeT, k_ifeF, i_ge, i_sub, i_neg, i_eq, i_ne, in_pr, nin_pr, pl_0, pl_1, pl_2, pr_0, pr_1, R.bind, k_tup, k_lst, List.length_cons, List.length_nil, Nat.reduceAdd, Nat.reduceLeDiff, decide_true, decide_false, Bool.not_true, Bool.not_false, Bool.true_and, Bool.false_and, Bool.and_true, Bool.and_false, Bool.or_true, Bool.or_false, if_true, if_false, Bool.false_eq_true, q1, q2]
      · simp only [runF, List.map_cons, List.map_nil, List.cons_append, List.nil_append, Nat.reduceSub, List.replicate_succ, List.replicate_zero, v_seq, v_if, v_tof, v_op, v_un, v_var, v_c, v_ret, v_nx, v_asg, v_and, v_or, v_not, v_nil, v_cons, v_tup, v_lst, v_frz, v_cb, v_cn, v_cp, v_ife, v_par, v_for, v_tru, List.getElem?_cons_zero, List.getElem?_cons_succ, List.set_cons_zero, List.set_cons_succ, k_var, k_op, k_op2, k_un, k_some, k_tof, k_asgN, k_ret, k_seqR, k_seqN, k_cons, k_cons2, k_cb, k_cn, k_cp, k_frz, k_par, k_par2, k_forV, k_truB, k_truT, k_not, k_orF, k_andT, k_andF, k_orT, k_ifT, k_ifF, k_ifeT, k_ifeF, i_ge, i_sub, i_neg, i_eq, i_ne, in_pr, nin_pr, pl_0, pl_1, pl_2, pr_0, pr_1, R.bind, k_tup, k_lst, List.length_cons, List.length_nil, Nat.reduceAdd, Nat.reduceLeDiff, decide_true, decide_false, Bool.not_true, Bool.not_false, Bool.true_and, Bool.false_and, Bool.and_true, Bool.and_false, Bool.or_true, Bool.or_false, if_true, if_false, Bool.false_eq_true, q1]) with ⟨k, e', h1, h2⟩ | ⟨e', h1, hI, h2⟩
  · simp only [runF, List.map_cons, List.map_nil, List.cons_append, List.nil_append, Nat.reduceSub, List.replicate_succ, List.replicate_zero, v_seq, v_if, v_tof, v_op, v_un, v_var, v_c, v_ret, v_nx, v_asg, v_and, v_or, v_not, v_nil, v_cons, v_tup, v_lst, v_frz, v_cb, v_cn, v_cp, v_ife, v_par, v_for, v_tru, List.getElem?_cons_zero, List.getElem?_cons_succ, List.set_cons_zero, List.set_cons_succ, k_var, k_op, k_op2, k_un, k_some, k_tof, k_asgN, k_ret, k_seqR, k_seqN, k_cons, k_cons2, k_cb, k_cn, k_cp, k_frz, k_par, k_par2, k_forV, k_truB, k_truT, k_not, k_orF, k_andT, k_andF, k_orT, k_ifT, k_ifF, k_ifeT, k_ifeF, i_ge, i_sub, i_neg, i_eq, i_ne, in_pr, nin_pr, pl_0, pl_1, pl_2, pr_0, pr_1, R.bind, k_tup, k_lst, List.length_cons, List.length_nil, Nat.reduceAdd, Nat.reduceLeDiff, decide_true, decide_false, Bool.not_true, Bool.not_false, Bool.true_and, Bool.false_and, Bool.and_true, Bool.and_false, Bool.or_true, Bool.or_false, if_true, if_false, Bool.false_eq_true, h2, aheadP, h1, optN]
  · simp only [runF, List.map_cons, List.map_nil, List.cons_append, List.nil_append, Nat.reduceSub, List.replicate_succ, List.replicate_zero, v_seq, v_if, v_tof, v_op, v_un, v_var, v_c, v_ret, v_nx, v_asg, v_and, v_or, v_not, v_nil, v_cons, v_tup, v_lst, v_frz, v_cb, v_cn, v_cp, v_ife, v_par, v_for, v_tru, List.getElem?_cons_zero, List.getElem?_cons_succ, List.set_cons_zero, List.set_cons_succ, k_var, k_op, k_op2, k_un, k_some, k_tof, k_asgN, k_ret, k_seqR, k_seqN, k_cons, k_cons2, k_cb, k_cn, k_cp, k_frz, k_par, k_par2, k_forV, k_truB, k_truT, k_not, k_orF, k_andT, k_andF, k_orT, k_ifT, k_ifF, k_ifeT, k_ifeF, i_ge, i_sub, i_neg, i_eq, i_ne, in_pr, nin_pr, pl_0, pl_1, pl_2, pr_0, pr_1, R.bind, k_tup, k_lst, List.length_cons, List.length_nil, Nat.reduceAdd, Nat.reduceLeDiff, decide_true, decide_false, Bool.not_true, Bool.not_false, Bool.true_and, Bool.false_and, Bool.and_true, Bool.and_false, Bool.or_true, Bool.or_false, if_true, if_false, Bool.false_eq_true, h2, aheadP, h1, optN]
def begunP (P : Pl) (a : Int) (e : Int × Int) : Option Nat := firstP P fun r k => !decide ((k : Int) = a) && decide (r.1 = e.1)
theorem spec_begun {P : Pl} {a : Int} {e : Int × Int} {st : Store} (h0 : 0 ≤ a) (h : P.rows[a.toNat]? = some e) : f_other_begun [plD P, .int a] st = .ok (optN (begunP P a e)) st := by
  simp only [f_other_begun, b_other_begun, runF, List.map_cons, List.map_nil, List.cons_append, List.nil_append, Nat.reduceSub, List.replicate_succ, List.replicate_zero, v_seq, v_if, v_tof, v_op, v_un, v_var, v_c, v_ret, v_nx, v_asg, v_and, v_or, v_not, v_nil, v_cons, v_tup, v_lst, v_frz, v_cb, v_cn, v_cp, v_ife, v_par, v_for, v_tru, List.getElem?_cons_zero, List.getElem?_cons_succ, List.set_cons_zero, List.set_cons_succ, k_var, k_op, k_op2, k_un, k_some, k_tof, k_asgN, k_ret, k_seqR, k_seqN, k_cons, k_cons2, k_cb, k_cn, k_cp, k_frz, k_par, k_par2, k_forV, k_truB, k_truT, k_not, k_orF, k_andT, k_andF, k_orT, k_ifT, k_ifF, k_ifeT, k_ifeF, i_ge, i_sub, i_neg, i_eq, i_ne, in_pr, nin_pr, pl_0, pl_1, pl_2, pr_0, pr_1, R.bind, k_tup, k_lst, List.length_cons, List.length_nil, Nat.reduceAdd, Nat.reduceLeDiff, decide_true, decide_false, Bool.not_true, Bool.not_false, Bool.true_and, Bool.false_and, Bool.and_true, Bool.and_false, Bool.or_true, Bool.or_false, if_true, if_false, Bool.false_eq_true, it_enumP (P := P) (f := eOp opIx (eVar 0) (eC (.int 1))) (env := [some (plD P), some (.int a), none, none]) rfl]
  rcases find_rows (P := P) (c := fun r k => !decide ((k : Int) = a) && decide (r.1 = e.1)) (i := 2) (j := 3) (env := [some (plD P), some (.int a), none, none]) (st := st)
    (body := sIf (tAndD (tOf (eOp opNe (eVar 2) (eVar 1))) (tOf (eOp opEq (eOp opIx (eVar 3) (eC (.int 0))) (eOp opIx (eOp opIx (eOp opIx (eVar 0) (eC (.int 1))) (eVar 1)) (eC (.int 0)))))) (sRet (eVar 2)) sNx)
    (Inv := fun v => ∃ x y, v = [some (plD P), some (.int a), x, y]) ⟨none, none, rfl⟩ (fun v x y ⟨x', y', hv⟩ => by subst hv; exact ⟨_, _, rfl⟩) (fun v r k ⟨x', y', hv⟩ hr hk => by
      subst hv
      by_cases q1 : (k : Int) = a
      · simp only [runF, List.map_cons, List.map_nil, List.cons_append, List.nil_append, Nat.reduceSub, List.replicate_succ, List.replicate_zero, v_seq, v_if, v_tof, v_op, v_un, v_var, v_c, v_ret, v_nx, v_asg, v_and, v_or, v_not, v_nil, v_cons, v_tup, v_lst, v_frz, v_cb, v_cn, v_cp, v_ife, v_par, v_for, v_tru, List.getElem?_cons_zero, List.getElem?_cons_succ, List.set_cons_zero, List.set_cons_succ, k_var, k_op, k_op2, k_un, k_some, k_tof, k_asgN, k_ret, k_seqR, k_seqN, k_cons, k_cons2, k_cb, k_cn, k_cp, k_frz, k_par, k_par2, k_forV, k_truB, k_truT, k_not, k_orF, k_andT, k_andF, k_orT, k_ifT, k_ifF, k_ifeT, k_ifeF, i_ge, i_sub, i_neg, i_eq, i_ne, in_pr, nin_pr, pl_0, pl_1, pl_2, pr_0, pr_1, R.bind, k_tup, k_lst, List.length_cons, List.length_nil, Nat.reduceAdd, Nat.reduceLeDiff, decide_true, decide_false, Bool.not_true, Bool.not_false, Bool.true_and, Bool.false_and, Bool.and_true, Bool.and_false, Bool.or_true, Bool.or_false, if_true, if_false, Bool.false_eq_true, q1]
      · by_cases q2 : r.1 = e.1
        all_goals simp only [runF, List.map_cons, List.map_nil, List.cons_append, List.nil_append, Nat.reduceSub, List.replicate_succ, List.replicate_zero, v_seq, v_if, v_tof, v_op, v_un, v_var, v_c, v_ret, v_nx, v_asg, v_and, v_or, v_not, v_nil, v_cons, v_tup, v_lst, v_frz, v_cb, v_cn, v_cp, v_ife, v_par, v_for, v_tru, List.getElem?_cons_zero, List.getElem?_cons_succ, List.set_cons_zero, List.set_cons_succ, k_var, k_op, k_op2, k_un, k_some, k_tof, k_asgN, k_ret, k_seqR, k_seqN, k_cons, k_cons2, k_cb, k_cn, k_cp, k_frz, k_par, k_par2, k_forV, k_truB, k_truT, k_not, k_orF, k_andT, k_andF, k_orT, k_ifT, k_ifF, k_ifeT, k_ifeF, i_ge, i_sub, i_neg, i_eq, i_ne, in_pr, nin_pr, pl_0, pl_1, pl_2, pr_0, pr_1, R.bind, k_tup, k_lst, List.length_cons, List.length_nil, Nat.reduceAdd, Nat.reduceLeDiff, decide_true, decide_false, Bool.not_true, Bool.not_false, Bool.true_and, Bool.false_and, Bool.and_true, Bool.and_false, Bool.or_true, Bool.or_false, if_true, if_false, Bool.false_eq_true, q1, q2, ix_map h0 h]) with ⟨k, e', h1, h2⟩ | ⟨e', h1, hI, h2⟩
  · simp only [runF, List.map_cons, List.map_nil, List.cons_append, List.nil_append, Nat.reduceSub, List.replicate_succ, List.replicate_zero, v_seq, v_if, v_tof, v_op, v_un, v_var, v_c, v_ret, v_nx, v_asg, v_and, v_or, v_not, v_nil, v_cons, v_tup, v_lst, v_frz, v_cb, v_cn, v_cp, v_ife, v_par, v_for, v_tru, List.getElem?_cons_zero, List.getElem?_cons_succ, List.set_cons_zero, List.set_cons_succ, k_var, k_op, k_op2, k_un, k_some, k_tof, k_asgN, k_ret, k_seqR, k_seqN, k_cons, k_cons2, k_cb, k_cn, k_cp, k_frz, k_par, k_par2, k_forV, k_truB, k_truT, k_not, k_orF, k_andT, k_andF, k_orT, k_ifT, k_ifF, k_ifeT, k_ifeF, i_ge, i_sub, i_neg, i_eq, i_ne, in_pr, nin_pr, pl_0, pl_1, pl_2, pr_0, pr_1, R.bind, k_tup, k_lst, List.length_cons, List.length_nil, Nat.reduceAdd, Nat.reduceLeDiff, decide_true, decide_false, Bool.not_true, Bool.not_false, Bool.true_and, Bool.false_and, Bool.and_true, Bool.and_false, Bool.or_true, Bool.or_false, if_true, if_false, Bool.false_eq_true, h2, begunP, h1, optN]
  · simp only [runF, List.map_cons, List.map_nil, List.cons_append, List.nil_append, Nat.reduceSub, List.replicate_succ, List.replicate_zero, v_seq, v_if, v_tof, v_op, v_un, v_var, v_c, v_ret, v_nx, v_asg, v_and, v_or, v_not, v_nil, v_cons, v_tup, v_lst, v_frz, v_cb, v_cn, v_cp, v_ife, v_par, v_for, v_tru, List.getElem?_cons_zero, List.getElem?_cons_succ, List.set_cons_zero, List.set_cons_succ, k_var, k_op, k_op2, k_un, k_some, k_tof, k_asgN, k_ret, k_seqR, k_seqN, k_cons, k_cons2, k_cb, k_cn, k_cp, k_frz, k_par, k_par2, k_forV, k_truB, k_truT, k_not, k_orF, k_andT, k_andF, k_orT, k_ifT, k_ifF, k_ifeT, k_ifeF, i_ge, i_sub, i_neg, i_eq, i_ne, in_pr, nin_pr, pl_0, pl_1, pl_2, pr_0, pr_1, R.bind, k_tup, k_lst, List.length_cons, List.length_nil, Nat.reduceAdd, Nat.reduceLeDiff, decide_true, decide_false, Bool.not_true, Bool.not_false, Bool.true_and, Bool.false_and, Bool.and_true, Bool.and_false, Bool.or_true, Bool.or_false, if_true, if_false, Bool.false_eq_true, h2, begunP, h1, optN]
def endedP (P : Pl) (a : Int) (e : Int × Int) : Option Nat := firstP P fun r k => !decide ((k : Int) = a) && decide (r.2 = e.2)
theorem spec_ended {P : Pl} {a : Int} {e : Int × Int} {st : Store} (h0 : 0 ≤ a) (h : P.rows[a.toNat]? = some e) : f_other_ended [plD P, .int a] st = .ok (optN (endedP P a e)) st := by
  simp only [f_other_ended, b_other_ended, runF, List.map_cons, List.map_nil, List.cons_append, List.nil_append, Nat.reduceSub, List.replicate_succ, List.replicate_zero, v_seq, v_if, v_tof, v_op, v_un, v_var, v_c, v_ret, v_nx, v_asg, v_and, v_or, v_not, v_nil, v_cons, v_tup, v_lst, v_frz, v_cb, v_cn, v_cp, v_ife, v_par, v_for, v_tru, List.getElem?_cons_zero, List.getElem?_cons_succ, List.set_cons_zero, List.set_cons_succ, k_var, k_op, k_op2, k_un, k_some, k_tof, k_asgN, k_ret, k_seqR, k_seqN, k_cons, k_cons2, k_cb, k_cn, k_cp, k_frz, k_par, k_par2, k_forV, k_truB, k_truT, k_not, k_orF, k_andT, k_andF, k_orT, k_ifT, k_ifF, k_ifeT, k_ifeF, i_ge, i_sub, i_neg, i_eq, i_ne, in_pr, nin_pr, pl_0, pl_1, pl_2, pr_0, pr_1, R.bind, k_tup, k_lst, List.length_cons, List.length_nil, Nat.reduceAdd, Nat.reduceLeDiff, decide_true, decide_false, Bool.not_true, Bool.not_false, Bool.true_and, Bool.false_and, Bool.and_true, Bool.and_false, Bool.or_true, Bool.or_false, if_true, if_false, Bool.false_eq_true, it_enumP (P := P) (f := eOp opIx (eVar 0) (eC (.int 1))) (env := [some (plD P), some (.int a), none, none]) rfl]
  rcases find_rows (P := P) (c := fun r k => !decide ((k : Int) = a) && decide (r.2 = e.2)) (i := 2) (j := 3) (env := [some (plD P), some (.int a), none, none]) (st := st)
    (body := sIf (tAndD (tOf (eOp opNe (eVar 2) (eVar 1))) (tOf (eOp opEq (eOp opIx (eVar 3) (eC (.int 1))) (eOp opIx (eOp opIx (eOp opIx (eVar 0) (eC (.int 1))) (eVar 1)) (eC (.int 1)))))) (sRet (eVar 2)) sNx)
    (Inv := fun v => ∃ x y, v = [some (plD P), some (.int a), x, y]) ⟨none, none, rfl⟩ (fun v x y ⟨x', y', hv⟩ => by subst hv; exact ⟨_, _, rfl⟩) (fun v r k ⟨x', y', hv⟩ hr hk => by
      subst hv
      by_cases q1 : (k : Int) = a
      · simp only [runF, List.map_cons, List.map_nil, List.cons_append, List.nil_append, Nat.reduceSub, List.replicate_succ, List.replicate_zero, v_seq, v_if, v_tof, v_op, v_un, v_var, v_c, v_ret, v_nx, v_asg, v_and, v_or, v_not, v_nil, v_cons, v_tup, v_lst, v_frz, v_cb, v_cn, v_cp, v_ife, v_par, v_for, v_tru, List.getElem?_cons_zero, List.getElem?_cons_succ, List.set_cons_zero, List.set_cons_succ, k_var, k_op, k_op2, k_un, k_some, k_tof, k_asgN, k_ret, k_seqR, k_seqN, k_cons, k_cons2, k_cb, k_cn, k_cp, k_frz, k_par, k_par2, k_forV, k_truB, k_truT, k_not, k_orF, k_andT, k_andF, k_orT, k_ifT, k_ifF, k_ifeT, k_ifeF, i_ge, i_sub, i_neg, i_eq, i_ne, in_pr, nin_pr, pl_0, pl_1, pl_2, pr_0, pr_1, R.bind, k_tup, k_lst, List.length_cons, List.length_nil, Nat.reduceAdd, Nat.reduceLeDiff, decide_true, decide_false, Bool.not_true, Bool.not_false, Bool.true_and, Bool.false_and, Bool.and_true, Bool.and_false, Bool.or_true, Bool.or_false, if_true, if_false, Bool.false_eq_true, q1]
      · by_cases q2 : r.2 = e.2
        all_goals simp only [runF, List.map_cons, List.map_nil, List.cons_append, List.nil_append, Nat.reduceSub, List.replicate_succ, List.replicate_zero, v_seq, v_if, v_tof, v_op, v_un, v_var, v_c, v_ret, v_nx, v_asg, v_and, v_or, v_not, v_nil, v_cons, v_tup, v_lst, v_frz, v_cb, v_cn, v_cp, v_ife, v_par, v_for, v_tru, List.getElem?_cons_zero, List.getElem?_cons_succ, List.set_cons_zero, List.set_cons_succ, k_var, k_op, k_op2, k_un, k_some, k_tof, k_asgN, k_ret, k_seqR, k_seqN, k_cons, k_cons2, k_cb, k_cn, k_cp, k_frz, k_par, k_par2, k_forV, k_truB, k_truT, k_not, k_orF, k_andT, k_andF, k_orT, k_ifT, k_ifF, k_ifeT, k_ifeF, i_ge, i_sub, i_neg, i_eq, i_ne, in_pr, nin_pr, pl_0, pl_1, pl_2, pr_0, pr_1, R.bind, k_tup, k_lst, List.length_cons, List.length_nil, Nat.reduceAdd, Nat.reduceLeDiff, decide_true, decide_false, Bool.not_true, Bool.not_false, Bool.true_and, Bool.false_and, Bool.and_true, Bool.and_false, Bool.or_true, Bool.or_false, if_true, if_false, Bool.false_eq_true, q1, q2, ix_map h0 h]) with ⟨k, e', h1, h2⟩ | ⟨e', h1, hI, h2⟩
  · simp only [runF, List.map_cons, List.map_nil, List.cons_append, List.nil_append, Nat.reduceSub, List.replicate_succ, List.replicate_zero, v_seq, v_if, v_tof, v_op, v_un, v_var, v_c, v_ret, v_nx, v_asg, v_and, v_or, v_not, v_nil, v_cons, v_tup, v_lst, v_frz, v_cb, v_cn, v_cp, v_ife, v_par, v_for, v_tru, List.getElem?_cons_zero, List.getElem?_cons_succ, List.set_cons_zero, List.set_cons_succ, k_var, k_op, k_op2, k_un, k_some, k_tof, k_asgN, k_ret, k_seqR, k_seqN, k_cons, k_cons2, k_cb, k_cn, k_cp, k_frz, k_par, k_par2, k_forV, k_truB, k_truT, k_not, k_orF, k_andT, k_andF, k_orT, k_ifT, k_ifF, k_ifeT, k_ifeF, i_ge, i_sub, i_neg, i_eq, i_ne, in_pr, nin_pr, pl_0, pl_1, pl_2, pr_0, pr_1, R.bind, k_tup, k_lst, List.length_cons, List.length_nil, Nat.reduceAdd, Nat.reduceLeDiff, decide_true, decide_false, Bool.not_true, Bool.not_false, Bool.true_and, Bool.false_and, Bool.and_true, Bool.and_false, Bool.or_true, Bool.or_false, if_true, if_false, Bool.false_eq_true, h2, endedP, h1, optN]
  · simp only [runF, List.map_cons, List.map_nil, List.cons_append, List.nil_append, Nat.reduceSub, List.replicate_succ, List.replicate_zero, v_seq, v_if, v_tof, v_op, v_un, v_var, v_c, v_ret, v_nx, v_asg, v_and, v_or, v_not, v_nil, v_cons, v_tup, v_lst, v_frz, v_cb, v_cn, v_cp, v_ife, v_par, v_for, v_tru, List.getElem?_cons_zero, List.getElem?_cons_succ, List.set_cons_zero, List.set_cons_succ, k_var, k_op, k_op2, k_un, k_some, k_tof, k_asgN, k_ret, k_seqR, k_seqN, k_cons, k_cons2, k_cb, k_cn, k_cp, k_frz, k_par, k_par2, k_forV, k_truB, k_truT, k_not, k_orF, k_andT, k_andF, k_orT, k_ifT, k_ifF, k_ifeT, k_ifeF, i_ge, i_sub, i_neg, i_eq, i_ne, in_pr, nin_pr, pl_0, pl_1, pl_2, pr_0, pr_1, R.bind, k_tup, k_lst, List.length_cons, List.length_nil, Nat.reduceAdd, Nat.reduceLeDiff, decide_true, decide_false, Bool.not_true, Bool.not_false, Bool.true_and, Bool.false_and, Bool.and_true, Bool.and_false, Bool.or_true, Bool.or_false, if_true, if_false, Bool.false_eq_true, h2, endedP, h1, optN]
/-! calls -/
theorem purs_pr : ∀ ps : List (Int × Int), purs (ps.map prD) = true
  | [] => rfl
  | p :: ps => by
    show (pur (prD p) && purs (ps.map prD)) = true
    rw [purs_pr ps]
    rfl
theorem pur_pl {P : Pl} : pur (plD P) = true := by
  show (true && (purs (P.rows.map prD) && (purs (P.pairs.map prD) && true))) = true
  rw [purs_pr, purs_pr]
  rfl
theorem app_ok {g : List D → Store → R D} {ds : List D} {d : D} {st : Store} (hp : purs ds = true) (h : g ds [] = .ok d st) (ho : outD d st = some d) : appP g ds = some d := by
  unfold appP
  rw [if_pos hp, h]
  exact ho
theorem purs_pl {P : Pl} {ds : List D} (h : purs ds = true) : purs (plD P :: ds) = true := by
  show (pur (plD P) && purs ds) = true
  rw [pur_pl, h]
  rfl
theorem out_optN {o : Option Nat} {st : Store} : outD (optN o) st = some (optN o) := by cases o <;> rfl
theorem app_next {P : Pl} {a : Int} {e : Int × Int} (h0 : 0 ≤ a) (h : P.rows[a.toNat]? = some e) : appP f_next_of [plD P, .int a] = some (optN (nextP P a e)) := app_ok (purs_pl rfl) (spec_next h0 h) out_optN
theorem app_ahead {P : Pl} {a : Int} {e : Int × Int} (h0 : 0 ≤ a) (h : P.rows[a.toNat]? = some e) : appP f_ahead_of [plD P, .int a] = some (optN (aheadP P a e)) := app_ok (purs_pl rfl) (spec_ahead h0 h) out_optN
theorem app_begun {P : Pl} {a : Int} {e : Int × Int} (h0 : 0 ≤ a) (h : P.rows[a.toNat]? = some e) : appP f_other_begun [plD P, .int a] = some (optN (begunP P a e)) := app_ok (purs_pl rfl) (spec_begun h0 h) out_optN
theorem app_ended {P : Pl} {a : Int} {e : Int × Int} (h0 : 0 ≤ a) (h : P.rows[a.toNat]? = some e) : appP f_other_ended [plD P, .int a] = some (optN (endedP P a e)) := app_ok (purs_pl rfl) (spec_ended h0 h) out_optN
/-! mate_of -/
theorem isN_opt {o : Option Nat} {st : Store} : opIsN st (optN o) .non = some (.bl o.isNone) := by cases o <;> rfl
def negN : Option Nat → D
  | none => .non
  | some i => .int (-1 - (i : Int))
theorem spec_mate_pos {P : Pl} {a : Int} {e : Int × Int} {st : Store} (h0 : 0 ≤ a) (h : P.rows[a.toNat]? = some e) : f_mate_of [plD P, .int a] st = .ok (optN (begunP P a e)) st := by
  have hl : decide (a < 0) = false := by simp; omega
  simp only [f_mate_of, b_mate_of, runF, List.map_cons, List.map_nil, List.cons_append, List.nil_append, Nat.reduceSub, List.replicate_succ, List.replicate_zero, v_seq, v_if, v_tof, v_op, v_un, v_var, v_c, v_ret, v_nx, v_asg, v_and, v_or, v_not, v_nil, v_cons, v_tup, v_lst, v_frz, v_cb, v_cn, v_cp, v_ife, v_par, v_for, v_tru, List.getElem?_cons_zero, List.getElem?_cons_succ, List.set_cons_zero, List.set_cons_succ, k_var, k_op, k_op2, k_un, k_some, k_tof, k_asgN, k_ret, k_seqR, k_seqN, k_cons, k_cons2, k_cb, k_cn, k_cp, k_frz, k_par, k_par2, k_forV, k_truB, k_truT, k_not, k_orF, k_andT, k_andF, k_orT, k_ifT, k_ifF, k_ifeT, k_ifeF, i_ge, i_sub, i_neg, i_eq, i_ne, in_pr, nin_pr, pl_0, pl_1, pl_2, pr_0, pr_1, R.bind, k_tup, k_lst, List.length_cons, List.length_nil, Nat.reduceAdd, Nat.reduceLeDiff, decide_true, decide_false, Bool.not_true, Bool.not_false, Bool.true_and, Bool.false_and, Bool.and_true, Bool.and_false, Bool.or_true, Bool.or_false, if_true, if_false, Bool.false_eq_true, hl, app_begun h0 h]
theorem spec_mate_neg {P : Pl} {l : Int} {e : Int × Int} {st : Store} (h0 : l < 0) (h : P.rows[(-1 - l).toNat]? = some e) : f_mate_of [plD P, .int l] st = .ok (negN (endedP P (-1 - l) e)) st := by
  have hl : decide (l < 0) = true := by simpa using h0
  have h1 : (0 : Int) ≤ -1 - l := by omega
  simp only [f_mate_of, b_mate_of, runF, List.map_cons, List.map_nil, List.cons_append, List.nil_append, Nat.reduceSub, List.replicate_succ, List.replicate_zero, v_seq, v_if, v_tof, v_op, v_un, v_var, v_c, v_ret, v_nx, v_asg, v_and, v_or, v_not, v_nil, v_cons, v_tup, v_lst, v_frz, v_cb, v_cn, v_cp, v_ife, v_par, v_for, v_tru, List.getElem?_cons_zero, List.getElem?_cons_succ, List.set_cons_zero, List.set_cons_succ, k_var, k_op, k_op2, k_un, k_some, k_tof, k_asgN, k_ret, k_seqR, k_seqN, k_cons, k_cons2, k_cb, k_cn, k_cp, k_frz, k_par, k_par2, k_forV, k_truB, k_truT, k_not, k_orF, k_andT, k_andF, k_orT, k_ifT, k_ifF, k_ifeT, k_ifeF, i_ge, i_sub, i_neg, i_eq, i_ne, in_pr, nin_pr, pl_0, pl_1, pl_2, pr_0, pr_1, R.bind, k_tup, k_lst, List.length_cons, List.length_nil, Nat.reduceAdd, Nat.reduceLeDiff, decide_true, decide_false, Bool.not_true, Bool.not_false, Bool.true_and, Bool.false_and, Bool.and_true, Bool.and_false, Bool.or_true, Bool.or_false, if_true, if_false, Bool.false_eq_true, hl, app_ended h1 h, isN_opt]
  cases endedP P (-1 - l) e <;> rfl
end FK

set_option Elab.async false
set_option linter.all false
set_option maxRecDepth 100000
namespace FK
open DL
def oneL (o : Option Nat) (f : Nat → Int) : List Int := match o with
  | none => []
  | some i => [f i]
/-- the letters that may follow -/
def follL (ag al : Option Nat) : List Int := oneL ag (fun i => -1 - (i : Int)) ++ oneL al (fun i => (i : Int))
def follD (ag al : Option Nat) : D := .tup ((follL ag al).map D.int)
theorem tup_lst {xs : List D} {st : Store} : opTuple st [.lst xs] = some (.tup xs) := rfl
theorem add_lst {xs ys : List D} {st : Store} (h : xs.length + ys.length ≤ 16777216) : opAdd st (.lst xs) (.lst ys) = some (.lst (xs ++ ys)) := by
  show (if sOk (xs.length + ys.length) = true then some (D.lst (xs ++ ys)) else none) = _
  rw [if_pos (sOk_of h)]
theorem spec_foll_pos {P : Pl} {a : Int} {e : Int × Int} {st : Store} (h0 : 0 ≤ a) (h : P.rows[a.toNat]? = some e) : f_followers [plD P, .int a] st = .ok (follD (endedP P a e) (nextP P a e)) st := by
  have hl : decide (a < 0) = false := by simp; omega
  simp only [f_followers, b_followers, runF, List.map_cons, List.map_nil, List.cons_append, List.nil_append, Nat.reduceSub, List.replicate_succ, List.replicate_zero, v_seq, v_if, v_tof, v_op, v_un, v_var, v_c, v_ret, v_nx, v_asg, v_and, v_or, v_not, v_nil, v_cons, v_tup, v_lst, v_frz, v_cb, v_cn, v_cp, v_ife, v_par, v_for, v_tru, List.getElem?_cons_zero, List.getElem?_cons_succ, List.set_cons_zero, List.set_cons_succ, k_var, k_op, k_op2, k_un, k_some, k_tof, k_asgN, k_ret, k_seqR, k_seqN, k_cons, k_cons2, k_cb, k_cn, k_cp, k_frz, k_par, k_par2, k_forV, k_truB, k_truT, k_not, k_orF, k_andT, k_andF, k_orT, k_ifT, k_ifF, k_ifeT, k_ifeF, i_ge, i_sub, i_neg, i_eq, i_ne, in_pr, nin_pr, pl_0, pl_1, pl_2, pr_0, pr_1, R.bind, k_tup, k_lst, List.length_cons, List.length_nil, Nat.reduceAdd, Nat.reduceLeDiff, decide_true, decide_false, Bool.not_true, Bool.not_false, Bool.true_and, Bool.false_and, Bool.and_true, Bool.and_false, Bool.or_true, Bool.or_false, if_true, if_false, Bool.false_eq_true, hl, app_next h0 h, app_ended h0 h, isN_opt]
  cases endedP P a e with
  | none => cases nextP P a e <;> rfl
  | some x => cases nextP P a e <;> rfl
theorem spec_foll_neg {P : Pl} {l : Int} {e : Int × Int} {st : Store} (h0 : l < 0) (h : P.rows[(-1 - l).toNat]? = some e) : f_followers [plD P, .int l] st = .ok (follD (aheadP P (-1 - l) e) (begunP P (-1 - l) e)) st := by
  have hl : decide (l < 0) = true := by simpa using h0
  have h1 : (0 : Int) ≤ -1 - l := by omega
  simp only [f_followers, b_followers, runF, List.map_cons, List.map_nil, List.cons_append, List.nil_append, Nat.reduceSub, List.replicate_succ, List.replicate_zero, v_seq, v_if, v_tof, v_op, v_un, v_var, v_c, v_ret, v_nx, v_asg, v_and, v_or, v_not, v_nil, v_cons, v_tup, v_lst, v_frz, v_cb, v_cn, v_cp, v_ife, v_par, v_for, v_tru, List.getElem?_cons_zero, List.getElem?_cons_succ, List.set_cons_zero, List.set_cons_succ, k_var, k_op, k_op2, k_un, k_some, k_tof, k_asgN, k_ret, k_seqR, k_seqN, k_cons, k_cons2, k_cb, k_cn, k_cp, k_frz, k_par, k_par2, k_forV, k_truB, k_truT, k_not, k_orF, k_andT, k_andF, k_orT, k_ifT, k_ifF, k_ifeT, k_ifeF, i_ge, i_sub, i_neg, i_eq, i_ne, in_pr, nin_pr, pl_0, pl_1, pl_2, pr_0, pr_1, R.bind, k_tup, k_lst, List.length_cons, List.length_nil, Nat.reduceAdd, Nat.reduceLeDiff, decide_true, decide_false, Bool.not_true, Bool.not_false, Bool.true_and, Bool.false_and, Bool.and_true, Bool.and_false, Bool.or_true, Bool.or_false, if_true, if_false, Bool.false_eq_true, hl, app_begun h1 h, app_ahead h1 h, isN_opt]
  cases aheadP P (-1 - l) e with
  | none => cases begunP P (-1 - l) e <;> rfl
  | some x => cases begunP P (-1 - l) e <;> rfl
theorem fits_int : ∀ (xs : List Int) (n : Nat), fits (xs.map D.int) (n + 1) = true
  | [], n => rfl
  | i :: xs, n => by
    show (fit (.int i) (n + 1) && fits (xs.map D.int) (n + 1)) = true
    rw [fits_int xs n]
    rfl
theorem any_int (xs : List Int) (o : Int) : ((xs.map D.int).any fun y => same y (.int o)) = xs.contains o := by
  induction xs with
  | nil => rfl
  | cons x xs ih =>
    rw [List.map_cons, List.any_cons, ih, List.contains_cons]
    congr 1
    show (x == o) = (o == x)
    rw [Bool.eq_iff_iff, beq_iff_eq, beq_iff_eq]
    exact ⟨Eq.symm, Eq.symm⟩
theorem in_int {xs : List Int} {o : Int} {st : Store} : opIn st (.int o) (.tup (xs.map D.int)) = some (.bl (xs.contains o)) := by
  show (if (true && fits (xs.map D.int) 40) = true then some (D.bl ((xs.map D.int).any fun y => same y (.int o))) else none) = _
  rw [fits_int xs 39, any_int]
  rfl
theorem in_intL {xs : List Int} {o : Int} {st : Store} : opIn st (.int o) (.lst (xs.map D.int)) = some (.bl (xs.contains o)) := by
  show (if (true && fits (xs.map D.int) 40) = true then some (D.bl ((xs.map D.int).any fun y => same y (.int o))) else none) = _
  rw [fits_int xs 39, any_int]
  rfl
theorem purs_int : ∀ xs : List Int, purs (xs.map D.int) = true
  | [] => rfl
  | x :: xs => by
    show (true && purs (xs.map D.int)) = true
    rw [purs_int xs]
    rfl
theorem out_tup {xs : List Int} {st : Store} : outD (.tup (xs.map D.int)) st = some (.tup (xs.map D.int)) := by
  show (if purs (xs.map D.int) = true then some (D.tup (xs.map D.int)) else none) = _
  rw [purs_int, if_pos rfl]
theorem app_foll_pos {P : Pl} {a : Int} {e : Int × Int} (h0 : 0 ≤ a) (h : P.rows[a.toNat]? = some e) : appP f_followers [plD P, .int a] = some (.tup ((follL (endedP P a e) (nextP P a e)).map D.int)) := app_ok (purs_pl rfl) (spec_foll_pos h0 h) out_tup
theorem app_foll_neg {P : Pl} {l : Int} {e : Int × Int} (h0 : l < 0) (h : P.rows[(-1 - l).toNat]? = some e) : appP f_followers [plD P, .int l] = some (.tup ((follL (aheadP P (-1 - l) e) (begunP P (-1 - l) e)).map D.int)) := app_ok (purs_pl rfl) (spec_foll_neg h0 h) out_tup
theorem spec_may_pos {P : Pl} {a o : Int} {e : Int × Int} {st : Store} (h0 : 0 ≤ a) (h : P.rows[a.toNat]? = some e) : f_may_follow [plD P, .int a, .int o] st = .ok (.bl ((follL (endedP P a e) (nextP P a e)).contains o)) st := by
  simp only [f_may_follow, b_may_follow, runF, List.map_cons, List.map_nil, List.cons_append, List.nil_append, Nat.reduceSub, List.replicate_succ, List.replicate_zero, v_seq, v_if, v_tof, v_op, v_un, v_var, v_c, v_ret, v_nx, v_asg, v_and, v_or, v_not, v_nil, v_cons, v_tup, v_lst, v_frz, v_cb, v_cn, v_cp, v_ife, v_par, v_for, v_tru, List.getElem?_cons_zero, List.getElem?_cons_succ, List.set_cons_zero, List.set_cons_succ, k_var, k_op, k_op2, k_un, k_some, k_tof, k_asgN, k_ret, k_seqR, k_seqN, k_cons, k_cons2, k_cb, k_cn, k_cp, k_frz, k_par, k_par2, k_forV, k_truB, k_truT, k_not, k_orF, k_andT, k_andF, k_orT, k_ifT, k_ifF, k_ifeT, k_ifeF, i_ge, i_sub, i_neg, i_eq, i_ne, in_pr, nin_pr, pl_0, pl_1, pl_2, pr_0, pr_1, R.bind, k_tup, k_lst, List.length_cons, List.length_nil, Nat.reduceAdd, Nat.reduceLeDiff, decide_true, decide_false, Bool.not_true, Bool.not_false, Bool.true_and, Bool.false_and, Bool.and_true, Bool.and_false, Bool.or_true, Bool.or_false, if_true, if_false, Bool.false_eq_true, app_foll_pos h0 h, in_int]
theorem spec_may_neg {P : Pl} {l o : Int} {e : Int × Int} {st : Store} (h0 : l < 0) (h : P.rows[(-1 - l).toNat]? = some e) : f_may_follow [plD P, .int l, .int o] st = .ok (.bl ((follL (aheadP P (-1 - l) e) (begunP P (-1 - l) e)).contains o)) st := by
  simp only [f_may_follow, b_may_follow, runF, List.map_cons, List.map_nil, List.cons_append, List.nil_append, Nat.reduceSub, List.replicate_succ, List.replicate_zero, v_seq, v_if, v_tof, v_op, v_un, v_var, v_c, v_ret, v_nx, v_asg, v_and, v_or, v_not, v_nil, v_cons, v_tup, v_lst, v_frz, v_cb, v_cn, v_cp, v_ife, v_par, v_for, v_tru, List.getElem?_cons_zero, List.getElem?_cons_succ, List.set_cons_zero, List.set_cons_succ, k_var, k_op, k_op2, k_un, k_some, k_tof, k_asgN, k_ret, k_seqR, k_seqN, k_cons, k_cons2, k_cb, k_cn, k_cp, k_frz, k_par, k_par2, k_forV, k_truB, k_truT, k_not, k_orF, k_andT, k_andF, k_orT, k_ifT, k_ifF, k_ifeT, k_ifeF, i_ge, i_sub, i_neg, i_eq, i_ne, in_pr, nin_pr, pl_0, pl_1, pl_2, pr_0, pr_1, R.bind, k_tup, k_lst, List.length_cons, List.length_nil, Nat.reduceAdd, Nat.reduceLeDiff, decide_true, decide_false, Bool.not_true, Bool.not_false, Bool.true_and, Bool.false_and, Bool.and_true, Bool.and_false, Bool.or_true, Bool.or_false, if_true, if_false, Bool.false_eq_true, app_foll_neg h0 h, in_int]
end FK

set_option Elab.async false
set_option linter.all false
set_option maxRecDepth 100000
namespace FK
open DL
/-- a loop over pairs that returns at the first one as asked -/
theorem find_pairs {ps : List (Int × Int)} {c : Int × Int → Bool} {fv : Int × Int → D} {body : EvT} {i j : Nat} {env : Ent} {st : Store} {Inv : Ent → Prop} (hI : Inv env) (hset : ∀ e x y, Inv e → Inv ((e.set i (some x)).set j (some y)))
    (hb : ∀ (e : Ent) (r : Int × Int), Inv e → r ∈ ps → body ((e.set i (some (.int r.1))).set j (some (.int r.2))) st = (if c r then .ok (.rt (fv r), (e.set i (some (.int r.1))).set j (some (.int r.2))) st else .ok (.nx, (e.set i (some (.int r.1))).set j (some (.int r.2))) st)) :
    (∃ r e', ps.find? c = some r ∧ forVals (tgT [i, j]) body (ps.map prD) env st = .ok (.rt (fv r), e') st) ∨ (∃ e', ps.find? c = none ∧ Inv e' ∧ forVals (tgT [i, j]) body (ps.map prD) env st = .ok (.nx, e') st) := by
  have key := for_find (T := tgT [i, j]) (body := body) (st := st) (Inv := Inv) (pb := fun d => match d with | .tup [.int a, .int b] => c (a, b) | _ => false) (fv := fun d => match d with | .tup [.int a, .int b] => fv (a, b) | _ => .non) (ds := ps.map prD) (env := env) hI fun d hd e he => by
    obtain ⟨r, hm, rfl⟩ := List.mem_map.mp hd
    refine ⟨_, rfl, fun hp => ?_, fun hp => ?_⟩
    · have hp' : c r = true := hp
      have := hb e r he hm
      rw [if_pos hp'] at this
      exact ⟨_, this⟩
    · have hp' : c r = false := hp
      have := hb e r he hm
      rw [hp'] at this
      exact ⟨_, hset e (.int r.1) (.int r.2) he, this⟩
  have ef : (ps.map prD).find? (fun d => match d with | .tup [.int a, .int b] => c (a, b) | _ => false) = (ps.find? c).map prD := by
    rw [List.find?_map]
    rfl
  rcases key with ⟨d, e', h1, h2⟩ | ⟨e', h1, hI', h2⟩
  · rw [ef] at h1
    obtain ⟨q, hq, rfl⟩ := Option.map_eq_some_iff.mp h1
    exact .inl ⟨q, e', hq, h2⟩
  · rw [ef] at h1
    exact .inr ⟨e', Option.map_eq_none_iff.mp h1, hI', h2⟩
def optZ : Option Int → D
  | none => .non
  | some i => .int i
def nilP (P : Pl) (a : Int) : Option Int := (P.pairs.find? fun r => decide (r.1 = a)).map (·.2)
def nilAheadP (P : Pl) (a : Int) : Option Int := (P.pairs.find? fun r => decide (r.2 = a)).map (·.1)
theorem it_pairs {P : Pl} {st : Store} {env : Ent} {f : Ev} (h : f env st = .ok (.tup (P.pairs.map prD)) st) : iSeq f env st = R.ok (Src.vals (P.pairs.map prD)) st := by
  unfold iSeq
  rw [h]
  rfl
theorem spec_nil {P : Pl} {a : Int} {st : Store} : f_nil_of [plD P, .int a] st = .ok (optZ (nilP P a)) st := by
  simp only [f_nil_of, b_nil_of, runF, List.map_cons, List.map_nil, List.cons_append, List.nil_append, Nat.reduceSub, List.replicate_succ, List.replicate_zero, v_seq, v_if, v_tof, v_op, v_un, v_var, v_c, v_ret, v_nx, v_asg, v_and, v_or, v_not, v_nil, v_cons, v_tup, v_lst, v_frz, v_cb, v_cn, v_cp, v_ife, v_par, v_for, v_tru, List.getElem?_cons_zero, List.getElem?_cons_succ, List.set_cons_zero, List.set_cons_succ, k_var, k_op, k_op2, k_un, k_some, k_tof, k_asgN, k_ret, k_seqR, k_seqN, k_cons, k_cons2, k_cb, k_cn, k_cp, k_frz, k_par, k_par2, k_forV, k_truB, k_truT, k_not, k_orF, k_andT, k_andF, k_orT, k_ifT, k_ifF, k_ifeT, k_ifeF, i_ge, i_sub, i_neg, i_eq, i_ne, in_pr, nin_pr, pl_0, pl_1, pl_2, pr_0, pr_1, R.bind, k_tup, k_lst, List.length_cons, List.length_nil, Nat.reduceAdd, Nat.reduceLeDiff, decide_true, decide_false, Bool.not_true, Bool.not_false, Bool.true_and, Bool.false_and, Bool.and_true, Bool.and_false, Bool.or_true, Bool.or_false, if_true, if_false, Bool.false_eq_true, it_pairs (P := P) (f := eOp opIx (eVar 0) (eC (.int 2))) (env := [some (plD P), some (.int a), none, none]) rfl]
  rcases find_pairs (ps := P.pairs) (c := fun r => decide (r.1 = a)) (fv := fun r => .int r.2) (i := 2) (j := 3) (env := [some (plD P), some (.int a), none, none]) (st := st)
    (body := sIf (tOf (eOp opEq (eVar 2) (eVar 1))) (sRet (eVar 3)) sNx)
    (Inv := fun v => ∃ x y, v = [some (plD P), some (.int a), x, y]) ⟨none, none, rfl⟩ (fun v x y ⟨x', y', hv⟩ => by subst hv; exact ⟨_, _, rfl⟩) (fun v r ⟨x', y', hv⟩ hr => by
      subst hv
      by_cases q1 : r.1 = a
      all_goals simp only [runF, List.map_cons, List.map_nil, List.cons_append, List.nil_append, Nat.reduceSub, List.replicate_succ, List.replicate_zero, v_seq, v_if, v_tof, v_op, v_un, v_var, v_c, v_ret, v_nx, v_asg, v_and, v_or, v_not, v_nil, v_cons, v_tup, v_lst, v_frz, v_cb, v_cn, v_cp, v_ife, v_par, v_for, v_tru, List.getElem?_cons_zero, List.getElem?_cons_succ, List.set_cons_zero, List.set_cons_succ, k_var, k_op, k_op2, k_un, k_some, k_tof, k_asgN, k_ret, k_seqR, k_seqN, k_cons, k_cons2, k_cb, k_cn, k_cp, k_frz, k_par, k_par2, k_forV, k_truB, k_truT, k_not, k_orF, k_andT, k_andF, k_orT, k_ifT, k_ifF, k_ifeT, k_ifeF, i_ge, i_sub, i_neg, i_eq, i_ne, in_pr, nin_pr, pl_0, pl_1, pl_2, pr_0, pr_1, R.bind, k_tup, k_lst, List.length_cons, List.length_nil, Nat.reduceAdd, Nat.reduceLeDiff, decide_true, decide_false, Bool.not_true, Bool.not_false, Bool.true_and, Bool.false_and, Bool.and_true, Bool.and_false, Bool.or_true, Bool.or_false, if_true, if_false, Bool.false_eq_true, q1]) with ⟨k, e', h1, h2⟩ | ⟨e', h1, hI, h2⟩
  · simp only [runF, List.map_cons, List.map_nil, List.cons_append, List.nil_append, Nat.reduceSub, List.replicate_succ, List.replicate_zero, v_seq, v_if, v_tof, v_op, v_un, v_var, v_c, v_ret, v_nx, v_asg, v_and, v_or, v_not, v_nil, v_cons, v_tup, v_lst, v_frz, v_cb, v_cn, v_cp, v_ife, v_par, v_for, v_tru, List.getElem?_cons_zero, List.getElem?_cons_succ, List.set_cons_zero, List.set_cons_succ, k_var, k_op, k_op2, k_un, k_some, k_tof, k_asgN, k_ret, k_seqR, k_seqN, k_cons, k_cons2, k_cb, k_cn, k_cp, k_frz, k_par, k_par2, k_forV, k_truB, k_truT, k_not, k_orF, k_andT, k_andF, k_orT, k_ifT, k_ifF, k_ifeT, k_ifeF, i_ge, i_sub, i_neg, i_eq, i_ne, in_pr, nin_pr, pl_0, pl_1, pl_2, pr_0, pr_1, R.bind, k_tup, k_lst, List.length_cons, List.length_nil, Nat.reduceAdd, Nat.reduceLeDiff, decide_true, decide_false, Bool.not_true, Bool.not_false, Bool.true_and, Bool.false_and, Bool.and_true, Bool.and_false, Bool.or_true, Bool.or_false, if_true, if_false, Bool.false_eq_true, h2, nilP, h1, optZ, Option.map_some]
  · simp only [runF, List.map_cons, List.map_nil, List.cons_append, List.nil_append, Nat.reduceSub, List.replicate_succ, List.replicate_zero, v_seq, v_if, v_tof, v_op, v_un, v_var, v_c, v_ret, v_nx, v_asg, v_and, v_or, v_not, v_nil, v_cons, v_tup, v_lst, v_frz, v_cb, v_cn, v_cp, v_ife, v_par, v_for, v_tru, List.getElem?_cons_zero, List.getElem?_cons_succ, List.set_cons_zero, List.set_cons_succ, k_var, k_op, k_op2, k_un, k_some, k_tof, k_asgN, k_ret, k_seqR, k_seqN, k_cons, k_cons2, k_cb, k_cn, k_cp, k_frz, k_par, k_par2, k_forV, k_truB, k_truT, k_not, k_orF, k_andT, k_andF, k_orT, k_ifT, k_ifF, k_ifeT, k_ifeF, i_ge, i_sub, i_neg, i_eq, i_ne, in_pr, nin_pr, pl_0, pl_1, pl_2, pr_0, pr_1, R.bind, k_tup, k_lst, List.length_cons, List.length_nil, Nat.reduceAdd, Nat.reduceLeDiff, decide_true, decide_false, Bool.not_true, Bool.not_false, Bool.true_and, Bool.false_and, Bool.and_true, Bool.and_false, Bool.or_true, Bool.or_false, if_true, if_false, Bool.false_eq_true, h2, nilP, h1, optZ, Option.map_none]
theorem spec_nilAhead {P : Pl} {a : Int} {st : Store} : f_nil_ahead_of [plD P, .int a] st = .ok (optZ (nilAheadP P a)) st := by
  simp only [f_nil_ahead_of, b_nil_ahead_of, runF, List.map_cons, List.map_nil, List.cons_append, List.nil_append, Nat.reduceSub, List.replicate_succ, List.replicate_zero, v_seq, v_if, v_tof, v_op, v_un, v_var, v_c, v_ret, v_nx, v_asg, v_and, v_or, v_not, v_nil, v_cons, v_tup, v_lst, v_frz, v_cb, v_cn, v_cp, v_ife, v_par, v_for, v_tru, List.getElem?_cons_zero, List.getElem?_cons_succ, List.set_cons_zero, List.set_cons_succ, k_var, k_op, k_op2, k_un, k_some, k_tof, k_asgN, k_ret, k_seqR, k_seqN, k_cons, k_cons2, k_cb, k_cn, k_cp, k_frz, k_par, k_par2, k_forV, k_truB, k_truT, k_not, k_orF, k_andT, k_andF, k_orT, k_ifT, k_ifF, k_ifeT, k_ifeF, i_ge, i_sub, i_neg, i_eq, i_ne, in_pr, nin_pr, pl_0, pl_1, pl_2, pr_0, pr_1, R.bind, k_tup, k_lst, List.length_cons, List.length_nil, Nat.reduceAdd, Nat.reduceLeDiff, decide_true, decide_false, Bool.not_true, Bool.not_false, Bool.true_and, Bool.false_and, Bool.and_true, Bool.and_false, Bool.or_true, Bool.or_false, if_true, if_false, Bool.false_eq_true, it_pairs (P := P) (f := eOp opIx (eVar 0) (eC (.int 2))) (env := [some (plD P), some (.int a), none, none]) rfl]
  rcases find_pairs (ps := P.pairs) (c := fun r => decide (r.2 = a)) (fv := fun r => .int r.1) (i := 2) (j := 3) (env := [some (plD P), some (.int a), none, none]) (st := st)
    (body := sIf (tOf (eOp opEq (eVar 3) (eVar 1))) (sRet (eVar 2)) sNx)
    (Inv := fun v => ∃ x y, v = [some (plD P), some (.int a), x, y]) ⟨none, none, rfl⟩ (fun v x y ⟨x', y', hv⟩ => by subst hv; exact ⟨_, _, rfl⟩) (fun v r ⟨x', y', hv⟩ hr => by
      subst hv
      by_cases q1 : r.2 = a
      all_goals simp only [runF, List.map_cons, List.map_nil, List.cons_append, List.nil_append, Nat.reduceSub, List.replicate_succ, List.replicate_zero, v_seq, v_if, v_tof, v_op, v_un, v_var, v_c, v_ret, v_nx, v_asg, v_and, v_or, v_not, v_nil, v_cons, v_tup, v_lst, v_frz, v_cb, v_cn, v_cp, v_ife, v_par, v_for, v_tru, List.getElem?_cons_zero, List.getElem?_cons_succ, List.set_cons_zero, List.set_cons_succ, k_var, k_op, k_op2, k_un, k_some, k_tof, k_asgN, k_ret, k_seqR, k_seqN, k_cons, k_cons2, k_cb, k_cn, k_cp, k_frz, k_par, k_par2, k_forV, k_truB, k_truT, k_not, k_orF, k_andT, k_andF, k_orT, k_ifT, k_ifF, k_ifeT, k_ifeF, i_ge, i_sub, i_neg, i_eq, i_ne, in_pr, nin_pr, pl_0, pl_1, pl_2, pr_0, pr_1, R.bind, k_tup, k_lst, List.length_cons, List.length_nil, Nat.reduceAdd, Nat.reduceLeDiff, decide_true, decide_false, Bool.not_true, Bool.not_false, Bool.true_and, Bool.false_and, Bool.and_true, Bool.and_false, Bool.or_true, Bool.or_false, if_true, if_false, Bool.false_eq_true, q1]) with ⟨k, e', h1, h2⟩ | ⟨e', h1, hI, h2⟩
  · simp only [runF, List.map_cons, List.map_nil, List.cons_append, List.nil_append, Nat.reduceSub, List.replicate_succ, List.replicate_zero, v_seq, v_if, v_tof, v_op, v_un, v_var, v_c, v_ret, v_nx, v_asg, v_and, v_or, v_not, v_nil, v_cons, v_tup, v_lst, v_frz, v_cb, v_cn, v_cp, v_ife, v_par, v_for, v_tru, List.getElem?_cons_zero, List.getElem?_cons_succ, List.set_cons_zero, List.set_cons_succ, k_var, k_op, k_op2, k_un, k_some, k_tof, k_asgN, k_ret, k_seqR, k_seqN, k_cons, k_cons2, k_cb, k_cn, k_cp, k_frz, k_par, k_par2, k_forV, k_truB, k_truT, k_not, k_orF, k_andT, k_andF, k_orT, k_ifT, k_ifF, k_ifeT, k_ifeF, i_ge, i_sub, i_neg, i_eq, i_ne, in_pr, nin_pr, pl_0, pl_1, pl_2, pr_0, pr_1, R.bind, k_tup, k_lst, List.length_cons, List.length_nil, Nat.reduceAdd, Nat.reduceLeDiff, decide_true, decide_false, Bool.not_true, Bool.not_false, Bool.true_and, Bool.false_and, Bool.and_true, Bool.and_false, Bool.or_true, Bool.or_false, if_true, if_false, Bool.false_eq_true, h2, nilAheadP, h1, optZ, Option.map_some]
  · simp only [runF, List.map_cons, List.map_nil, List.cons_append, List.nil_append, Nat.reduceSub, List.replicate_succ, List.replicate_zero, v_seq, v_if, v_tof, v_op, v_un, v_var, v_c, v_ret, v_nx, v_asg, v_and, v_or, v_not, v_nil, v_cons, v_tup, v_lst, v_frz, v_cb, v_cn, v_cp, v_ife, v_par, v_for, v_tru, List.getElem?_cons_zero, List.getElem?_cons_succ, List.set_cons_zero, List.set_cons_succ, k_var, k_op, k_op2, k_un, k_some, k_tof, k_asgN, k_ret, k_seqR, k_seqN, k_cons, k_cons2, k_cb, k_cn, k_cp, k_frz, k_par, k_par2, k_forV, k_truB, k_truT, k_not, k_orF, k_andT, k_andF, k_orT, k_ifT, k_ifF, k_ifeT, k_ifeF, i_ge, i_sub, i_neg, i_eq, i_ne, in_pr, nin_pr, pl_0, pl_1, pl_2, pr_0, pr_1, R.bind, k_tup, k_lst, List.length_cons, List.length_nil, Nat.reduceAdd, Nat.reduceLeDiff, decide_true, decide_false, Bool.not_true, Bool.not_false, Bool.true_and, Bool.false_and, Bool.and_true, Bool.and_false, Bool.or_true, Bool.or_false, if_true, if_false, Bool.false_eq_true, h2, nilAheadP, h1, optZ, Option.map_none]
end FK

set_option Elab.async false
set_option linter.all false
set_option maxRecDepth 100000
namespace FK
open DL
theorem rgD_L (a b : Int) : rgD a b = (rgL a b).map D.int := by
  unfold rgL
  rw [List.map_map]
  rfl
/-- a comprehension over ints -/
theorem lc_ints {it : EvS} {i : Nat} {p : EvB} {f : Ev} {vs : List Nat} {env : Ent} {st : Store} {xs : List Int} {c : Int → Bool} {fv : Int → D} (hi : it env st = .ok (.vals (xs.map D.int)) st) (hz : xs.length ≤ 16777216)
    (h : ∀ x ∈ xs, p ((wipeE env vs).set i (some (.int x))) st = .ok (c x) st ∧ (c x = true → f ((wipeE env vs).set i (some (.int x))) st = .ok (fv x) st)) :
    nLc it (tgN i) p f vs env st = .ok ((xs.filter c).map fv) st := by
  have key := lc_ok (it := it) (T := tgN i) (p := p) (f := f) (vs := vs) (env := env) (st := st) (ds := xs.map D.int) (pb := fun d => match d with | .int x => c x | _ => false) (fv := fun d => match d with | .int x => fv x | _ => .non) hi (by rw [List.length_map]; exact hz) fun d hd => by
    obtain ⟨x, hx, rfl⟩ := List.mem_map.mp hd
    exact ⟨_, rfl, (h x hx).1, (h x hx).2⟩
  rw [key, List.filter_map, List.map_map]
  rfl
end FK

set_option Elab.async false
set_option linter.all false
set_option maxRecDepth 100000
namespace FK
open DL
theorem rgOk_small {a b : Int} (h1 : -8388608 ≤ a) (h2 : a ≤ 8388608) (h3 : -8388608 ≤ b) (h4 : b ≤ 8388608) : rgOk a b = true := by
  unfold rgOk
  simp
  omega
theorem len_tup {xs : List (Int × Int)} {st : Store} : opLen st [.tup (xs.map prD)] = some (.int (xs.length : Nat)) := by
  show some (D.int ((xs.map prD).length : Nat)) = _
  rw [List.length_map]
theorem it_rngD {a b : Int} {f : Ev} {env : Ent} {st : Store} (h : f env st = .ok (.rng a b) st) (ok : rgOk a b = true) : iRngD f env st = R.ok (Src.vals ((rgL a b).map D.int)) st := by
  unfold iRngD
  rw [h]
  show (if rgOk a b = true then R.ok (Src.vals (rgD a b)) st else .no) = _
  rw [if_pos ok, rgD_L]
theorem row_pos {P : Pl} {a : Int} (h : inA P a) : P.rows[a.toNat]? = some (atR P.rows a) := atR_some h.1 h.2
theorem spec_ends {P : Pl} {l : Int} {st : Store} (h : okL P l) : f_ends_of [plD P, .int l] st = .ok (prD (lend P l)) st := by
  unfold lend okL at *
  by_cases h0 : l < 0
  · rw [if_pos h0]
    exact ends_neg h0 (row_pos ⟨by omega, by omega⟩)
  · rw [if_neg h0]
    exact ends_pos (by omega) (row_pos ⟨by omega, by omega⟩)
theorem app_ends {P : Pl} {l : Int} (h : okL P l) : appP f_ends_of [plD P, .int l] = some (prD (lend P l)) := app_ok (purs_pl rfl) (spec_ends h) rfl
/-! the finds on ints -/
theorem firstP_find {P : Pl} {c : Int × Int → Nat → Bool} {p : Int → Bool} (h : ∀ i : Nat, p i = c (atR P.rows i) i) : optN (firstP P c) = optZ ((arrI P).find? p) := by
  have e1 : P.rows.zipIdx = (List.range P.rows.length).map fun (i : Nat) => (atR P.rows (i : Int), i) := by
    refine List.ext_getElem? fun i => ?_
    rw [List.getElem?_zipIdx, List.getElem?_map]
    by_cases hi : i < P.rows.length
    · rw [List.getElem?_range hi, List.getElem?_eq_getElem hi]
      show some _ = some (atR P.rows i, i)
      rw [atR_of (List.getElem?_eq_getElem hi), Nat.zero_add]
    · rw [List.getElem?_eq_none (by omega), List.getElem?_eq_none (by rw [List.length_range]; omega)]
      rfl
  have e2 : arrI P = (List.range P.rows.length).map fun (i : Nat) => (i : Int) := by
    unfold arrI rgL
    have : ((P.rows.length : Int) - 0).toNat = P.rows.length := by omega
    rw [this]
    refine List.map_congr_left fun i _ => ?_
    omega
  unfold firstP
  rw [e1, e2, List.find?_map, List.find?_map]
  have e3 : ((fun q : (Int × Int) × Nat => c q.1 q.2) ∘ fun (i : Nat) => (atR P.rows (i : Int), i)) = p ∘ fun (i : Nat) => (i : Int) := by
    funext i
    exact (h i).symm
  rw [e3]
  cases (List.range P.rows.length).find? (p ∘ fun (i : Nat) => (i : Int)) <;> rfl
section
variable {P : Pl} {a : Int}
theorem nextP_I : optN (nextP P a (atR P.rows a)) = optZ (nextI P a) := firstP_find fun _ => rfl
theorem aheadP_I : optN (aheadP P a (atR P.rows a)) = optZ (aheadI P a) := firstP_find fun _ => rfl
theorem begunP_I : optN (begunP P a (atR P.rows a)) = optZ (begunI P a) := firstP_find fun _ => rfl
theorem endedP_I : optN (endedP P a (atR P.rows a)) = optZ (endedI P a) := firstP_find fun _ => rfl
theorem ap_next (h : inA P a) : appP f_next_of [plD P, .int a] = some (optZ (nextI P a)) := by rw [app_next h.1 (row_pos h), nextP_I]
theorem ap_ahead (h : inA P a) : appP f_ahead_of [plD P, .int a] = some (optZ (aheadI P a)) := by rw [app_ahead h.1 (row_pos h), aheadP_I]
theorem nilP_I : nilP P a = nilI P a := rfl
theorem out_optZ {o : Option Int} {st : Store} : outD (optZ o) st = some (optZ o) := by cases o <;> rfl
theorem ap_nil : appP f_nil_of [plD P, .int a] = some (optZ (nilI P a)) := app_ok (purs_pl rfl) spec_nil out_optZ
theorem ap_nilAhead : appP f_nil_ahead_of [plD P, .int a] = some (optZ (nilAheadI P a)) := app_ok (purs_pl rfl) spec_nilAhead out_optZ
def negZ : Option Int → D
  | none => .non
  | some i => .int (-1 - i)
theorem optN_Z {x : Option Nat} {y : Option Int} (h : optN x = optZ y) : y = x.map fun (i : Nat) => (i : Int) := by
  cases x <;> cases y <;> simp [optN, optZ] at h <;> simp [h]
theorem ap_mate_pos (h : inA P a) : appP f_mate_of [plD P, .int a] = some (optZ (begunI P a)) := by
  rw [app_ok (purs_pl rfl) (spec_mate_pos (st := []) h.1 (row_pos h)) (out_optN (st := [])), begunP_I]
theorem ap_mate_neg (h : inA P a) : appP f_mate_of [plD P, .int (-1 - a)] = some (negZ (endedI P a)) := by
  have e : -1 - (-1 - a) = a := by omega
  have h1 := h.1
  have s := spec_mate_neg (P := P) (l := -1 - a) (e := atR P.rows a) (st := []) (by omega) (by rw [e]; exact row_pos h)
  rw [e] at s
  have o : negN (endedP P a (atR P.rows a)) = negZ (endedI P a) := by
    rw [optN_Z endedP_I]
    cases endedP P a (atR P.rows a) <;> rfl
  rw [o] at s
  exact app_ok (st := []) (purs_pl rfl) s (by cases endedI P a <;> rfl)
theorem follL_I {x y : Option Nat} {u v : Option Int} (h1 : optN x = optZ u) (h2 : optN y = optZ v) : follL x y = u.toList.map (fun i => -1 - i) ++ v.toList := by
  rw [optN_Z h1, optN_Z h2]
  cases x <;> cases y <;> rfl
theorem ap_foll {l : Int} (h : okL P l) : appP f_followers [plD P, .int l] = some (.tup ((follI P l).map D.int)) := by
  unfold okL at h
  unfold follI
  by_cases h0 : l < 0
  · rw [if_pos h0, app_foll_neg h0 (row_pos ⟨by omega, by omega⟩), follL_I aheadP_I begunP_I]
  · rw [if_neg h0, app_foll_pos (by omega) (row_pos ⟨by omega, by omega⟩), follL_I endedP_I nextP_I]
theorem ap_may {l o : Int} (h : okL P l) : appP f_may_follow [plD P, .int l, .int o] = some (.bl ((follI P l).contains o)) := by
  refine app_ok (st := []) (purs_pl rfl) ?_ rfl
  simp only [f_may_follow, b_may_follow, runF, List.map_cons, List.map_nil, List.cons_append, List.nil_append, Nat.reduceSub, List.replicate_succ, List.replicate_zero, v_seq, v_if, v_tof, v_op, v_un, v_var, v_c, v_ret, v_nx, v_asg, v_and, v_or, v_not, v_nil, v_cons, v_tup, v_lst, v_frz, v_cb, v_cn, v_cp, v_ife, v_par, v_for, v_tru, List.getElem?_cons_zero, List.getElem?_cons_succ, List.set_cons_zero, List.set_cons_succ, k_var, k_op, k_op2, k_un, k_some, k_tof, k_asgN, k_ret, k_seqR, k_seqN, k_cons, k_cons2, k_cb, k_cn, k_cp, k_frz, k_par, k_par2, k_forV, k_truB, k_truT, k_not, k_orF, k_andT, k_andF, k_orT, k_ifT, k_ifF, k_ifeT, k_ifeF, i_ge, i_sub, i_neg, i_eq, i_ne, in_pr, nin_pr, pl_0, pl_1, pl_2, pr_0, pr_1, R.bind, k_tup, k_lst, List.length_cons, List.length_nil, Nat.reduceAdd, Nat.reduceLeDiff, decide_true, decide_false, Bool.not_true, Bool.not_false, Bool.true_and, Bool.false_and, Bool.and_true, Bool.and_false, Bool.or_true, Bool.or_false, if_true, if_false, Bool.false_eq_true, ap_foll h, in_int]
end
end FK

set_option Elab.async false
set_option linter.all false
set_option maxRecDepth 100000
namespace FK
open DL
theorem v_yes {env : Ent} {st : Store} : tYesD env st = .ok true st := rfl
theorem i_lt {st : Store} {i j : Int} : opLt st (.int i) (.int j) = some (.bl (decide (i < j))) := rfl
theorem i_gt {st : Store} {i j : Int} : opGt st (.int i) (.int j) = some (.bl (decide (j < i))) := rfl
theorem i_add {st : Store} {i j : Int} : opAdd st (.int i) (.int j) = some (.int (i + j)) := rfl
theorem k_asgT3 {a b c : D} {i j k : Nat} {env : Ent} {st : Store} : kAsg (.ok (.tup [a, b, c]) st) (tgT [i, j, k]) env = .ok (.nx, ((env.set i (some a)).set j (some b)).set k (some c)) st := rfl
theorem k_asgP {p : Int × Int} {i j : Nat} {env : Ent} {st : Store} : kAsg (.ok (prD p) st) (tgT [i, j]) env = .ok (.nx, (env.set i (some (.int p.1))).set j (some (.int p.2))) st := rfl
theorem it_rg1 {b : Int} {f : Ev} {env : Ent} {st : Store} (h : f env st = .ok (.int b) st) (ok : rgOk 0 b = true) : iRg1 f env st = R.ok (Src.vals ((rgL 0 b).map D.int)) st := by
  unfold iRg1
  rw [h]
  show (if rgOk 0 b = true then R.ok (Src.vals (rgD 0 b)) st else .no) = _
  rw [if_pos ok, rgD_L]
theorem it_rg2 {a b : Int} {f g : Ev} {env : Ent} {st : Store} (h : f env st = .ok (.int a) st) (h2 : g env st = .ok (.int b) st) (ok : rgOk a b = true) : iRg2 f g env st = R.ok (Src.vals ((rgL a b).map D.int)) st := by
  unfold iRg2
  rw [h]
  show R.bind (g env st) _ = _
  rw [h2]
  show (if rgOk a b = true then R.ok (Src.vals (rgD a b)) st else .no) = _
  rw [if_pos ok, rgD_L]
theorem it_tup {f : Ev} {env : Ent} {st : Store} {ds : List D} (h : f env st = .ok (.tup ds) st) : iSeq f env st = R.ok (Src.vals ds) st := by
  unfold iSeq
  rw [h]
  rfl
theorem it_lst {f : Ev} {env : Ent} {st : Store} {ds : List D} (h : f env st = .ok (.lst ds) st) : iSeq f env st = R.ok (Src.vals ds) st := by
  unfold iSeq
  rw [h]
  rfl
/-- comprehensions over pairs -/
theorem lc_prs {it : EvS} {i : Nat} {p : EvB} {f : Ev} {vs : List Nat} {env : Ent} {st : Store} {ps : List (Int × Int)} {c : Int × Int → Bool} {fv : Int × Int → D} (hi : it env st = .ok (.vals (ps.map prD)) st) (hz : ps.length ≤ 16777216)
    (h : ∀ q ∈ ps, p ((wipeE env vs).set i (some (prD q))) st = .ok (c q) st ∧ (c q = true → f ((wipeE env vs).set i (some (prD q))) st = .ok (fv q) st)) :
    nLc it (tgN i) p f vs env st = .ok ((ps.filter c).map fv) st := by
  have key := lc_ok (it := it) (T := tgN i) (p := p) (f := f) (vs := vs) (env := env) (st := st) (ds := ps.map prD) (pb := fun d => match d with | .tup [.int a, .int b] => c (a, b) | _ => false) (fv := fun d => match d with | .tup [.int a, .int b] => fv (a, b) | _ => .non) hi (by rw [List.length_map]; exact hz) fun d hd => by
    obtain ⟨x, hx, rfl⟩ := List.mem_map.mp hd
    exact ⟨_, rfl, (h x hx).1, (h x hx).2⟩
  rw [key, List.filter_map, List.map_map]
  rfl
theorem lc_prs2 {it : EvS} {i j : Nat} {p : EvB} {f : Ev} {vs : List Nat} {env : Ent} {st : Store} {ps : List (Int × Int)} {c : Int × Int → Bool} {fv : Int × Int → D} (hi : it env st = .ok (.vals (ps.map prD)) st) (hz : ps.length ≤ 16777216)
    (h : ∀ q ∈ ps, p (((wipeE env vs).set i (some (.int q.1))).set j (some (.int q.2))) st = .ok (c q) st ∧ (c q = true → f (((wipeE env vs).set i (some (.int q.1))).set j (some (.int q.2))) st = .ok (fv q) st)) :
    nLc it (tgT [i, j]) p f vs env st = .ok ((ps.filter c).map fv) st := by
  have key := lc_ok (it := it) (T := tgT [i, j]) (p := p) (f := f) (vs := vs) (env := env) (st := st) (ds := ps.map prD) (pb := fun d => match d with | .tup [.int a, .int b] => c (a, b) | _ => false) (fv := fun d => match d with | .tup [.int a, .int b] => fv (a, b) | _ => .non) hi (by rw [List.length_map]; exact hz) fun d hd => by
    obtain ⟨x, hx, rfl⟩ := List.mem_map.mp hd
    exact ⟨_, rfl, (h x hx).1, (h x hx).2⟩
  rw [key, List.filter_map, List.map_map]
  rfl
/-- a plan that is small enough for the ranges -/
structure Small (P : Pl) : Prop where
  rl : P.rows.length ≤ 1000
  pl : P.pairs.length ≤ 1000
  n0 : 0 ≤ P.n
  n1 : P.n ≤ 1000
theorem Gentle.small {P : Pl} (h : Gentle P) : Small P := ⟨by have := h.rws.len; omega, h.plen, by have := h.n1; omega, by have := h.n2; omega⟩
section
variable {P : Pl} (s : Small P)
include s
theorem rg_rows : rgOk 0 (P.rows.length : Int) = true := rgOk_small (by omega) (by omega) (by omega) (by have := s.rl; omega)
theorem rg_lets : rgOk (-(P.rows.length : Int)) (P.rows.length : Int) = true := rgOk_small (by have := s.rl; omega) (by omega) (by omega) (by have := s.rl; omega)
theorem len_lets : (letrI P).length ≤ 16777216 := by
  unfold letrI
  rw [len_rgL]
  have := s.rl
  omega
theorem len_arr : (arrI P).length ≤ 16777216 := by
  unfold arrI
  rw [len_rgL]
  have := s.rl
  omega
theorem len_prs : P.pairs.length ≤ 16777216 := by have := s.pl; omega
theorem len_rws : P.rows.length ≤ 16777216 := by have := s.rl; omega
def beginsI (P : Pl) (p : Int) : List Int := (letrI P).filter fun l => decide ((lend P l).1 = p)
theorem ap_from {p : Int} : appP f_from_point [plD P, .int p] = some (.tup ((beginsI P p).map D.int)) := by
  refine app_ok (st := []) (purs_pl rfl) ?_ out_tup
  have r : ∀ st : Store, opRng st [.int (-(P.rows.length : Int)), .int (P.rows.length : Int)] = some (.rng (-(P.rows.length : Int)) (P.rows.length : Int)) := fun st => if_pos (rg_lets s)
  simp only [f_from_point, b_from_point, runF, List.map_cons, List.map_nil, List.cons_append, List.nil_append, Nat.reduceSub, List.replicate_succ, List.replicate_zero, v_seq, v_if, v_tof, v_op, v_un, v_var, v_c, v_ret, v_nx, v_asg, v_and, v_or, v_not, v_nil, v_cons, v_tup, v_lst, v_frz, v_cb, v_cn, v_cp, v_ife, v_par, v_for, v_tru, List.getElem?_cons_zero, List.getElem?_cons_succ, List.set_cons_zero, List.set_cons_succ, k_var, k_op, k_op2, k_un, k_some, k_tof, k_asgN, k_ret, k_seqR, k_seqN, k_cons, k_cons2, k_cb, k_cn, k_cp, k_frz, k_par, k_par2, k_forV, k_truB, k_truT, k_not, k_orF, k_andT, k_andF, k_orT, k_ifT, k_ifF, k_ifeT, k_ifeF, i_ge, i_sub, i_neg, i_eq, i_ne, in_pr, nin_pr, pl_0, pl_1, pl_2, pr_0, pr_1, R.bind, k_tup, k_lst, List.length_cons, List.length_nil, Nat.reduceAdd, Nat.reduceLeDiff, decide_true, decide_false, Bool.not_true, Bool.not_false, Bool.true_and, Bool.false_and, Bool.and_true, Bool.and_false, Bool.or_true, Bool.or_false, if_true, if_false, Bool.false_eq_true, wipeE, tup_lst, v_yes, len_tup, i_lt, i_gt, i_add, k_asgT3, k_asgP, Bool.false_or, Bool.true_or, r]
  rw [lc_ints (xs := letrI P) (c := fun l => decide ((lend P l).1 = p)) (fv := D.int)]
  · simp only [runF, List.map_cons, List.map_nil, List.cons_append, List.nil_append, Nat.reduceSub, List.replicate_succ, List.replicate_zero, v_seq, v_if, v_tof, v_op, v_un, v_var, v_c, v_ret, v_nx, v_asg, v_and, v_or, v_not, v_nil, v_cons, v_tup, v_lst, v_frz, v_cb, v_cn, v_cp, v_ife, v_par, v_for, v_tru, List.getElem?_cons_zero, List.getElem?_cons_succ, List.set_cons_zero, List.set_cons_succ, k_var, k_op, k_op2, k_un, k_some, k_tof, k_asgN, k_ret, k_seqR, k_seqN, k_cons, k_cons2, k_cb, k_cn, k_cp, k_frz, k_par, k_par2, k_forV, k_truB, k_truT, k_not, k_orF, k_andT, k_andF, k_orT, k_ifT, k_ifF, k_ifeT, k_ifeF, i_ge, i_sub, i_neg, i_eq, i_ne, in_pr, nin_pr, pl_0, pl_1, pl_2, pr_0, pr_1, R.bind, k_tup, k_lst, List.length_cons, List.length_nil, Nat.reduceAdd, Nat.reduceLeDiff, decide_true, decide_false, Bool.not_true, Bool.not_false, Bool.true_and, Bool.false_and, Bool.and_true, Bool.and_false, Bool.or_true, Bool.or_false, if_true, if_false, Bool.false_eq_true, wipeE, tup_lst, v_yes, len_tup, i_lt, i_gt, i_add, k_asgT3, k_asgP, Bool.false_or, Bool.true_or]
    rfl
  · exact it_rngD rfl (rg_lets s)
  · exact len_lets s
  · intro x hx
    have ho := mem_let.mp hx
    simp only [runF, List.map_cons, List.map_nil, List.cons_append, List.nil_append, Nat.reduceSub, List.replicate_succ, List.replicate_zero, v_seq, v_if, v_tof, v_op, v_un, v_var, v_c, v_ret, v_nx, v_asg, v_and, v_or, v_not, v_nil, v_cons, v_tup, v_lst, v_frz, v_cb, v_cn, v_cp, v_ife, v_par, v_for, v_tru, List.getElem?_cons_zero, List.getElem?_cons_succ, List.set_cons_zero, List.set_cons_succ, k_var, k_op, k_op2, k_un, k_some, k_tof, k_asgN, k_ret, k_seqR, k_seqN, k_cons, k_cons2, k_cb, k_cn, k_cp, k_frz, k_par, k_par2, k_forV, k_truB, k_truT, k_not, k_orF, k_andT, k_andF, k_orT, k_ifT, k_ifF, k_ifeT, k_ifeF, i_ge, i_sub, i_neg, i_eq, i_ne, in_pr, nin_pr, pl_0, pl_1, pl_2, pr_0, pr_1, R.bind, k_tup, k_lst, List.length_cons, List.length_nil, Nat.reduceAdd, Nat.reduceLeDiff, decide_true, decide_false, Bool.not_true, Bool.not_false, Bool.true_and, Bool.false_and, Bool.and_true, Bool.and_false, Bool.or_true, Bool.or_false, if_true, if_false, Bool.false_eq_true, wipeE, tup_lst, v_yes, len_tup, i_lt, i_gt, i_add, k_asgT3, k_asgP, Bool.false_or, Bool.true_or, app_ends ho]
    exact ⟨trivial, fun _ => trivial⟩
end
end FK

set_option Elab.async false
set_option linter.all false
set_option maxRecDepth 100000
namespace FK
open DL
def ltbP (p q : Int × Int) : Bool := if decide (p.1 = q.1) then (if decide (p.2 = q.2) then false else decide (p.2 < q.2)) else decide (p.1 < q.1)
def lebP (p q : Int × Int) : Bool := !ltbP q p
theorem ltb_iff {p q : Int × Int} : ltbP p q = true ↔ ltP p q := by
  unfold ltbP ltP
  by_cases h1 : p.1 = q.1 <;> by_cases h2 : p.2 = q.2 <;> simp [h1, h2]
theorem leb_iff {p q : Int × Int} : lebP p q = true ↔ ¬ ltP q p := by
  unfold lebP
  rw [Bool.not_eq_true', ← Bool.not_eq_true, ltb_iff]
theorem tot_leb : PySem.W.TotalLe lebP := by
  constructor
  · intro a b c h1 h2
    rw [leb_iff] at *
    unfold ltP at *
    omega
  · intro a b
    rw [leb_iff, leb_iff]
    unfold ltP
    omega
def sortP (ps : List (Int × Int)) : List (Int × Int) := isort lebP ps
theorem sort_perm (ps : List (Int × Int)) : (sortP ps).Perm ps := by
  unfold sortP
  rw [isort_eq tot_leb]
  exact List.mergeSort_perm ..
theorem sort_srt (ps : List (Int × Int)) : (sortP ps).Pairwise fun p q => ¬ ltP q p := (isort_sorted tot_leb).imp fun h => leb_iff.mp h
theorem dle_pr (p q : Int × Int) : dle (prD p) (prD q) = lebP p q := rfl
theorem ins_pr (x : Int × Int) : ∀ ps : List (Int × Int), ins dle (prD x) (ps.map prD) = (ins lebP x ps).map prD
  | [] => rfl
  | p :: ps => by
    show (if dle (prD x) (prD p) = true then prD x :: prD p :: ps.map prD else prD p :: ins dle (prD x) (ps.map prD)) = (if lebP x p = true then x :: p :: ps else p :: ins lebP x ps).map prD
    rw [dle_pr, ins_pr x ps]
    split <;> rfl
theorem isort_pr : ∀ ps : List (Int × Int), isort dle (ps.map prD) = (sortP ps).map prD
  | [] => rfl
  | p :: ps => by
    show ins dle (prD p) (isort dle (ps.map prD)) = (ins lebP p (isort lebP ps)).map prD
    rw [isort_pr ps, ins_pr]
    rfl
theorem sortOk_pr (ps : List (Int × Int)) : sortOk (ps.map prD) = true := by
  unfold sortOk
  rw [Bool.and_eq_true]
  refine ⟨List.all_eq_true.mpr fun x hx => ?_, ?_⟩
  · obtain ⟨p, hp, rfl⟩ := List.mem_map.mp hx
    rw [Bool.and_eq_true]
    refine ⟨rfl, List.all_eq_true.mpr fun y hy => ?_⟩
    obtain ⟨q, hq, rfl⟩ := List.mem_map.mp hy
    rfl
  · rw [Bool.or_eq_true]
    refine .inl (List.all_eq_true.mpr fun x hx => ?_)
    obtain ⟨p, hp, rfl⟩ := List.mem_map.mp hx
    rfl
theorem sort_of {st : Store} {x : D} {ps : List (Int × Int)} (h : items st x = some (ps.map prD)) (hl : ps.length ≤ 16777216) : opSortB st [x] = some ((sortP ps).map prD) := by
  unfold opSortB
  show (match items st x with | some ds => if (sortOk ds && sOk ds.length) = true then some (isort dle ds) else none | none => none) = _
  rw [h]
  show (if (sortOk (ps.map prD) && sOk (ps.map prD).length) = true then some (isort dle (ps.map prD)) else none) = _
  rw [sortOk_pr, sOk_of (by rw [List.length_map]; exact hl), isort_pr]
  rfl
theorem sort_lst {st : Store} {ps : List (Int × Int)} (hl : ps.length ≤ 16777216) : opSortB st [.lst (ps.map prD)] = some ((sortP ps).map prD) := sort_of rfl hl
def turnP (P : Pl) : Pl := ⟨P.n, P.rows.map swP, sortP (P.pairs.map swP)⟩
theorem map_sw (ps : List (Int × Int)) : (ps.filter fun _ => true).map (fun q => D.tup [.int q.2, .int q.1]) = (ps.map swP).map prD := by
  rw [List.filter_eq_self.mpr fun _ _ => rfl, List.map_map]
  rfl
theorem app_pl {g : List D → Store → R D} {ds : List D} {Q : Pl} (hp : purs ds = true) (h : g ds [] = .ok (plD Q) []) : appP g ds = some (plD Q) := app_ok (st := []) hp h (by
  show (if pur (plD Q) = true then some (plD Q) else none) = _
  rw [pur_pl, if_pos rfl])
theorem turn_len (P : Pl) : (P.pairs.map swP).length = P.pairs.length := List.length_map ..
theorem ap_turn {P : Pl} (s : Small P) : appP f_turned_plan [plD P] = some (plD (turnP P)) := by
  refine app_pl (purs_pl rfl) ?_
  have e0 : plD P = .tup [.int P.n, .tup (P.rows.map prD), .tup (P.pairs.map prD)] := rfl
  simp only [f_turned_plan, b_turned_plan, runF, List.map_cons, List.map_nil, List.cons_append, List.nil_append, Nat.reduceSub, List.replicate_succ, List.replicate_zero, v_seq, v_if, v_tof, v_op, v_un, v_var, v_c, v_ret, v_nx, v_asg, v_and, v_or, v_not, v_nil, v_cons, v_tup, v_lst, v_frz, v_cb, v_cn, v_cp, v_ife, v_par, v_for, v_tru, List.getElem?_cons_zero, List.getElem?_cons_succ, List.set_cons_zero, List.set_cons_succ, k_var, k_op, k_op2, k_un, k_some, k_tof, k_asgN, k_ret, k_seqR, k_seqN, k_cons, k_cons2, k_cb, k_cn, k_cp, k_frz, k_par, k_par2, k_forV, k_truB, k_truT, k_not, k_orF, k_andT, k_andF, k_orT, k_ifT, k_ifF, k_ifeT, k_ifeF, i_ge, i_sub, i_neg, i_eq, i_ne, in_pr, nin_pr, pl_0, pl_1, pl_2, pr_0, pr_1, R.bind, k_tup, k_lst, List.length_cons, List.length_nil, Nat.reduceAdd, Nat.reduceLeDiff, decide_true, decide_false, Bool.not_true, Bool.not_false, Bool.true_and, Bool.false_and, Bool.and_true, Bool.and_false, Bool.or_true, Bool.or_false, if_true, if_false, Bool.false_eq_true, wipeE, tup_lst, v_yes, len_tup, i_lt, i_gt, i_add, k_asgT3, k_asgP, Bool.false_or, Bool.true_or]
  rw [e0]
  simp only [runF, List.map_cons, List.map_nil, List.cons_append, List.nil_append, Nat.reduceSub, List.replicate_succ, List.replicate_zero, v_seq, v_if, v_tof, v_op, v_un, v_var, v_c, v_ret, v_nx, v_asg, v_and, v_or, v_not, v_nil, v_cons, v_tup, v_lst, v_frz, v_cb, v_cn, v_cp, v_ife, v_par, v_for, v_tru, List.getElem?_cons_zero, List.getElem?_cons_succ, List.set_cons_zero, List.set_cons_succ, k_var, k_op, k_op2, k_un, k_some, k_tof, k_asgN, k_ret, k_seqR, k_seqN, k_cons, k_cons2, k_cb, k_cn, k_cp, k_frz, k_par, k_par2, k_forV, k_truB, k_truT, k_not, k_orF, k_andT, k_andF, k_orT, k_ifT, k_ifF, k_ifeT, k_ifeF, i_ge, i_sub, i_neg, i_eq, i_ne, in_pr, nin_pr, pl_0, pl_1, pl_2, pr_0, pr_1, R.bind, k_tup, k_lst, List.length_cons, List.length_nil, Nat.reduceAdd, Nat.reduceLeDiff, decide_true, decide_false, Bool.not_true, Bool.not_false, Bool.true_and, Bool.false_and, Bool.and_true, Bool.and_false, Bool.or_true, Bool.or_false, if_true, if_false, Bool.false_eq_true, wipeE, tup_lst, v_yes, len_tup, i_lt, i_gt, i_add, k_asgT3, k_asgP, Bool.false_or, Bool.true_or]
  rw [lc_prs2 (ps := P.rows) (c := fun _ => true) (fv := fun q => D.tup [.int q.2, .int q.1]) (it_tup rfl) (len_rws s) (fun q _ => ⟨rfl, fun _ => rfl⟩), map_sw]
  simp only [runF, List.map_cons, List.map_nil, List.cons_append, List.nil_append, Nat.reduceSub, List.replicate_succ, List.replicate_zero, v_seq, v_if, v_tof, v_op, v_un, v_var, v_c, v_ret, v_nx, v_asg, v_and, v_or, v_not, v_nil, v_cons, v_tup, v_lst, v_frz, v_cb, v_cn, v_cp, v_ife, v_par, v_for, v_tru, List.getElem?_cons_zero, List.getElem?_cons_succ, List.set_cons_zero, List.set_cons_succ, k_var, k_op, k_op2, k_un, k_some, k_tof, k_asgN, k_ret, k_seqR, k_seqN, k_cons, k_cons2, k_cb, k_cn, k_cp, k_frz, k_par, k_par2, k_forV, k_truB, k_truT, k_not, k_orF, k_andT, k_andF, k_orT, k_ifT, k_ifF, k_ifeT, k_ifeF, i_ge, i_sub, i_neg, i_eq, i_ne, in_pr, nin_pr, pl_0, pl_1, pl_2, pr_0, pr_1, R.bind, k_tup, k_lst, List.length_cons, List.length_nil, Nat.reduceAdd, Nat.reduceLeDiff, decide_true, decide_false, Bool.not_true, Bool.not_false, Bool.true_and, Bool.false_and, Bool.and_true, Bool.and_false, Bool.or_true, Bool.or_false, if_true, if_false, Bool.false_eq_true, wipeE, tup_lst, v_yes, len_tup, i_lt, i_gt, i_add, k_asgT3, k_asgP, Bool.false_or, Bool.true_or]
  rw [lc_prs2 (ps := P.pairs) (c := fun _ => true) (fv := fun q => D.tup [.int q.2, .int q.1]) (it_tup rfl) (len_prs s) (fun q _ => ⟨rfl, fun _ => rfl⟩), map_sw]
  simp only [runF, List.map_cons, List.map_nil, List.cons_append, List.nil_append, Nat.reduceSub, List.replicate_succ, List.replicate_zero, v_seq, v_if, v_tof, v_op, v_un, v_var, v_c, v_ret, v_nx, v_asg, v_and, v_or, v_not, v_nil, v_cons, v_tup, v_lst, v_frz, v_cb, v_cn, v_cp, v_ife, v_par, v_for, v_tru, List.getElem?_cons_zero, List.getElem?_cons_succ, List.set_cons_zero, List.set_cons_succ, k_var, k_op, k_op2, k_un, k_some, k_tof, k_asgN, k_ret, k_seqR, k_seqN, k_cons, k_cons2, k_cb, k_cn, k_cp, k_frz, k_par, k_par2, k_forV, k_truB, k_truT, k_not, k_orF, k_andT, k_andF, k_orT, k_ifT, k_ifF, k_ifeT, k_ifeF, i_ge, i_sub, i_neg, i_eq, i_ne, in_pr, nin_pr, pl_0, pl_1, pl_2, pr_0, pr_1, R.bind, k_tup, k_lst, List.length_cons, List.length_nil, Nat.reduceAdd, Nat.reduceLeDiff, decide_true, decide_false, Bool.not_true, Bool.not_false, Bool.true_and, Bool.false_and, Bool.and_true, Bool.and_false, Bool.or_true, Bool.or_false, if_true, if_false, Bool.false_eq_true, wipeE, tup_lst, v_yes, len_tup, i_lt, i_gt, i_add, k_asgT3, k_asgP, Bool.false_or, Bool.true_or, sort_lst (by rw [turn_len]; exact len_prs s)]
  rfl
theorem ap_lturn {P : Pl} (s : Small P) : appP f__law_turned_plan [plD P] = some (plD (turnP P)) := by
  refine app_pl (purs_pl rfl) ?_
  simp only [f__law_turned_plan, b__law_turned_plan, runF, List.map_cons, List.map_nil, List.cons_append, List.nil_append, Nat.reduceSub, List.replicate_succ, List.replicate_zero, v_seq, v_if, v_tof, v_op, v_un, v_var, v_c, v_ret, v_nx, v_asg, v_and, v_or, v_not, v_nil, v_cons, v_tup, v_lst, v_frz, v_cb, v_cn, v_cp, v_ife, v_par, v_for, v_tru, List.getElem?_cons_zero, List.getElem?_cons_succ, List.set_cons_zero, List.set_cons_succ, k_var, k_op, k_op2, k_un, k_some, k_tof, k_asgN, k_ret, k_seqR, k_seqN, k_cons, k_cons2, k_cb, k_cn, k_cp, k_frz, k_par, k_par2, k_forV, k_truB, k_truT, k_not, k_orF, k_andT, k_andF, k_orT, k_ifT, k_ifF, k_ifeT, k_ifeF, i_ge, i_sub, i_neg, i_eq, i_ne, in_pr, nin_pr, pl_0, pl_1, pl_2, pr_0, pr_1, R.bind, k_tup, k_lst, List.length_cons, List.length_nil, Nat.reduceAdd, Nat.reduceLeDiff, decide_true, decide_false, Bool.not_true, Bool.not_false, Bool.true_and, Bool.false_and, Bool.and_true, Bool.and_false, Bool.or_true, Bool.or_false, if_true, if_false, Bool.false_eq_true, wipeE, tup_lst, v_yes, len_tup, i_lt, i_gt, i_add, k_asgT3, k_asgP, Bool.false_or, Bool.true_or]
  rw [lc_prs2 (ps := P.rows) (c := fun _ => true) (fv := fun q => D.tup [.int q.2, .int q.1]) (it_tup rfl) (len_rws s) (fun q _ => ⟨rfl, fun _ => rfl⟩), map_sw]
  simp only [runF, List.map_cons, List.map_nil, List.cons_append, List.nil_append, Nat.reduceSub, List.replicate_succ, List.replicate_zero, v_seq, v_if, v_tof, v_op, v_un, v_var, v_c, v_ret, v_nx, v_asg, v_and, v_or, v_not, v_nil, v_cons, v_tup, v_lst, v_frz, v_cb, v_cn, v_cp, v_ife, v_par, v_for, v_tru, List.getElem?_cons_zero, List.getElem?_cons_succ, List.set_cons_zero, List.set_cons_succ, k_var, k_op, k_op2, k_un, k_some, k_tof, k_asgN, k_ret, k_seqR, k_seqN, k_cons, k_cons2, k_cb, k_cn, k_cp, k_frz, k_par, k_par2, k_forV, k_truB, k_truT, k_not, k_orF, k_andT, k_andF, k_orT, k_ifT, k_ifF, k_ifeT, k_ifeF, i_ge, i_sub, i_neg, i_eq, i_ne, in_pr, nin_pr, pl_0, pl_1, pl_2, pr_0, pr_1, R.bind, k_tup, k_lst, List.length_cons, List.length_nil, Nat.reduceAdd, Nat.reduceLeDiff, decide_true, decide_false, Bool.not_true, Bool.not_false, Bool.true_and, Bool.false_and, Bool.and_true, Bool.and_false, Bool.or_true, Bool.or_false, if_true, if_false, Bool.false_eq_true, wipeE, tup_lst, v_yes, len_tup, i_lt, i_gt, i_add, k_asgT3, k_asgP, Bool.false_or, Bool.true_or]
  rw [lc_prs2 (ps := P.pairs) (c := fun _ => true) (fv := fun q => D.tup [.int q.2, .int q.1]) (it_tup rfl) (len_prs s) (fun q _ => ⟨rfl, fun _ => rfl⟩), map_sw]
  simp only [runF, List.map_cons, List.map_nil, List.cons_append, List.nil_append, Nat.reduceSub, List.replicate_succ, List.replicate_zero, v_seq, v_if, v_tof, v_op, v_un, v_var, v_c, v_ret, v_nx, v_asg, v_and, v_or, v_not, v_nil, v_cons, v_tup, v_lst, v_frz, v_cb, v_cn, v_cp, v_ife, v_par, v_for, v_tru, List.getElem?_cons_zero, List.getElem?_cons_succ, List.set_cons_zero, List.set_cons_succ, k_var, k_op, k_op2, k_un, k_some, k_tof, k_asgN, k_ret, k_seqR, k_seqN, k_cons, k_cons2, k_cb, k_cn, k_cp, k_frz, k_par, k_par2, k_forV, k_truB, k_truT, k_not, k_orF, k_andT, k_andF, k_orT, k_ifT, k_ifF, k_ifeT, k_ifeF, i_ge, i_sub, i_neg, i_eq, i_ne, in_pr, nin_pr, pl_0, pl_1, pl_2, pr_0, pr_1, R.bind, k_tup, k_lst, List.length_cons, List.length_nil, Nat.reduceAdd, Nat.reduceLeDiff, decide_true, decide_false, Bool.not_true, Bool.not_false, Bool.true_and, Bool.false_and, Bool.and_true, Bool.and_false, Bool.or_true, Bool.or_false, if_true, if_false, Bool.false_eq_true, wipeE, tup_lst, v_yes, len_tup, i_lt, i_gt, i_add, k_asgT3, k_asgP, Bool.false_or, Bool.true_or, sort_lst (by rw [turn_len]; exact len_prs s)]
  rfl
theorem mem_turn {P : Pl} {a b : Int} : (a, b) ∈ (turnP P).pairs ↔ (b, a) ∈ P.pairs := by
  show (a, b) ∈ sortP (P.pairs.map swP) ↔ _
  rw [(sort_perm _).mem_iff, List.mem_map]
  constructor
  · rintro ⟨⟨x, y⟩, h, e⟩
    cases e
    exact h
  · intro h
    exact ⟨(b, a), h, rfl⟩
theorem turn_gentle {P : Pl} (h : Gentle P) : Gentle (turnP P) := by
  have nd : (turnP P).pairs.Nodup := (sort_perm _).nodup_iff.mpr (nd_map (nd_pairs h) fun x _ y _ e => by
    obtain ⟨x1, x2⟩ := x
    obtain ⟨y1, y2⟩ := y
    cases e
    rfl)
  refine gentle_turned h rfl rfl (fun a b => mem_turn) (nd_srt nd (sort_srt _)) ?_
  rw [show (turnP P).pairs.length = _ from (sort_perm _).length_eq, turn_len]
  exact h.plen
theorem turn_turn {P : Pl} (h : Gentle P) : turnP (turnP P) = P := by
  have e1 : (turnP (turnP P)).rows = P.rows := by
    show (P.rows.map swP).map swP = P.rows
    rw [List.map_map]
    exact List.map_id'' (fun x => rfl) _
  have e2 : (turnP (turnP P)).pairs = P.pairs := ext_pairs (turn_gentle (turn_gentle h)).srt h.srt fun ⟨a, b⟩ => by rw [mem_turn, mem_turn]
  have e3 : (turnP (turnP P)).n = P.n := rfl
  calc turnP (turnP P) = ⟨(turnP (turnP P)).n, (turnP (turnP P)).rows, (turnP (turnP P)).pairs⟩ := rfl
    _ = ⟨P.n, P.rows, P.pairs⟩ := by rw [e1, e2, e3]
    _ = P := rfl
end FK

set_option Elab.async false
set_option linter.all false
set_option maxRecDepth 100000
namespace FK
open DL
section
variable {P : Pl}
theorem ap_lends {l : Int} (h : okL P l) : appP f__law_ends [plD P, .int l] = some (prD (lend P l)) := by
  refine app_ok (st := []) (purs_pl rfl) ?_ rfl
  unfold okL at h
  by_cases h0 : l < 0
  · have hl : decide (l < 0) = true := by simpa using h0
    have hx := row_pos (P := P) (a := -1 - l) ⟨by omega, by omega⟩
    simp only [f__law_ends, b__law_ends, runF, List.map_cons, List.map_nil, List.cons_append, List.nil_append, Nat.reduceSub, List.replicate_succ, List.replicate_zero, v_seq, v_if, v_tof, v_op, v_un, v_var, v_c, v_ret, v_nx, v_asg, v_and, v_or, v_not, v_nil, v_cons, v_tup, v_lst, v_frz, v_cb, v_cn, v_cp, v_ife, v_par, v_for, v_tru, List.getElem?_cons_zero, List.getElem?_cons_succ, List.set_cons_zero, List.set_cons_succ, k_var, k_op, k_op2, k_un, k_some, k_tof, k_asgN, k_ret, k_seqR, k_seqN, k_cons, k_cons2, k_cb, k_cn, k_cp, k_frz, k_par, k_par2, k_forV, k_truB, k_truT, k_not, k_orF, k_andT, k_andF, k_orT, k_ifT, k_ifF, k_ifeT, k_ifeF, i_ge, i_sub, i_neg, i_eq, i_ne, in_pr, nin_pr, pl_0, pl_1, pl_2, pr_0, pr_1, R.bind, k_tup, k_lst, List.length_cons, List.length_nil, Nat.reduceAdd, Nat.reduceLeDiff, decide_true, decide_false, Bool.not_true, Bool.not_false, Bool.true_and, Bool.false_and, Bool.and_true, Bool.and_false, Bool.or_true, Bool.or_false, if_true, if_false, Bool.false_eq_true, wipeE, tup_lst, v_yes, len_tup, i_lt, i_gt, i_add, k_asgT3, k_asgP, Bool.false_or, Bool.true_or, hl, ix_map (f := prD) (show (0 : Int) ≤ -1 - l by omega) hx]
    unfold lend
    rw [if_pos h0]
    rfl
  · have hl : decide (l < 0) = false := by simpa using h0
    have hx := row_pos (P := P) (a := l) ⟨by omega, by omega⟩
    simp only [f__law_ends, b__law_ends, runF, List.map_cons, List.map_nil, List.cons_append, List.nil_append, Nat.reduceSub, List.replicate_succ, List.replicate_zero, v_seq, v_if, v_tof, v_op, v_un, v_var, v_c, v_ret, v_nx, v_asg, v_and, v_or, v_not, v_nil, v_cons, v_tup, v_lst, v_frz, v_cb, v_cn, v_cp, v_ife, v_par, v_for, v_tru, List.getElem?_cons_zero, List.getElem?_cons_succ, List.set_cons_zero, List.set_cons_succ, k_var, k_op, k_op2, k_un, k_some, k_tof, k_asgN, k_ret, k_seqR, k_seqN, k_cons, k_cons2, k_cb, k_cn, k_cp, k_frz, k_par, k_par2, k_forV, k_truB, k_truT, k_not, k_orF, k_andT, k_andF, k_orT, k_ifT, k_ifF, k_ifeT, k_ifeF, i_ge, i_sub, i_neg, i_eq, i_ne, in_pr, nin_pr, pl_0, pl_1, pl_2, pr_0, pr_1, R.bind, k_tup, k_lst, List.length_cons, List.length_nil, Nat.reduceAdd, Nat.reduceLeDiff, decide_true, decide_false, Bool.not_true, Bool.not_false, Bool.true_and, Bool.false_and, Bool.and_true, Bool.and_false, Bool.or_true, Bool.or_false, if_true, if_false, Bool.false_eq_true, wipeE, tup_lst, v_yes, len_tup, i_lt, i_gt, i_add, k_asgT3, k_asgP, Bool.false_or, Bool.true_or, hl, ix_map (f := prD) (show (0 : Int) ≤ l by omega) hx]
    unfold lend
    rw [if_neg h0]
    rfl
theorem ap_lmay {x y : Int} (hx : okL P x) (hy : okL P y) : appP f__law_may [plD P, .int x, .int y] = some (.bl (mayI P x y)) := by
  refine app_ok (st := []) (purs_pl rfl) ?_ rfl
  unfold mayI
  simp only [f__law_may, b__law_may, runF, List.map_cons, List.map_nil, List.cons_append, List.nil_append, Nat.reduceSub, List.replicate_succ, List.replicate_zero, v_seq, v_if, v_tof, v_op, v_un, v_var, v_c, v_ret, v_nx, v_asg, v_and, v_or, v_not, v_nil, v_cons, v_tup, v_lst, v_frz, v_cb, v_cn, v_cp, v_ife, v_par, v_for, v_tru, List.getElem?_cons_zero, List.getElem?_cons_succ, List.set_cons_zero, List.set_cons_succ, k_var, k_op, k_op2, k_un, k_some, k_tof, k_asgN, k_ret, k_seqR, k_seqN, k_cons, k_cons2, k_cb, k_cn, k_cp, k_frz, k_par, k_par2, k_forV, k_truB, k_truT, k_not, k_orF, k_andT, k_andF, k_orT, k_ifT, k_ifF, k_ifeT, k_ifeF, i_ge, i_sub, i_neg, i_eq, i_ne, in_pr, nin_pr, pl_0, pl_1, pl_2, pr_0, pr_1, R.bind, k_tup, k_lst, List.length_cons, List.length_nil, Nat.reduceAdd, Nat.reduceLeDiff, decide_true, decide_false, Bool.not_true, Bool.not_false, Bool.true_and, Bool.false_and, Bool.and_true, Bool.and_false, Bool.or_true, Bool.or_false, if_true, if_false, Bool.false_eq_true, wipeE, tup_lst, v_yes, len_tup, i_lt, i_gt, i_add, k_asgT3, k_asgP, Bool.false_or, Bool.true_or, ap_lends hx, ap_lends hy]
  cases e1 : decide ((lend P x).2 = (lend P y).1)
  · simp only [runF, List.map_cons, List.map_nil, List.cons_append, List.nil_append, Nat.reduceSub, List.replicate_succ, List.replicate_zero, v_seq, v_if, v_tof, v_op, v_un, v_var, v_c, v_ret, v_nx, v_asg, v_and, v_or, v_not, v_nil, v_cons, v_tup, v_lst, v_frz, v_cb, v_cn, v_cp, v_ife, v_par, v_for, v_tru, List.getElem?_cons_zero, List.getElem?_cons_succ, List.set_cons_zero, List.set_cons_succ, k_var, k_op, k_op2, k_un, k_some, k_tof, k_asgN, k_ret, k_seqR, k_seqN, k_cons, k_cons2, k_cb, k_cn, k_cp, k_frz, k_par, k_par2, k_forV, k_truB, k_truT, k_not, k_orF, k_andT, k_andF, k_orT, k_ifT, k_ifF, k_ifeT, k_ifeF, i_ge, i_sub, i_neg, i_eq, i_ne, in_pr, nin_pr, pl_0, pl_1, pl_2, pr_0, pr_1, R.bind, k_tup, k_lst, List.length_cons, List.length_nil, Nat.reduceAdd, Nat.reduceLeDiff, decide_true, decide_false, Bool.not_true, Bool.not_false, Bool.true_and, Bool.false_and, Bool.and_true, Bool.and_false, Bool.or_true, Bool.or_false, if_true, if_false, Bool.false_eq_true, wipeE, tup_lst, v_yes, len_tup, i_lt, i_gt, i_add, k_asgT3, k_asgP, Bool.false_or, Bool.true_or]
  · cases e2 : decide (y = -1 - x)
    · cases e3 : decide (x < 0) <;> cases e4 : decide (y < 0) <;> simp only [runF, List.map_cons, List.map_nil, List.cons_append, List.nil_append, Nat.reduceSub, List.replicate_succ, List.replicate_zero, v_seq, v_if, v_tof, v_op, v_un, v_var, v_c, v_ret, v_nx, v_asg, v_and, v_or, v_not, v_nil, v_cons, v_tup, v_lst, v_frz, v_cb, v_cn, v_cp, v_ife, v_par, v_for, v_tru, List.getElem?_cons_zero, List.getElem?_cons_succ, List.set_cons_zero, List.set_cons_succ, k_var, k_op, k_op2, k_un, k_some, k_tof, k_asgN, k_ret, k_seqR, k_seqN, k_cons, k_cons2, k_cb, k_cn, k_cp, k_frz, k_par, k_par2, k_forV, k_truB, k_truT, k_not, k_orF, k_andT, k_andF, k_orT, k_ifT, k_ifF, k_ifeT, k_ifeF, i_ge, i_sub, i_neg, i_eq, i_ne, in_pr, nin_pr, pl_0, pl_1, pl_2, pr_0, pr_1, R.bind, k_tup, k_lst, List.length_cons, List.length_nil, Nat.reduceAdd, Nat.reduceLeDiff, decide_true, decide_false, Bool.not_true, Bool.not_false, Bool.true_and, Bool.false_and, Bool.and_true, Bool.and_false, Bool.or_true, Bool.or_false, if_true, if_false, Bool.false_eq_true, wipeE, tup_lst, v_yes, len_tup, i_lt, i_gt, i_add, k_asgT3, k_asgP, Bool.false_or, Bool.true_or, e2, e3, e4]
    · simp only [runF, List.map_cons, List.map_nil, List.cons_append, List.nil_append, Nat.reduceSub, List.replicate_succ, List.replicate_zero, v_seq, v_if, v_tof, v_op, v_un, v_var, v_c, v_ret, v_nx, v_asg, v_and, v_or, v_not, v_nil, v_cons, v_tup, v_lst, v_frz, v_cb, v_cn, v_cp, v_ife, v_par, v_for, v_tru, List.getElem?_cons_zero, List.getElem?_cons_succ, List.set_cons_zero, List.set_cons_succ, k_var, k_op, k_op2, k_un, k_some, k_tof, k_asgN, k_ret, k_seqR, k_seqN, k_cons, k_cons2, k_cb, k_cn, k_cp, k_frz, k_par, k_par2, k_forV, k_truB, k_truT, k_not, k_orF, k_andT, k_andF, k_orT, k_ifT, k_ifF, k_ifeT, k_ifeF, i_ge, i_sub, i_neg, i_eq, i_ne, in_pr, nin_pr, pl_0, pl_1, pl_2, pr_0, pr_1, R.bind, k_tup, k_lst, List.length_cons, List.length_nil, Nat.reduceAdd, Nat.reduceLeDiff, decide_true, decide_false, Bool.not_true, Bool.not_false, Bool.true_and, Bool.false_and, Bool.and_true, Bool.and_false, Bool.or_true, Bool.or_false, if_true, if_false, Bool.false_eq_true, wipeE, tup_lst, v_yes, len_tup, i_lt, i_gt, i_add, k_asgT3, k_asgP, Bool.false_or, Bool.true_or, e2]
variable (s : Small P)
include s
theorem ap_lafter {l : Int} (hl : okL P l) : appP f__law_after [plD P, .int l] = some (.lst ((afterI P l).map D.int)) := by
  refine app_ok (st := []) (purs_pl rfl) (d := .lst ((afterI P l).map D.int)) ?_ (by
    show (if purs ((afterI P l).map D.int) = true then some _ else none) = _
    rw [purs_int, if_pos rfl])
  simp only [f__law_after, b__law_after, runF, List.map_cons, List.map_nil, List.cons_append, List.nil_append, Nat.reduceSub, List.replicate_succ, List.replicate_zero, v_seq, v_if, v_tof, v_op, v_un, v_var, v_c, v_ret, v_nx, v_asg, v_and, v_or, v_not, v_nil, v_cons, v_tup, v_lst, v_frz, v_cb, v_cn, v_cp, v_ife, v_par, v_for, v_tru, List.getElem?_cons_zero, List.getElem?_cons_succ, List.set_cons_zero, List.set_cons_succ, k_var, k_op, k_op2, k_un, k_some, k_tof, k_asgN, k_ret, k_seqR, k_seqN, k_cons, k_cons2, k_cb, k_cn, k_cp, k_frz, k_par, k_par2, k_forV, k_truB, k_truT, k_not, k_orF, k_andT, k_andF, k_orT, k_ifT, k_ifF, k_ifeT, k_ifeF, i_ge, i_sub, i_neg, i_eq, i_ne, in_pr, nin_pr, pl_0, pl_1, pl_2, pr_0, pr_1, R.bind, k_tup, k_lst, List.length_cons, List.length_nil, Nat.reduceAdd, Nat.reduceLeDiff, decide_true, decide_false, Bool.not_true, Bool.not_false, Bool.true_and, Bool.false_and, Bool.and_true, Bool.and_false, Bool.or_true, Bool.or_false, if_true, if_false, Bool.false_eq_true, wipeE, tup_lst, v_yes, len_tup, i_lt, i_gt, i_add, k_asgT3, k_asgP, Bool.false_or, Bool.true_or]
  rw [lc_ints (xs := letrI P) (c := mayI P l) (fv := D.int)]
  · simp only [runF, List.map_cons, List.map_nil, List.cons_append, List.nil_append, Nat.reduceSub, List.replicate_succ, List.replicate_zero, v_seq, v_if, v_tof, v_op, v_un, v_var, v_c, v_ret, v_nx, v_asg, v_and, v_or, v_not, v_nil, v_cons, v_tup, v_lst, v_frz, v_cb, v_cn, v_cp, v_ife, v_par, v_for, v_tru, List.getElem?_cons_zero, List.getElem?_cons_succ, List.set_cons_zero, List.set_cons_succ, k_var, k_op, k_op2, k_un, k_some, k_tof, k_asgN, k_ret, k_seqR, k_seqN, k_cons, k_cons2, k_cb, k_cn, k_cp, k_frz, k_par, k_par2, k_forV, k_truB, k_truT, k_not, k_orF, k_andT, k_andF, k_orT, k_ifT, k_ifF, k_ifeT, k_ifeF, i_ge, i_sub, i_neg, i_eq, i_ne, in_pr, nin_pr, pl_0, pl_1, pl_2, pr_0, pr_1, R.bind, k_tup, k_lst, List.length_cons, List.length_nil, Nat.reduceAdd, Nat.reduceLeDiff, decide_true, decide_false, Bool.not_true, Bool.not_false, Bool.true_and, Bool.false_and, Bool.and_true, Bool.and_false, Bool.or_true, Bool.or_false, if_true, if_false, Bool.false_eq_true, wipeE, tup_lst, v_yes, len_tup, i_lt, i_gt, i_add, k_asgT3, k_asgP, Bool.false_or, Bool.true_or]
    rfl
  · exact it_rg2 rfl rfl (rg_lets s)
  · exact len_lets s
  · intro x hx
    have ho := mem_let.mp hx
    simp only [runF, List.map_cons, List.map_nil, List.cons_append, List.nil_append, Nat.reduceSub, List.replicate_succ, List.replicate_zero, v_seq, v_if, v_tof, v_op, v_un, v_var, v_c, v_ret, v_nx, v_asg, v_and, v_or, v_not, v_nil, v_cons, v_tup, v_lst, v_frz, v_cb, v_cn, v_cp, v_ife, v_par, v_for, v_tru, List.getElem?_cons_zero, List.getElem?_cons_succ, List.set_cons_zero, List.set_cons_succ, k_var, k_op, k_op2, k_un, k_some, k_tof, k_asgN, k_ret, k_seqR, k_seqN, k_cons, k_cons2, k_cb, k_cn, k_cp, k_frz, k_par, k_par2, k_forV, k_truB, k_truT, k_not, k_orF, k_andT, k_andF, k_orT, k_ifT, k_ifF, k_ifeT, k_ifeF, i_ge, i_sub, i_neg, i_eq, i_ne, in_pr, nin_pr, pl_0, pl_1, pl_2, pr_0, pr_1, R.bind, k_tup, k_lst, List.length_cons, List.length_nil, Nat.reduceAdd, Nat.reduceLeDiff, decide_true, decide_false, Bool.not_true, Bool.not_false, Bool.true_and, Bool.false_and, Bool.and_true, Bool.and_false, Bool.or_true, Bool.or_false, if_true, if_false, Bool.false_eq_true, wipeE, tup_lst, v_yes, len_tup, i_lt, i_gt, i_add, k_asgT3, k_asgP, Bool.false_or, Bool.true_or, ap_lmay hl ho]
    exact ⟨trivial, fun _ => trivial⟩
theorem len_after {l : Int} : (afterI P l).length ≤ 16777216 := Nat.le_trans (List.length_filter_le ..) (len_lets s)
end
theorem ne_nil {xs : List Int} {st : Store} : opNe st (.lst (xs.map D.int)) (.lst []) = some (.bl (!xs.isEmpty)) := by
  show (if (fits (xs.map D.int) 39 && true) = true then some (D.bl (!same (.lst (xs.map D.int)) (.lst []))) else none) = _
  rw [fits_int xs 38]
  cases xs <;> rfl
theorem eq_nil {xs : List Int} {st : Store} : opEq st (.lst (xs.map D.int)) (.lst []) = some (.bl xs.isEmpty) := by
  show (if (fits (xs.map D.int) 39 && true) = true then some (D.bl (same (.lst (xs.map D.int)) (.lst []))) else none) = _
  rw [fits_int xs 38]
  cases xs <;> rfl
theorem ix_first {x : D} {xs : List D} {st : Store} : opIx st (.lst (x :: xs)) (.int 0) = some x := by
  show L2.atI (x :: xs) 0 = _
  unfold L2.atI L2.ixN
  simp
theorem after_next {P : Pl} (h : Gentle P) {a : Int} (ha : inA P a) : (afterI P a).filter (fun x => !decide (x < 0)) = (nextI P a).toList := by
  have a0 := ha.1
  refine ext_sorted (((srt_rgL _ _).filter _).filter _) (by cases nextI P a <;> simp) fun x => ?_
  unfold afterI
  rw [List.mem_filter, List.mem_filter, mem_let, may_iff, Option.mem_toList, next_iff h ha]
  unfold okL
  constructor
  · rintro ⟨⟨q1, q2, q3, q4, q5⟩, q6⟩
    simp at q6
    rw [lend_pos (by omega), lend_pos (by omega)] at q2
    exact ⟨⟨by omega, by omega⟩, q2.symm, q4 (by omega) (by omega)⟩
  · rintro ⟨q1, q2, q3⟩
    unfold inA at q1
    refine ⟨⟨by omega, ?_, by omega, fun _ _ => q3, by omega⟩, by simp; omega⟩
    rw [lend_pos (by omega), lend_pos (by omega)]
    exact q2.symm
theorem ap_lnext {P : Pl} (h : Gentle P) {a : Int} (ha : inA P a) : appP f__law_next [plD P, .int a] = some (optZ (nextI P a)) := by
  refine app_ok (st := []) (purs_pl rfl) (d := optZ (nextI P a)) ?_ out_optZ
  have s := h.small
  have ho : okL P a := ⟨by have := ha.1; omega, ha.2⟩
  simp only [f__law_next, b__law_next, runF, List.map_cons, List.map_nil, List.cons_append, List.nil_append, Nat.reduceSub, List.replicate_succ, List.replicate_zero, v_seq, v_if, v_tof, v_op, v_un, v_var, v_c, v_ret, v_nx, v_asg, v_and, v_or, v_not, v_nil, v_cons, v_tup, v_lst, v_frz, v_cb, v_cn, v_cp, v_ife, v_par, v_for, v_tru, List.getElem?_cons_zero, List.getElem?_cons_succ, List.set_cons_zero, List.set_cons_succ, k_var, k_op, k_op2, k_un, k_some, k_tof, k_asgN, k_ret, k_seqR, k_seqN, k_cons, k_cons2, k_cb, k_cn, k_cp, k_frz, k_par, k_par2, k_forV, k_truB, k_truT, k_not, k_orF, k_andT, k_andF, k_orT, k_ifT, k_ifF, k_ifeT, k_ifeF, i_ge, i_sub, i_neg, i_eq, i_ne, in_pr, nin_pr, pl_0, pl_1, pl_2, pr_0, pr_1, R.bind, k_tup, k_lst, List.length_cons, List.length_nil, Nat.reduceAdd, Nat.reduceLeDiff, decide_true, decide_false, Bool.not_true, Bool.not_false, Bool.true_and, Bool.false_and, Bool.and_true, Bool.and_false, Bool.or_true, Bool.or_false, if_true, if_false, Bool.false_eq_true, wipeE, tup_lst, v_yes, len_tup, i_lt, i_gt, i_add, k_asgT3, k_asgP, Bool.false_or, Bool.true_or]
  rw [lc_ints (xs := afterI P a) (c := fun x => !decide (x < 0)) (fv := D.int)]
  · simp only [runF, List.map_cons, List.map_nil, List.cons_append, List.nil_append, Nat.reduceSub, List.replicate_succ, List.replicate_zero, v_seq, v_if, v_tof, v_op, v_un, v_var, v_c, v_ret, v_nx, v_asg, v_and, v_or, v_not, v_nil, v_cons, v_tup, v_lst, v_frz, v_cb, v_cn, v_cp, v_ife, v_par, v_for, v_tru, List.getElem?_cons_zero, List.getElem?_cons_succ, List.set_cons_zero, List.set_cons_succ, k_var, k_op, k_op2, k_un, k_some, k_tof, k_asgN, k_ret, k_seqR, k_seqN, k_cons, k_cons2, k_cb, k_cn, k_cp, k_frz, k_par, k_par2, k_forV, k_truB, k_truT, k_not, k_orF, k_andT, k_andF, k_orT, k_ifT, k_ifF, k_ifeT, k_ifeF, i_ge, i_sub, i_neg, i_eq, i_ne, in_pr, nin_pr, pl_0, pl_1, pl_2, pr_0, pr_1, R.bind, k_tup, k_lst, List.length_cons, List.length_nil, Nat.reduceAdd, Nat.reduceLeDiff, decide_true, decide_false, Bool.not_true, Bool.not_false, Bool.true_and, Bool.false_and, Bool.and_true, Bool.and_false, Bool.or_true, Bool.or_false, if_true, if_false, Bool.false_eq_true, wipeE, tup_lst, v_yes, len_tup, i_lt, i_gt, i_add, k_asgT3, k_asgP, Bool.false_or, Bool.true_or, after_next h ha, ne_nil]
    cases nextI P a with
    | none => simp only [runF, List.map_cons, List.map_nil, List.cons_append, List.nil_append, Nat.reduceSub, List.replicate_succ, List.replicate_zero, v_seq, v_if, v_tof, v_op, v_un, v_var, v_c, v_ret, v_nx, v_asg, v_and, v_or, v_not, v_nil, v_cons, v_tup, v_lst, v_frz, v_cb, v_cn, v_cp, v_ife, v_par, v_for, v_tru, List.getElem?_cons_zero, List.getElem?_cons_succ, List.set_cons_zero, List.set_cons_succ, k_var, k_op, k_op2, k_un, k_some, k_tof, k_asgN, k_ret, k_seqR, k_seqN, k_cons, k_cons2, k_cb, k_cn, k_cp, k_frz, k_par, k_par2, k_forV, k_truB, k_truT, k_not, k_orF, k_andT, k_andF, k_orT, k_ifT, k_ifF, k_ifeT, k_ifeF, i_ge, i_sub, i_neg, i_eq, i_ne, in_pr, nin_pr, pl_0, pl_1, pl_2, pr_0, pr_1, R.bind, k_tup, k_lst, List.length_cons, List.length_nil, Nat.reduceAdd, Nat.reduceLeDiff, decide_true, decide_false, Bool.not_true, Bool.not_false, Bool.true_and, Bool.false_and, Bool.and_true, Bool.and_false, Bool.or_true, Bool.or_false, if_true, if_false, Bool.false_eq_true, wipeE, tup_lst, v_yes, len_tup, i_lt, i_gt, i_add, k_asgT3, k_asgP, Bool.false_or, Bool.true_or, Option.toList_none, List.isEmpty_nil, optZ]
    | some x => simp only [runF, List.map_cons, List.map_nil, List.cons_append, List.nil_append, Nat.reduceSub, List.replicate_succ, List.replicate_zero, v_seq, v_if, v_tof, v_op, v_un, v_var, v_c, v_ret, v_nx, v_asg, v_and, v_or, v_not, v_nil, v_cons, v_tup, v_lst, v_frz, v_cb, v_cn, v_cp, v_ife, v_par, v_for, v_tru, List.getElem?_cons_zero, List.getElem?_cons_succ, List.set_cons_zero, List.set_cons_succ, k_var, k_op, k_op2, k_un, k_some, k_tof, k_asgN, k_ret, k_seqR, k_seqN, k_cons, k_cons2, k_cb, k_cn, k_cp, k_frz, k_par, k_par2, k_forV, k_truB, k_truT, k_not, k_orF, k_andT, k_andF, k_orT, k_ifT, k_ifF, k_ifeT, k_ifeF, i_ge, i_sub, i_neg, i_eq, i_ne, in_pr, nin_pr, pl_0, pl_1, pl_2, pr_0, pr_1, R.bind, k_tup, k_lst, List.length_cons, List.length_nil, Nat.reduceAdd, Nat.reduceLeDiff, decide_true, decide_false, Bool.not_true, Bool.not_false, Bool.true_and, Bool.false_and, Bool.and_true, Bool.and_false, Bool.or_true, Bool.or_false, if_true, if_false, Bool.false_eq_true, wipeE, tup_lst, v_yes, len_tup, i_lt, i_gt, i_add, k_asgT3, k_asgP, Bool.false_or, Bool.true_or, Option.toList_some, List.isEmpty_cons, optZ, ix_first]
  · exact it_lst (by simp only [runF, List.map_cons, List.map_nil, List.cons_append, List.nil_append, Nat.reduceSub, List.replicate_succ, List.replicate_zero, v_seq, v_if, v_tof, v_op, v_un, v_var, v_c, v_ret, v_nx, v_asg, v_and, v_or, v_not, v_nil, v_cons, v_tup, v_lst, v_frz, v_cb, v_cn, v_cp, v_ife, v_par, v_for, v_tru, List.getElem?_cons_zero, List.getElem?_cons_succ, List.set_cons_zero, List.set_cons_succ, k_var, k_op, k_op2, k_un, k_some, k_tof, k_asgN, k_ret, k_seqR, k_seqN, k_cons, k_cons2, k_cb, k_cn, k_cp, k_frz, k_par, k_par2, k_forV, k_truB, k_truT, k_not, k_orF, k_andT, k_andF, k_orT, k_ifT, k_ifF, k_ifeT, k_ifeF, i_ge, i_sub, i_neg, i_eq, i_ne, in_pr, nin_pr, pl_0, pl_1, pl_2, pr_0, pr_1, R.bind, k_tup, k_lst, List.length_cons, List.length_nil, Nat.reduceAdd, Nat.reduceLeDiff, decide_true, decide_false, Bool.not_true, Bool.not_false, Bool.true_and, Bool.false_and, Bool.and_true, Bool.and_false, Bool.or_true, Bool.or_false, if_true, if_false, Bool.false_eq_true, wipeE, tup_lst, v_yes, len_tup, i_lt, i_gt, i_add, k_asgT3, k_asgP, Bool.false_or, Bool.true_or, ap_lafter s ho])
  · exact len_after s
  · intro x hx
    simp only [runF, List.map_cons, List.map_nil, List.cons_append, List.nil_append, Nat.reduceSub, List.replicate_succ, List.replicate_zero, v_seq, v_if, v_tof, v_op, v_un, v_var, v_c, v_ret, v_nx, v_asg, v_and, v_or, v_not, v_nil, v_cons, v_tup, v_lst, v_frz, v_cb, v_cn, v_cp, v_ife, v_par, v_for, v_tru, List.getElem?_cons_zero, List.getElem?_cons_succ, List.set_cons_zero, List.set_cons_succ, k_var, k_op, k_op2, k_un, k_some, k_tof, k_asgN, k_ret, k_seqR, k_seqN, k_cons, k_cons2, k_cb, k_cn, k_cp, k_frz, k_par, k_par2, k_forV, k_truB, k_truT, k_not, k_orF, k_andT, k_andF, k_orT, k_ifT, k_ifF, k_ifeT, k_ifeF, i_ge, i_sub, i_neg, i_eq, i_ne, in_pr, nin_pr, pl_0, pl_1, pl_2, pr_0, pr_1, R.bind, k_tup, k_lst, List.length_cons, List.length_nil, Nat.reduceAdd, Nat.reduceLeDiff, decide_true, decide_false, Bool.not_true, Bool.not_false, Bool.true_and, Bool.false_and, Bool.and_true, Bool.and_false, Bool.or_true, Bool.or_false, if_true, if_false, Bool.false_eq_true, wipeE, tup_lst, v_yes, len_tup, i_lt, i_gt, i_add, k_asgT3, k_asgP, Bool.false_or, Bool.true_or]
    exact ⟨trivial, fun _ => trivial⟩
theorem ap_lnil {P : Pl} (s : Small P) {a : Int} : appP f__law_nil [plD P, .int a] = some (optZ (nilI P a)) := by
  refine app_ok (st := []) (purs_pl rfl) (d := optZ (nilI P a)) ?_ out_optZ
  simp only [f__law_nil, b__law_nil, runF, List.map_cons, List.map_nil, List.cons_append, List.nil_append, Nat.reduceSub, List.replicate_succ, List.replicate_zero, v_seq, v_if, v_tof, v_op, v_un, v_var, v_c, v_ret, v_nx, v_asg, v_and, v_or, v_not, v_nil, v_cons, v_tup, v_lst, v_frz, v_cb, v_cn, v_cp, v_ife, v_par, v_for, v_tru, List.getElem?_cons_zero, List.getElem?_cons_succ, List.set_cons_zero, List.set_cons_succ, k_var, k_op, k_op2, k_un, k_some, k_tof, k_asgN, k_ret, k_seqR, k_seqN, k_cons, k_cons2, k_cb, k_cn, k_cp, k_frz, k_par, k_par2, k_forV, k_truB, k_truT, k_not, k_orF, k_andT, k_andF, k_orT, k_ifT, k_ifF, k_ifeT, k_ifeF, i_ge, i_sub, i_neg, i_eq, i_ne, in_pr, nin_pr, pl_0, pl_1, pl_2, pr_0, pr_1, R.bind, k_tup, k_lst, List.length_cons, List.length_nil, Nat.reduceAdd, Nat.reduceLeDiff, decide_true, decide_false, Bool.not_true, Bool.not_false, Bool.true_and, Bool.false_and, Bool.and_true, Bool.and_false, Bool.or_true, Bool.or_false, if_true, if_false, Bool.false_eq_true, wipeE, tup_lst, v_yes, len_tup, i_lt, i_gt, i_add, k_asgT3, k_asgP, Bool.false_or, Bool.true_or]
  rw [lc_prs (ps := P.pairs) (c := fun r => decide (r.1 = a)) (fv := fun r => D.int r.2)]
  · have e : (P.pairs.filter fun r => decide (r.1 = a)).map (fun r => D.int r.2) = ((P.pairs.filter fun r => decide (r.1 = a)).map (·.2)).map D.int := by rw [List.map_map]; rfl
    have e2 : nilI P a = ((P.pairs.filter fun r => decide (r.1 = a)).map (·.2)).head? := by
      unfold nilI
      rw [List.head?_map, List.head?_filter]
    rw [e, e2]
    generalize (P.pairs.filter fun r => decide (r.1 = a)).map (·.2) = xs
    simp only [runF, List.map_cons, List.map_nil, List.cons_append, List.nil_append, Nat.reduceSub, List.replicate_succ, List.replicate_zero, v_seq, v_if, v_tof, v_op, v_un, v_var, v_c, v_ret, v_nx, v_asg, v_and, v_or, v_not, v_nil, v_cons, v_tup, v_lst, v_frz, v_cb, v_cn, v_cp, v_ife, v_par, v_for, v_tru, List.getElem?_cons_zero, List.getElem?_cons_succ, List.set_cons_zero, List.set_cons_succ, k_var, k_op, k_op2, k_un, k_some, k_tof, k_asgN, k_ret, k_seqR, k_seqN, k_cons, k_cons2, k_cb, k_cn, k_cp, k_frz, k_par, k_par2, k_forV, k_truB, k_truT, k_not, k_orF, k_andT, k_andF, k_orT, k_ifT, k_ifF, k_ifeT, k_ifeF, i_ge, i_sub, i_neg, i_eq, i_ne, in_pr, nin_pr, pl_0, pl_1, pl_2, pr_0, pr_1, R.bind, k_tup, k_lst, List.length_cons, List.length_nil, Nat.reduceAdd, Nat.reduceLeDiff, decide_true, decide_false, Bool.not_true, Bool.not_false, Bool.true_and, Bool.false_and, Bool.and_true, Bool.and_false, Bool.or_true, Bool.or_false, if_true, if_false, Bool.false_eq_true, wipeE, tup_lst, v_yes, len_tup, i_lt, i_gt, i_add, k_asgT3, k_asgP, Bool.false_or, Bool.true_or, ne_nil]
    cases xs with
    | nil => simp only [runF, List.map_cons, List.map_nil, List.cons_append, List.nil_append, Nat.reduceSub, List.replicate_succ, List.replicate_zero, v_seq, v_if, v_tof, v_op, v_un, v_var, v_c, v_ret, v_nx, v_asg, v_and, v_or, v_not, v_nil, v_cons, v_tup, v_lst, v_frz, v_cb, v_cn, v_cp, v_ife, v_par, v_for, v_tru, List.getElem?_cons_zero, List.getElem?_cons_succ, List.set_cons_zero, List.set_cons_succ, k_var, k_op, k_op2, k_un, k_some, k_tof, k_asgN, k_ret, k_seqR, k_seqN, k_cons, k_cons2, k_cb, k_cn, k_cp, k_frz, k_par, k_par2, k_forV, k_truB, k_truT, k_not, k_orF, k_andT, k_andF, k_orT, k_ifT, k_ifF, k_ifeT, k_ifeF, i_ge, i_sub, i_neg, i_eq, i_ne, in_pr, nin_pr, pl_0, pl_1, pl_2, pr_0, pr_1, R.bind, k_tup, k_lst, List.length_cons, List.length_nil, Nat.reduceAdd, Nat.reduceLeDiff, decide_true, decide_false, Bool.not_true, Bool.not_false, Bool.true_and, Bool.false_and, Bool.and_true, Bool.and_false, Bool.or_true, Bool.or_false, if_true, if_false, Bool.false_eq_true, wipeE, tup_lst, v_yes, len_tup, i_lt, i_gt, i_add, k_asgT3, k_asgP, Bool.false_or, Bool.true_or, List.isEmpty_nil, List.head?_nil, optZ]
    | cons x xs => simp only [List.isEmpty_cons, runF, List.map_cons, List.map_nil, List.cons_append, List.nil_append, Nat.reduceSub, List.replicate_succ, List.replicate_zero, v_seq, v_if, v_tof, v_op, v_un, v_var, v_c, v_ret, v_nx, v_asg, v_and, v_or, v_not, v_nil, v_cons, v_tup, v_lst, v_frz, v_cb, v_cn, v_cp, v_ife, v_par, v_for, v_tru, List.getElem?_cons_zero, List.getElem?_cons_succ, List.set_cons_zero, List.set_cons_succ, k_var, k_op, k_op2, k_un, k_some, k_tof, k_asgN, k_ret, k_seqR, k_seqN, k_cons, k_cons2, k_cb, k_cn, k_cp, k_frz, k_par, k_par2, k_forV, k_truB, k_truT, k_not, k_orF, k_andT, k_andF, k_orT, k_ifT, k_ifF, k_ifeT, k_ifeF, i_ge, i_sub, i_neg, i_eq, i_ne, in_pr, nin_pr, pl_0, pl_1, pl_2, pr_0, pr_1, R.bind, k_tup, k_lst, List.length_cons, List.length_nil, Nat.reduceAdd, Nat.reduceLeDiff, decide_true, decide_false, Bool.not_true, Bool.not_false, Bool.true_and, Bool.false_and, Bool.and_true, Bool.and_false, Bool.or_true, Bool.or_false, if_true, if_false, Bool.false_eq_true, wipeE, tup_lst, v_yes, len_tup, i_lt, i_gt, i_add, k_asgT3, k_asgP, Bool.false_or, Bool.true_or, List.head?_cons, optZ, ix_first]
  · exact it_tup rfl
  · exact len_prs s
  · intro x hx
    simp only [runF, List.map_cons, List.map_nil, List.cons_append, List.nil_append, Nat.reduceSub, List.replicate_succ, List.replicate_zero, v_seq, v_if, v_tof, v_op, v_un, v_var, v_c, v_ret, v_nx, v_asg, v_and, v_or, v_not, v_nil, v_cons, v_tup, v_lst, v_frz, v_cb, v_cn, v_cp, v_ife, v_par, v_for, v_tru, List.getElem?_cons_zero, List.getElem?_cons_succ, List.set_cons_zero, List.set_cons_succ, k_var, k_op, k_op2, k_un, k_some, k_tof, k_asgN, k_ret, k_seqR, k_seqN, k_cons, k_cons2, k_cb, k_cn, k_cp, k_frz, k_par, k_par2, k_forV, k_truB, k_truT, k_not, k_orF, k_andT, k_andF, k_orT, k_ifT, k_ifF, k_ifeT, k_ifeF, i_ge, i_sub, i_neg, i_eq, i_ne, in_pr, nin_pr, pl_0, pl_1, pl_2, pr_0, pr_1, R.bind, k_tup, k_lst, List.length_cons, List.length_nil, Nat.reduceAdd, Nat.reduceLeDiff, decide_true, decide_false, Bool.not_true, Bool.not_false, Bool.true_and, Bool.false_and, Bool.and_true, Bool.and_false, Bool.or_true, Bool.or_false, if_true, if_false, Bool.false_eq_true, wipeE, tup_lst, v_yes, len_tup, i_lt, i_gt, i_add, k_asgT3, k_asgP, Bool.false_or, Bool.true_or]
    exact ⟨trivial, fun _ => trivial⟩
theorem ap_lbegins {P : Pl} (s : Small P) {p : Int} : appP f__law_begins [plD P, .int p] = some (.lst ((beginsI P p).map D.int)) := by
  refine app_ok (st := []) (purs_pl rfl) (d := .lst ((beginsI P p).map D.int)) ?_ (by
    show (if purs ((beginsI P p).map D.int) = true then some _ else none) = _
    rw [purs_int, if_pos rfl])
  simp only [f__law_begins, b__law_begins, runF, List.map_cons, List.map_nil, List.cons_append, List.nil_append, Nat.reduceSub, List.replicate_succ, List.replicate_zero, v_seq, v_if, v_tof, v_op, v_un, v_var, v_c, v_ret, v_nx, v_asg, v_and, v_or, v_not, v_nil, v_cons, v_tup, v_lst, v_frz, v_cb, v_cn, v_cp, v_ife, v_par, v_for, v_tru, List.getElem?_cons_zero, List.getElem?_cons_succ, List.set_cons_zero, List.set_cons_succ, k_var, k_op, k_op2, k_un, k_some, k_tof, k_asgN, k_ret, k_seqR, k_seqN, k_cons, k_cons2, k_cb, k_cn, k_cp, k_frz, k_par, k_par2, k_forV, k_truB, k_truT, k_not, k_orF, k_andT, k_andF, k_orT, k_ifT, k_ifF, k_ifeT, k_ifeF, i_ge, i_sub, i_neg, i_eq, i_ne, in_pr, nin_pr, pl_0, pl_1, pl_2, pr_0, pr_1, R.bind, k_tup, k_lst, List.length_cons, List.length_nil, Nat.reduceAdd, Nat.reduceLeDiff, decide_true, decide_false, Bool.not_true, Bool.not_false, Bool.true_and, Bool.false_and, Bool.and_true, Bool.and_false, Bool.or_true, Bool.or_false, if_true, if_false, Bool.false_eq_true, wipeE, tup_lst, v_yes, len_tup, i_lt, i_gt, i_add, k_asgT3, k_asgP, Bool.false_or, Bool.true_or]
  rw [lc_ints (xs := letrI P) (c := fun l => decide ((lend P l).1 = p)) (fv := D.int)]
  · simp only [runF, List.map_cons, List.map_nil, List.cons_append, List.nil_append, Nat.reduceSub, List.replicate_succ, List.replicate_zero, v_seq, v_if, v_tof, v_op, v_un, v_var, v_c, v_ret, v_nx, v_asg, v_and, v_or, v_not, v_nil, v_cons, v_tup, v_lst, v_frz, v_cb, v_cn, v_cp, v_ife, v_par, v_for, v_tru, List.getElem?_cons_zero, List.getElem?_cons_succ, List.set_cons_zero, List.set_cons_succ, k_var, k_op, k_op2, k_un, k_some, k_tof, k_asgN, k_ret, k_seqR, k_seqN, k_cons, k_cons2, k_cb, k_cn, k_cp, k_frz, k_par, k_par2, k_forV, k_truB, k_truT, k_not, k_orF, k_andT, k_andF, k_orT, k_ifT, k_ifF, k_ifeT, k_ifeF, i_ge, i_sub, i_neg, i_eq, i_ne, in_pr, nin_pr, pl_0, pl_1, pl_2, pr_0, pr_1, R.bind, k_tup, k_lst, List.length_cons, List.length_nil, Nat.reduceAdd, Nat.reduceLeDiff, decide_true, decide_false, Bool.not_true, Bool.not_false, Bool.true_and, Bool.false_and, Bool.and_true, Bool.and_false, Bool.or_true, Bool.or_false, if_true, if_false, Bool.false_eq_true, wipeE, tup_lst, v_yes, len_tup, i_lt, i_gt, i_add, k_asgT3, k_asgP, Bool.false_or, Bool.true_or]
    rfl
  · exact it_rg2 rfl rfl (rg_lets s)
  · exact len_lets s
  · intro x hx
    have ho := mem_let.mp hx
    simp only [runF, List.map_cons, List.map_nil, List.cons_append, List.nil_append, Nat.reduceSub, List.replicate_succ, List.replicate_zero, v_seq, v_if, v_tof, v_op, v_un, v_var, v_c, v_ret, v_nx, v_asg, v_and, v_or, v_not, v_nil, v_cons, v_tup, v_lst, v_frz, v_cb, v_cn, v_cp, v_ife, v_par, v_for, v_tru, List.getElem?_cons_zero, List.getElem?_cons_succ, List.set_cons_zero, List.set_cons_succ, k_var, k_op, k_op2, k_un, k_some, k_tof, k_asgN, k_ret, k_seqR, k_seqN, k_cons, k_cons2, k_cb, k_cn, k_cp, k_frz, k_par, k_par2, k_forV, k_truB, k_truT, k_not, k_orF, k_andT, k_andF, k_orT, k_ifT, k_ifF, k_ifeT, k_ifeF, i_ge, i_sub, i_neg, i_eq, i_ne, in_pr, nin_pr, pl_0, pl_1, pl_2, pr_0, pr_1, R.bind, k_tup, k_lst, List.length_cons, List.length_nil, Nat.reduceAdd, Nat.reduceLeDiff, decide_true, decide_false, Bool.not_true, Bool.not_false, Bool.true_and, Bool.false_and, Bool.and_true, Bool.and_false, Bool.or_true, Bool.or_false, if_true, if_false, Bool.false_eq_true, wipeE, tup_lst, v_yes, len_tup, i_lt, i_gt, i_add, k_asgT3, k_asgP, Bool.false_or, Bool.true_or, ap_lends ho]
    exact ⟨trivial, fun _ => trivial⟩
theorem ap_lfirst {o : Option Int} : appP f__law_first [.lst (o.toList.map D.int)] = some (optZ o) := by
  refine app_ok (st := []) ?_ (d := optZ o) ?_ out_optZ
  · cases o <;> rfl
  · simp only [f__law_first, b__law_first, runF, List.map_cons, List.map_nil, List.cons_append, List.nil_append, Nat.reduceSub, List.replicate_succ, List.replicate_zero, v_seq, v_if, v_tof, v_op, v_un, v_var, v_c, v_ret, v_nx, v_asg, v_and, v_or, v_not, v_nil, v_cons, v_tup, v_lst, v_frz, v_cb, v_cn, v_cp, v_ife, v_par, v_for, v_tru, List.getElem?_cons_zero, List.getElem?_cons_succ, List.set_cons_zero, List.set_cons_succ, k_var, k_op, k_op2, k_un, k_some, k_tof, k_asgN, k_ret, k_seqR, k_seqN, k_cons, k_cons2, k_cb, k_cn, k_cp, k_frz, k_par, k_par2, k_forV, k_truB, k_truT, k_not, k_orF, k_andT, k_andF, k_orT, k_ifT, k_ifF, k_ifeT, k_ifeF, i_ge, i_sub, i_neg, i_eq, i_ne, in_pr, nin_pr, pl_0, pl_1, pl_2, pr_0, pr_1, R.bind, k_tup, k_lst, List.length_cons, List.length_nil, Nat.reduceAdd, Nat.reduceLeDiff, decide_true, decide_false, Bool.not_true, Bool.not_false, Bool.true_and, Bool.false_and, Bool.and_true, Bool.and_false, Bool.or_true, Bool.or_false, if_true, if_false, Bool.false_eq_true, wipeE, tup_lst, v_yes, len_tup, i_lt, i_gt, i_add, k_asgT3, k_asgP, Bool.false_or, Bool.true_or, eq_nil]
    cases o with
    | none => simp only [runF, List.map_cons, List.map_nil, List.cons_append, List.nil_append, Nat.reduceSub, List.replicate_succ, List.replicate_zero, v_seq, v_if, v_tof, v_op, v_un, v_var, v_c, v_ret, v_nx, v_asg, v_and, v_or, v_not, v_nil, v_cons, v_tup, v_lst, v_frz, v_cb, v_cn, v_cp, v_ife, v_par, v_for, v_tru, List.getElem?_cons_zero, List.getElem?_cons_succ, List.set_cons_zero, List.set_cons_succ, k_var, k_op, k_op2, k_un, k_some, k_tof, k_asgN, k_ret, k_seqR, k_seqN, k_cons, k_cons2, k_cb, k_cn, k_cp, k_frz, k_par, k_par2, k_forV, k_truB, k_truT, k_not, k_orF, k_andT, k_andF, k_orT, k_ifT, k_ifF, k_ifeT, k_ifeF, i_ge, i_sub, i_neg, i_eq, i_ne, in_pr, nin_pr, pl_0, pl_1, pl_2, pr_0, pr_1, R.bind, k_tup, k_lst, List.length_cons, List.length_nil, Nat.reduceAdd, Nat.reduceLeDiff, decide_true, decide_false, Bool.not_true, Bool.not_false, Bool.true_and, Bool.false_and, Bool.and_true, Bool.and_false, Bool.or_true, Bool.or_false, if_true, if_false, Bool.false_eq_true, wipeE, tup_lst, v_yes, len_tup, i_lt, i_gt, i_add, k_asgT3, k_asgP, Bool.false_or, Bool.true_or, Option.toList_none, List.isEmpty_nil, optZ]
    | some x =>
      simp only [runF, List.map_cons, List.map_nil, List.cons_append, List.nil_append, Nat.reduceSub, List.replicate_succ, List.replicate_zero, v_seq, v_if, v_tof, v_op, v_un, v_var, v_c, v_ret, v_nx, v_asg, v_and, v_or, v_not, v_nil, v_cons, v_tup, v_lst, v_frz, v_cb, v_cn, v_cp, v_ife, v_par, v_for, v_tru, List.getElem?_cons_zero, List.getElem?_cons_succ, List.set_cons_zero, List.set_cons_succ, k_var, k_op, k_op2, k_un, k_some, k_tof, k_asgN, k_ret, k_seqR, k_seqN, k_cons, k_cons2, k_cb, k_cn, k_cp, k_frz, k_par, k_par2, k_forV, k_truB, k_truT, k_not, k_orF, k_andT, k_andF, k_orT, k_ifT, k_ifF, k_ifeT, k_ifeF, i_ge, i_sub, i_neg, i_eq, i_ne, in_pr, nin_pr, pl_0, pl_1, pl_2, pr_0, pr_1, R.bind, k_tup, k_lst, List.length_cons, List.length_nil, Nat.reduceAdd, Nat.reduceLeDiff, decide_true, decide_false, Bool.not_true, Bool.not_false, Bool.true_and, Bool.false_and, Bool.and_true, Bool.and_false, Bool.or_true, Bool.or_false, if_true, if_false, Bool.false_eq_true, wipeE, tup_lst, v_yes, len_tup, i_lt, i_gt, i_add, k_asgT3, k_asgP, Bool.false_or, Bool.true_or, Option.toList_some, List.isEmpty_cons, optZ]
      rfl
mutual
theorem fit_pur : ∀ {d : D} {n : Nat}, fit d n = true → pur d = true
  | .non, _, _ => rfl
  | .bl _, _, _ => rfl
  | .int _, _, _ => rfl
  | .str _, _, _ => rfl
  | .tup xs, 0, h => by simp [fit] at h
  | .tup xs, n + 1, h => fits_purs (n := n) (by simpa [fit] using h)
  | .lst xs, 0, h => by simp [fit] at h
  | .lst xs, n + 1, h => fits_purs (n := n) (by simpa [fit] using h)
  | .ref _, _, h => by simp [fit] at h
  | .fn _, _, h => by simp [fit] at h
  | .rng _ _, _, h => by simp [fit] at h
theorem fits_purs : ∀ {ds : List D} {n : Nat}, fits ds n = true → purs ds = true
  | [], _, _ => rfl
  | d :: ds, n, h => by
    simp only [fits, Bool.and_eq_true] at h
    show (pur d && purs ds) = true
    rw [fit_pur h.1, fits_purs h.2]
    rfl
end
/-- what is told is due -/
theorem ap_like {d : D} (h : reprOk d = true) : appP f__law_like [d, d] = some (.bl true) := by
  unfold reprOk at h
  rw [Bool.and_eq_true, Bool.and_eq_true] at h
  have hd : ∀ st : Store, deref st d = d := fun st => by
    cases d <;> first | rfl | simp [fit] at h
  have hp : pur d = true := fit_pur h.1.1
  refine app_ok (st := []) (by show (pur d && (pur d && true)) = true; rw [hp]; rfl) (d := .bl true) ?_ rfl
  simp only [f__law_like, b__law_like, runF, List.map_cons, List.map_nil, List.cons_append, List.nil_append, Nat.reduceSub, List.replicate_succ, List.replicate_zero, v_seq, v_if, v_tof, v_op, v_un, v_var, v_c, v_ret, v_nx, v_asg, v_and, v_or, v_not, v_nil, v_cons, v_tup, v_lst, v_frz, v_cb, v_cn, v_cp, v_ife, v_par, v_for, v_tru, List.getElem?_cons_zero, List.getElem?_cons_succ, List.set_cons_zero, List.set_cons_succ, k_var, k_op, k_op2, k_un, k_some, k_tof, k_asgN, k_ret, k_seqR, k_seqN, k_cons, k_cons2, k_cb, k_cn, k_cp, k_frz, k_par, k_par2, k_forV, k_truB, k_truT, k_not, k_orF, k_andT, k_andF, k_orT, k_ifT, k_ifF, k_ifeT, k_ifeF, i_ge, i_sub, i_neg, i_eq, i_ne, in_pr, nin_pr, pl_0, pl_1, pl_2, pr_0, pr_1, R.bind, k_tup, k_lst, List.length_cons, List.length_nil, Nat.reduceAdd, Nat.reduceLeDiff, decide_true, decide_false, Bool.not_true, Bool.not_false, Bool.true_and, Bool.false_and, Bool.and_true, Bool.and_false, Bool.or_true, Bool.or_false, if_true, if_false, Bool.false_eq_true, wipeE, tup_lst, v_yes, len_tup, i_lt, i_gt, i_add, k_asgT3, k_asgP, Bool.false_or, Bool.true_or]
  have e : eLike (eVar 0) (eVar 1) [some d, some d] [] = .ok (.bl true) [] := by
    unfold eLike
    show (if reprOk (deref [] d) = true then R.bind (R.ok d []) (fun b st2 => if ideq (deref [] d) (deref st2 b) = true then R.ok (D.bl true) st2 else .no) else .no) = _
    rw [hd, if_pos (by unfold reprOk; rw [h.1.1, h.1.2, h.2]; rfl)]
    show (if ideq d (deref [] d) = true then R.ok (D.bl true) [] else .no) = _
    rw [hd, ideq_self d 40 h.1.1, if_pos rfl]
  rw [e]
  rfl
end FK

set_option Elab.async false
set_option linter.all false
set_option maxRecDepth 100000
namespace FK
open DL
/-! what can be told by its text -/
def smI (i : Int) : Prop := i.natAbs < 10000000000000000000000000000000000000000
theorem sm_of {i : Int} (h1 : -100000 ≤ i) (h2 : i ≤ 100000) : smI i := by unfold smI; omega
structure Tell (d : D) (n b : Nat) : Prop where
  f : fit d n = true
  s : shortD d = true
  b : bulkD d ≤ b
structure Tells (ds : List D) (n b : Nat) : Prop where
  f : fits ds n = true
  s : shortDs ds = true
  b : bulkDs ds ≤ b
theorem Tell.ok {d : D} {b : Nat} (h : Tell d 40 b) (hb : b ≤ 300000) : reprOk d = true := by
  unfold reprOk
  have := h.b
  rw [h.f, h.s, Nat.ble_eq_true_of_le (by omega)]
  rfl
theorem Tells.nil {n b : Nat} : Tells [] n b := ⟨rfl, rfl, Nat.zero_le _⟩
theorem Tells.cons {d : D} {ds : List D} {n b c : Nat} (h : Tell d n b) (t : Tells ds n c) : Tells (d :: ds) n (b + 1 + c) := by
  refine ⟨?_, ?_, ?_⟩
  · show (fit d n && fits ds n) = true
    rw [h.f, t.f]
    rfl
  · show (shortD d && shortDs ds) = true
    rw [h.s, t.s]
    rfl
  · show bulkD d + 1 + bulkDs ds ≤ _
    have := h.b
    have := t.b
    omega
theorem Tells.tup {ds : List D} {n b : Nat} (t : Tells ds n b) : Tell (.tup ds) (n + 1) b := ⟨by simp only [fit]; exact t.f, by simp only [shortD]; exact t.s, by simp only [bulkD]; exact t.b⟩
theorem Tell.int {i : Int} {n b : Nat} (h : smI i) : Tell (.int i) n b := ⟨rfl, by simp only [shortD, decide_eq_true_eq]; exact h, Nat.zero_le _⟩
theorem Tell.bl {i : Bool} {n b : Nat} : Tell (.bl i) n b := ⟨rfl, rfl, Nat.zero_le _⟩
theorem Tell.non {n b : Nat} : Tell .non n b := ⟨rfl, rfl, Nat.zero_le _⟩
theorem Tell.optZ {o : Option Int} {n b : Nat} (h : ∀ i, o = some i → smI i) : Tell (optZ o) n b := by
  cases o with
  | none => exact .non
  | some i => exact .int (h i rfl)
theorem Tell.negZ {o : Option Int} {n b : Nat} (h : ∀ i, o = some i → smI (-1 - i)) : Tell (negZ o) n b := by
  cases o with
  | none => exact .non
  | some i => exact .int (h i rfl)
theorem Tells.ints {n : Nat} : ∀ {xs : List Int}, (∀ x ∈ xs, smI x) → Tells (xs.map D.int) n xs.length
  | [], _ => .nil
  | x :: xs, h => by
    have := Tells.cons (n := n) (b := 0) (.int (h x (List.mem_cons_self ..))) (Tells.ints (xs := xs) fun y hy => h y (List.mem_cons_of_mem _ hy))
    refine ⟨this.f, this.s, Nat.le_trans this.b ?_⟩
    rw [List.length_cons]
    omega
theorem Tell.pr {p : Int × Int} {n : Nat} (h1 : smI p.1) (h2 : smI p.2) : Tell (prD p) (n + 1) 2 := Tells.tup (.cons (b := 0) (.int h1) (.cons (b := 0) (.int h2) (.nil (b := 0))))
theorem Tells.prs {n : Nat} : ∀ {ps : List (Int × Int)}, (∀ x ∈ ps, smI x.1 ∧ smI x.2) → Tells (ps.map prD) (n + 1) (3 * ps.length)
  | [], _ => .nil
  | x :: xs, h => by
    have q := h x (List.mem_cons_self ..)
    have := Tells.cons (n := n + 1) (.pr q.1 q.2) (Tells.prs (n := n) (ps := xs) fun y hy => h y (List.mem_cons_of_mem _ hy))
    refine ⟨this.f, this.s, Nat.le_trans this.b ?_⟩
    rw [List.length_cons]
    omega
theorem sm_rows {P : Pl} (h : Gentle P) : ∀ x ∈ P.rows, smI x.1 ∧ smI x.2 := fun x hx => by
  obtain ⟨a, a0, a1, rfl⟩ := mem_atR hx
  have := h.rws.bnd a a0 a1
  have := h.n2
  exact ⟨sm_of (by omega) (by omega), sm_of (by omega) (by omega)⟩
theorem sm_pairs {P : Pl} (h : Gentle P) : ∀ x ∈ P.pairs, smI x.1 ∧ smI x.2 := fun ⟨x, y⟩ hx => by
  have := h.pr x y hx
  have := h.rws.len
  exact ⟨sm_of (by omega) (by omega), sm_of (by omega) (by omega)⟩
theorem tell_pl {P : Pl} (h : Gentle P) : reprOk (plD P) = true := by
  have h1 := h.n1
  have h2 := h.n2
  have hl := h.rws.len
  have hp := h.plen
  exact Tell.ok (Tells.tup (.cons (b := 0) (.int (sm_of (by omega) (by omega))) (.cons (Tells.tup (Tells.prs (n := 37) (sm_rows h))) (.cons (Tells.tup (Tells.prs (n := 37) (sm_pairs h))) (.nil (b := 0)))))) (by omega)
section
variable {P : Pl} (h : Gentle P)
include h
theorem sm_in {a : Int} (ha : inA P a) : smI a ∧ smI (-1 - a) := by
  have := h.rws.len
  unfold inA at ha
  exact ⟨sm_of (by omega) (by omega), sm_of (by omega) (by omega)⟩
theorem sm_okL {a : Int} (ha : okL P a) : smI a := by
  have := h.rws.len
  unfold okL at ha
  exact sm_of (by omega) (by omega)
theorem nil_in {a k : Int} (e : nilI P a = some k) : inA P k := by
  have := h.pr _ _ ((nil_iff h).mp e)
  exact ⟨this.2.2.1, this.2.2.2.1⟩
theorem nilA_in {a k : Int} (e : nilAheadI P a = some k) : inA P k := by
  have := h.pr _ _ ((nilAhead_iff h).mp e)
  exact ⟨this.1, this.2.1⟩
end
theorem find_in {P : Pl} {p : Int → Bool} {k : Int} (e : (arrI P).find? p = some k) : inA P k := mem_arr.mp (List.mem_of_find?_eq_some e)
theorem tell2 {a b : D} (h1 : Tell a 39 0) (h2 : Tell b 39 0) : reprOk (.tup [a, b]) = true := Tell.ok (Tells.tup (.cons h1 (.cons h2 (.nil (b := 0))))) (by omega)
theorem eq_optZ {o : Option Int} {a : Int} {st : Store} : opEq st (optZ o) (.int a) = some (.bl (decide (o = some a))) := by
  cases o with
  | none => rfl
  | some x =>
    show some (D.bl (decide (x = a))) = _
    simp
theorem isN_Z {o : Option Int} {st : Store} : opIsN st (optZ o) .non = some (.bl o.isNone) := by cases o <;> rfl
theorem notN_Z {o : Option Int} {st : Store} : opNotN st (optZ o) .non = some (.bl o.isSome) := by cases o <;> rfl
theorem listRg {b : Int} {f : Ev} {env : Ent} {st : Store} (h : f env st = .ok (.int b) st) (ok : rgOk 0 b = true) : nListRg (gRg1 f) env st = .ok ((rgL 0 b).map D.int) st := by
  unfold nListRg gRg1
  rw [h]
  show (if rgOk 0 b = true then R.ok (rgD 0 b) st else .no) = _
  rw [if_pos ok, rgD_L]
theorem first_filter {xs : List Int} {c : Int → Bool} {o : Option Int} (h : xs.filter c = o.toList) : appP f__law_first [.lst ((xs.filter c).map D.int)] = some (optZ o) := by
  rw [h]
  exact ap_lfirst
theorem map_int {xs : List Int} : (xs.map fun i => D.int i) = xs.map D.int := rfl
theorem lt2_16 : (2 : Nat) ≤ 16777216 := by decide
end FK

set_option Elab.async false
set_option linter.all false
set_option maxRecDepth 100000
namespace FK
open DL
section
variable {P : Pl} (h : Gentle P)
include h
theorem ap_atold {a : Int} (ha : inA P a) : appP f__law_arrow_told [plD P, .int a] = some (.bl true) := by
  refine app_ok (st := []) (purs_pl rfl) (d := .bl true) ?_ rfl
  have s := h.small
  have hc : ∀ x ∈ arrI P, inA P x := fun x hx => mem_arr.mp hx
  have rl := listRg (b := (P.rows.length : Nat)) (f := eCallB opLen (aCons (eOp opIx (eVar 0) (eC (.int 1))) aNil)) (env := [some (plD P), some (.int a), none, none, none, none, none, none, none, none]) (st := []) (by simp only [runF, List.map_cons, List.map_nil, List.cons_append, List.nil_append, Nat.reduceSub, List.replicate_succ, List.replicate_zero, v_seq, v_if, v_tof, v_op, v_un, v_var, v_c, v_ret, v_nx, v_asg, v_and, v_or, v_not, v_nil, v_cons, v_tup, v_lst, v_frz, v_cb, v_cn, v_cp, v_ife, v_par, v_for, v_tru, List.getElem?_cons_zero, List.getElem?_cons_succ, List.set_cons_zero, List.set_cons_succ, k_var, k_op, k_op2, k_un, k_some, k_tof, k_asgN, k_ret, k_seqR, k_seqN, k_cons, k_cons2, k_cb, k_cn, k_cp, k_frz, k_par, k_par2, k_forV, k_truB, k_truT, k_not, k_orF, k_andT, k_andF, k_orT, k_ifT, k_ifF, k_ifeT, k_ifeF, i_ge, i_sub, i_neg, i_eq, i_ne, in_pr, nin_pr, pl_0, pl_1, pl_2, pr_0, pr_1, R.bind, k_tup, k_lst, List.length_cons, List.length_nil, Nat.reduceAdd, Nat.reduceLeDiff, decide_true, decide_false, Bool.not_true, Bool.not_false, Bool.true_and, Bool.false_and, Bool.and_true, Bool.and_false, Bool.or_true, Bool.or_false, if_true, if_false, Bool.false_eq_true, wipeE, tup_lst, v_yes, len_tup, i_lt, i_gt, i_add, k_asgT3, k_asgP, Bool.false_or, Bool.true_or]) (rg_rows s)
  have ra := row_pos ha
  have l1 : appP f__law_like [.tup [optZ (nextI P a), optZ (nilI P a)], .tup [optZ (nextI P a), optZ (nilI P a)]] = some (.bl true) := ap_like (tell2 (.optZ fun i hi => (sm_in h (next_in hi)).1) (.optZ fun i hi => (sm_in h (nil_in h hi)).1))
  have l2 : appP f__law_like [.tup [optZ (aheadI P a), optZ (nilAheadI P a)], .tup [optZ (aheadI P a), optZ (nilAheadI P a)]] = some (.bl true) := ap_like (tell2 (.optZ fun i hi => (sm_in h (find_in hi)).1) (.optZ fun i hi => (sm_in h (nilA_in h hi)).1))
  have l3 : appP f__law_like [.tup [optZ (begunI P a), negZ (endedI P a)], .tup [optZ (begunI P a), negZ (endedI P a)]] = some (.bl true) := ap_like (tell2 (.optZ fun i hi => (sm_in h (find_in hi)).1) (.negZ fun i hi => (sm_in h (find_in hi)).2))
  simp only [f__law_arrow_told, b__law_arrow_told, runF, List.map_cons, List.map_nil, List.cons_append, List.nil_append, Nat.reduceSub, List.replicate_succ, List.replicate_zero, v_seq, v_if, v_tof, v_op, v_un, v_var, v_c, v_ret, v_nx, v_asg, v_and, v_or, v_not, v_nil, v_cons, v_tup, v_lst, v_frz, v_cb, v_cn, v_cp, v_ife, v_par, v_for, v_tru, List.getElem?_cons_zero, List.getElem?_cons_succ, List.set_cons_zero, List.set_cons_succ, k_var, k_op, k_op2, k_un, k_some, k_tof, k_asgN, k_ret, k_seqR, k_seqN, k_cons, k_cons2, k_cb, k_cn, k_cp, k_frz, k_par, k_par2, k_forV, k_truB, k_truT, k_not, k_orF, k_andT, k_andF, k_orT, k_ifT, k_ifF, k_ifeT, k_ifeF, i_ge, i_sub, i_neg, i_eq, i_ne, in_pr, nin_pr, pl_0, pl_1, pl_2, pr_0, pr_1, R.bind, k_tup, k_lst, List.length_cons, List.length_nil, Nat.reduceAdd, Nat.reduceLeDiff, decide_true, decide_false, Bool.not_true, Bool.not_false, Bool.true_and, Bool.false_and, Bool.and_true, Bool.and_false, Bool.or_true, Bool.or_false, if_true, if_false, Bool.false_eq_true, wipeE, tup_lst, v_yes, len_tup, i_lt, i_gt, i_add, k_asgT3, k_asgP, Bool.false_or, Bool.true_or, rl, ap_lnext h ha, ap_lnil s, ap_next ha, ap_nil, l1]
  rw [lc_ints (xs := arrI P) (c := fun x => decide (nextI P x = some a)) (fv := D.int) (it_lst rfl) (len_arr s) (fun x hx => by
    simp only [runF, List.map_cons, List.map_nil, List.cons_append, List.nil_append, Nat.reduceSub, List.replicate_succ, List.replicate_zero, v_seq, v_if, v_tof, v_op, v_un, v_var, v_c, v_ret, v_nx, v_asg, v_and, v_or, v_not, v_nil, v_cons, v_tup, v_lst, v_frz, v_cb, v_cn, v_cp, v_ife, v_par, v_for, v_tru, List.getElem?_cons_zero, List.getElem?_cons_succ, List.set_cons_zero, List.set_cons_succ, k_var, k_op, k_op2, k_un, k_some, k_tof, k_asgN, k_ret, k_seqR, k_seqN, k_cons, k_cons2, k_cb, k_cn, k_cp, k_frz, k_par, k_par2, k_forV, k_truB, k_truT, k_not, k_orF, k_andT, k_andF, k_orT, k_ifT, k_ifF, k_ifeT, k_ifeF, i_ge, i_sub, i_neg, i_eq, i_ne, in_pr, nin_pr, pl_0, pl_1, pl_2, pr_0, pr_1, R.bind, k_tup, k_lst, List.length_cons, List.length_nil, Nat.reduceAdd, Nat.reduceLeDiff, decide_true, decide_false, Bool.not_true, Bool.not_false, Bool.true_and, Bool.false_and, Bool.and_true, Bool.and_false, Bool.or_true, Bool.or_false, if_true, if_false, Bool.false_eq_true, wipeE, tup_lst, v_yes, len_tup, i_lt, i_gt, i_add, k_asgT3, k_asgP, Bool.false_or, Bool.true_or, ap_lnext h (hc x hx), eq_optZ]
    exact ⟨trivial, fun _ => trivial⟩)]
  simp only [runF, List.map_cons, List.map_nil, List.cons_append, List.nil_append, Nat.reduceSub, List.replicate_succ, List.replicate_zero, v_seq, v_if, v_tof, v_op, v_un, v_var, v_c, v_ret, v_nx, v_asg, v_and, v_or, v_not, v_nil, v_cons, v_tup, v_lst, v_frz, v_cb, v_cn, v_cp, v_ife, v_par, v_for, v_tru, List.getElem?_cons_zero, List.getElem?_cons_succ, List.set_cons_zero, List.set_cons_succ, k_var, k_op, k_op2, k_un, k_some, k_tof, k_asgN, k_ret, k_seqR, k_seqN, k_cons, k_cons2, k_cb, k_cn, k_cp, k_frz, k_par, k_par2, k_forV, k_truB, k_truT, k_not, k_orF, k_andT, k_andF, k_orT, k_ifT, k_ifF, k_ifeT, k_ifeF, i_ge, i_sub, i_neg, i_eq, i_ne, in_pr, nin_pr, pl_0, pl_1, pl_2, pr_0, pr_1, R.bind, k_tup, k_lst, List.length_cons, List.length_nil, Nat.reduceAdd, Nat.reduceLeDiff, decide_true, decide_false, Bool.not_true, Bool.not_false, Bool.true_and, Bool.false_and, Bool.and_true, Bool.and_false, Bool.or_true, Bool.or_false, if_true, if_false, Bool.false_eq_true, wipeE, tup_lst, v_yes, len_tup, i_lt, i_gt, i_add, k_asgT3, k_asgP, Bool.false_or, Bool.true_or, first_filter (law_ahead h ha)]
  rw [lc_ints (xs := arrI P) (c := fun x => decide (nilI P x = some a)) (fv := D.int) (it_lst rfl) (len_arr s) (fun x hx => by
    simp only [runF, List.map_cons, List.map_nil, List.cons_append, List.nil_append, Nat.reduceSub, List.replicate_succ, List.replicate_zero, v_seq, v_if, v_tof, v_op, v_un, v_var, v_c, v_ret, v_nx, v_asg, v_and, v_or, v_not, v_nil, v_cons, v_tup, v_lst, v_frz, v_cb, v_cn, v_cp, v_ife, v_par, v_for, v_tru, List.getElem?_cons_zero, List.getElem?_cons_succ, List.set_cons_zero, List.set_cons_succ, k_var, k_op, k_op2, k_un, k_some, k_tof, k_asgN, k_ret, k_seqR, k_seqN, k_cons, k_cons2, k_cb, k_cn, k_cp, k_frz, k_par, k_par2, k_forV, k_truB, k_truT, k_not, k_orF, k_andT, k_andF, k_orT, k_ifT, k_ifF, k_ifeT, k_ifeF, i_ge, i_sub, i_neg, i_eq, i_ne, in_pr, nin_pr, pl_0, pl_1, pl_2, pr_0, pr_1, R.bind, k_tup, k_lst, List.length_cons, List.length_nil, Nat.reduceAdd, Nat.reduceLeDiff, decide_true, decide_false, Bool.not_true, Bool.not_false, Bool.true_and, Bool.false_and, Bool.and_true, Bool.and_false, Bool.or_true, Bool.or_false, if_true, if_false, Bool.false_eq_true, wipeE, tup_lst, v_yes, len_tup, i_lt, i_gt, i_add, k_asgT3, k_asgP, Bool.false_or, Bool.true_or, ap_lnil s, eq_optZ]
    exact ⟨trivial, fun _ => trivial⟩)]
  simp only [runF, List.map_cons, List.map_nil, List.cons_append, List.nil_append, Nat.reduceSub, List.replicate_succ, List.replicate_zero, v_seq, v_if, v_tof, v_op, v_un, v_var, v_c, v_ret, v_nx, v_asg, v_and, v_or, v_not, v_nil, v_cons, v_tup, v_lst, v_frz, v_cb, v_cn, v_cp, v_ife, v_par, v_for, v_tru, List.getElem?_cons_zero, List.getElem?_cons_succ, List.set_cons_zero, List.set_cons_succ, k_var, k_op, k_op2, k_un, k_some, k_tof, k_asgN, k_ret, k_seqR, k_seqN, k_cons, k_cons2, k_cb, k_cn, k_cp, k_frz, k_par, k_par2, k_forV, k_truB, k_truT, k_not, k_orF, k_andT, k_andF, k_orT, k_ifT, k_ifF, k_ifeT, k_ifeF, i_ge, i_sub, i_neg, i_eq, i_ne, in_pr, nin_pr, pl_0, pl_1, pl_2, pr_0, pr_1, R.bind, k_tup, k_lst, List.length_cons, List.length_nil, Nat.reduceAdd, Nat.reduceLeDiff, decide_true, decide_false, Bool.not_true, Bool.not_false, Bool.true_and, Bool.false_and, Bool.and_true, Bool.and_false, Bool.or_true, Bool.or_false, if_true, if_false, Bool.false_eq_true, wipeE, tup_lst, v_yes, len_tup, i_lt, i_gt, i_add, k_asgT3, k_asgP, Bool.false_or, Bool.true_or, first_filter (law_nilAhead h), ap_ahead ha, ap_nilAhead, l2]
  rw [lc_ints (xs := arrI P) (c := fun k => !decide (k = a) && decide ((atR P.rows k).1 = (atR P.rows a).1)) (fv := D.int) (it_lst rfl) (len_arr s) (fun x hx => by
    have rx := row_pos (hc x hx)
    cases q : decide (x = a) <;> simp only [runF, List.map_cons, List.map_nil, List.cons_append, List.nil_append, Nat.reduceSub, List.replicate_succ, List.replicate_zero, v_seq, v_if, v_tof, v_op, v_un, v_var, v_c, v_ret, v_nx, v_asg, v_and, v_or, v_not, v_nil, v_cons, v_tup, v_lst, v_frz, v_cb, v_cn, v_cp, v_ife, v_par, v_for, v_tru, List.getElem?_cons_zero, List.getElem?_cons_succ, List.set_cons_zero, List.set_cons_succ, k_var, k_op, k_op2, k_un, k_some, k_tof, k_asgN, k_ret, k_seqR, k_seqN, k_cons, k_cons2, k_cb, k_cn, k_cp, k_frz, k_par, k_par2, k_forV, k_truB, k_truT, k_not, k_orF, k_andT, k_andF, k_orT, k_ifT, k_ifF, k_ifeT, k_ifeF, i_ge, i_sub, i_neg, i_eq, i_ne, in_pr, nin_pr, pl_0, pl_1, pl_2, pr_0, pr_1, R.bind, k_tup, k_lst, List.length_cons, List.length_nil, Nat.reduceAdd, Nat.reduceLeDiff, decide_true, decide_false, Bool.not_true, Bool.not_false, Bool.true_and, Bool.false_and, Bool.and_true, Bool.and_false, Bool.or_true, Bool.or_false, if_true, if_false, Bool.false_eq_true, wipeE, tup_lst, v_yes, len_tup, i_lt, i_gt, i_add, k_asgT3, k_asgP, Bool.false_or, Bool.true_or, q, ix_map (hc x hx).1 rx, ix_map ha.1 ra]
    · exact ⟨trivial, fun _ => trivial⟩
    · exact ⟨trivial, fun _ => trivial⟩)]
  simp only [runF, List.map_cons, List.map_nil, List.cons_append, List.nil_append, Nat.reduceSub, List.replicate_succ, List.replicate_zero, v_seq, v_if, v_tof, v_op, v_un, v_var, v_c, v_ret, v_nx, v_asg, v_and, v_or, v_not, v_nil, v_cons, v_tup, v_lst, v_frz, v_cb, v_cn, v_cp, v_ife, v_par, v_for, v_tru, List.getElem?_cons_zero, List.getElem?_cons_succ, List.set_cons_zero, List.set_cons_succ, k_var, k_op, k_op2, k_un, k_some, k_tof, k_asgN, k_ret, k_seqR, k_seqN, k_cons, k_cons2, k_cb, k_cn, k_cp, k_frz, k_par, k_par2, k_forV, k_truB, k_truT, k_not, k_orF, k_andT, k_andF, k_orT, k_ifT, k_ifF, k_ifeT, k_ifeF, i_ge, i_sub, i_neg, i_eq, i_ne, in_pr, nin_pr, pl_0, pl_1, pl_2, pr_0, pr_1, R.bind, k_tup, k_lst, List.length_cons, List.length_nil, Nat.reduceAdd, Nat.reduceLeDiff, decide_true, decide_false, Bool.not_true, Bool.not_false, Bool.true_and, Bool.false_and, Bool.and_true, Bool.and_false, Bool.or_true, Bool.or_false, if_true, if_false, Bool.false_eq_true, wipeE, tup_lst, v_yes, len_tup, i_lt, i_gt, i_add, k_asgT3, k_asgP, Bool.false_or, Bool.true_or, first_filter (law_begun h ha)]
  rw [lc_ints (xs := arrI P) (c := fun k => !decide (k = a) && decide ((atR P.rows k).2 = (atR P.rows a).2)) (fv := D.int) (it_lst rfl) (len_arr s) (fun x hx => by
    have rx := row_pos (hc x hx)
    cases q : decide (x = a) <;> simp only [runF, List.map_cons, List.map_nil, List.cons_append, List.nil_append, Nat.reduceSub, List.replicate_succ, List.replicate_zero, v_seq, v_if, v_tof, v_op, v_un, v_var, v_c, v_ret, v_nx, v_asg, v_and, v_or, v_not, v_nil, v_cons, v_tup, v_lst, v_frz, v_cb, v_cn, v_cp, v_ife, v_par, v_for, v_tru, List.getElem?_cons_zero, List.getElem?_cons_succ, List.set_cons_zero, List.set_cons_succ, k_var, k_op, k_op2, k_un, k_some, k_tof, k_asgN, k_ret, k_seqR, k_seqN, k_cons, k_cons2, k_cb, k_cn, k_cp, k_frz, k_par, k_par2, k_forV, k_truB, k_truT, k_not, k_orF, k_andT, k_andF, k_orT, k_ifT, k_ifF, k_ifeT, k_ifeF, i_ge, i_sub, i_neg, i_eq, i_ne, in_pr, nin_pr, pl_0, pl_1, pl_2, pr_0, pr_1, R.bind, k_tup, k_lst, List.length_cons, List.length_nil, Nat.reduceAdd, Nat.reduceLeDiff, decide_true, decide_false, Bool.not_true, Bool.not_false, Bool.true_and, Bool.false_and, Bool.and_true, Bool.and_false, Bool.or_true, Bool.or_false, if_true, if_false, Bool.false_eq_true, wipeE, tup_lst, v_yes, len_tup, i_lt, i_gt, i_add, k_asgT3, k_asgP, Bool.false_or, Bool.true_or, q, ix_map (hc x hx).1 rx, ix_map ha.1 ra]
    · exact ⟨trivial, fun _ => trivial⟩
    · exact ⟨trivial, fun _ => trivial⟩)]
  simp only [runF, List.map_cons, List.map_nil, List.cons_append, List.nil_append, Nat.reduceSub, List.replicate_succ, List.replicate_zero, v_seq, v_if, v_tof, v_op, v_un, v_var, v_c, v_ret, v_nx, v_asg, v_and, v_or, v_not, v_nil, v_cons, v_tup, v_lst, v_frz, v_cb, v_cn, v_cp, v_ife, v_par, v_for, v_tru, List.getElem?_cons_zero, List.getElem?_cons_succ, List.set_cons_zero, List.set_cons_succ, k_var, k_op, k_op2, k_un, k_some, k_tof, k_asgN, k_ret, k_seqR, k_seqN, k_cons, k_cons2, k_cb, k_cn, k_cp, k_frz, k_par, k_par2, k_forV, k_truB, k_truT, k_not, k_orF, k_andT, k_andF, k_orT, k_ifT, k_ifF, k_ifeT, k_ifeF, i_ge, i_sub, i_neg, i_eq, i_ne, in_pr, nin_pr, pl_0, pl_1, pl_2, pr_0, pr_1, R.bind, k_tup, k_lst, List.length_cons, List.length_nil, Nat.reduceAdd, Nat.reduceLeDiff, decide_true, decide_false, Bool.not_true, Bool.not_false, Bool.true_and, Bool.false_and, Bool.and_true, Bool.and_false, Bool.or_true, Bool.or_false, if_true, if_false, Bool.false_eq_true, wipeE, tup_lst, v_yes, len_tup, i_lt, i_gt, i_add, k_asgT3, k_asgP, Bool.false_or, Bool.true_or, first_filter (law_ended h ha), isN_Z]
  have e : ∀ st : Store, kIfE (R.ok (endedI P a).isNone st) (eC .non) (eOp opSub (eUn opNeg (eC (.int 1))) (eVar 7)) [some (plD P), some (.int a), some (.lst ((arrI P).map D.int)), some (.tup [optZ (nextI P a), optZ (nilI P a)]), some (optZ (aheadI P a)), some (optZ (nilAheadI P a)), some (optZ (begunI P a)), some (optZ (endedI P a)), none, none] = .ok (negZ (endedI P a)) st := fun st => by
    cases endedI P a <;> rfl
  have hr : rgL 0 (P.rows.length : Int) = arrI P := rfl
  simp only [hr, e, runF, List.map_cons, List.map_nil, List.cons_append, List.nil_append, Nat.reduceSub, List.replicate_succ, List.replicate_zero, v_seq, v_if, v_tof, v_op, v_un, v_var, v_c, v_ret, v_nx, v_asg, v_and, v_or, v_not, v_nil, v_cons, v_tup, v_lst, v_frz, v_cb, v_cn, v_cp, v_ife, v_par, v_for, v_tru, List.getElem?_cons_zero, List.getElem?_cons_succ, List.set_cons_zero, List.set_cons_succ, k_var, k_op, k_op2, k_un, k_some, k_tof, k_asgN, k_ret, k_seqR, k_seqN, k_cons, k_cons2, k_cb, k_cn, k_cp, k_frz, k_par, k_par2, k_forV, k_truB, k_truT, k_not, k_orF, k_andT, k_andF, k_orT, k_ifT, k_ifF, k_ifeT, k_ifeF, i_ge, i_sub, i_neg, i_eq, i_ne, in_pr, nin_pr, pl_0, pl_1, pl_2, pr_0, pr_1, R.bind, k_tup, k_lst, List.length_cons, List.length_nil, Nat.reduceAdd, Nat.reduceLeDiff, decide_true, decide_false, Bool.not_true, Bool.not_false, Bool.true_and, Bool.false_and, Bool.and_true, Bool.and_false, Bool.or_true, Bool.or_false, if_true, if_false, Bool.false_eq_true, wipeE, tup_lst, v_yes, len_tup, i_lt, i_gt, i_add, k_asgT3, k_asgP, Bool.false_or, Bool.true_or, ap_mate_pos ha, ap_mate_neg ha, l3]
end
end FK

set_option Elab.async false
set_option linter.all false
set_option maxRecDepth 100000
namespace FK
open DL
def kRg1 (r : R D) : R Src := r.bind fun a st1 => match a with
  | .int n => if rgOk 0 n then .ok (.vals (rgD 0 n)) st1 else .no
  | _ => .no
def kRg2b (r : R D) (a : D) : R Src := r.bind fun b st2 => match a with
  | .int i => match b with
    | .int j => if rgOk i j then .ok (.vals (rgD i j)) st2 else .no
    | _ => .no
  | _ => .no
def kRg2 (r : R D) (g : Ev) (env : Ent) : R Src := r.bind fun a st1 => kRg2b (g env st1) a
def kIt (r : R D) : R Src := r.bind fun a st1 => R.ofO (srcOf st1 a) st1
def kLrg (r : R D) : R (List D) := r.bind fun a st1 => match a with
  | .int n => if rgOk 0 n then .ok (rgD 0 n) st1 else .no
  | _ => .no
section
variable {f g : Ev} {env : Ent} {st : Store} {a b : Int} {ds : List D}
theorem v_rg1 : iRg1 f env st = kRg1 (f env st) := rfl
theorem k_rg1 : kRg1 (.ok (.int b) st) = if rgOk 0 b = true then .ok (.vals ((rgL 0 b).map D.int)) st else .no := by rw [← rgD_L]; rfl
theorem v_rg2 : iRg2 f g env st = kRg2 (f env st) g env := rfl
theorem k_rg2 : kRg2 (.ok (.int a) st) g env = kRg2b (g env st) (.int a) := rfl
theorem k_rg2b : kRg2b (.ok (.int b) st) (.int a) = if rgOk a b = true then .ok (.vals ((rgL a b).map D.int)) st else .no := by rw [← rgD_L]; rfl
theorem v_it : iSeq f env st = kIt (f env st) := rfl
theorem k_itL : kIt (.ok (.lst ds) st) = .ok (.vals ds) st := rfl
theorem k_itT : kIt (.ok (.tup ds) st) = .ok (.vals ds) st := rfl
theorem v_lrg : nListRg (gRg1 f) env st = kLrg (f env st) := by
  unfold nListRg gRg1 kLrg
  cases f env st with
  | ok d s => cases d <;> rfl
  | ex _ _ _ => rfl
  | no => rfl
theorem k_lrg : kLrg (.ok (.int b) st) = if rgOk 0 b = true then .ok ((rgL 0 b).map D.int) st else .no := by rw [← rgD_L]; rfl
end
theorem notN_i {k : Int} {st : Store} : opNotN st (.int k) .non = some (.bl true) := rfl
theorem notN_n {st : Store} : opNotN st .non .non = some (.bl false) := rfl
theorem for_ints {i : Nat} {body : EvT} {xs : List Int} {env : Ent} {st : Store} {r : R (Out × Ent)} (Inv : Ent → Store → Prop) (hf : forVals (tgN i) body (xs.map D.int) env st = r) (hI : Inv env st)
    (hb : ∀ x ∈ xs, ∀ e s, Inv e s → ∃ e2 s2, body (e.set i (some (.int x))) s = .ok (.nx, e2) s2 ∧ Inv e2 s2) : ∃ e' s', Inv e' s' ∧ r = .ok (.nx, e') s' := by
  subst hf
  exact for_all (T := tgN i) (Inv := Inv) hI fun d hd e s he => by
    obtain ⟨x, hx, rfl⟩ := List.mem_map.mp hd
    obtain ⟨e2, s2, h1, h2⟩ := hb x hx e s he
    exact ⟨_, e2, s2, rfl, h1, h2⟩
section
variable {P : Pl} (h : Gentle P)
include h
theorem ap_ltold {l : Int} (hl : okL P l) : appP f__law_letter_told [plD P, .int l] = some (.bl true) := by
  refine app_ok (st := []) (purs_pl rfl) (d := .bl true) ?_ rfl
  have s := h.small
  have fo := foll_after h hl
  have tf : Tells ((afterI P l).map D.int) 39 (afterI P l).length := Tells.ints fun x hx => sm_okL h (mem_let.mp (List.mem_filter.mp hx).1)
  have lf : (afterI P l).length ≤ 300000 := by
    refine Nat.le_trans (List.length_filter_le ..) ?_
    have := len_rgL (-(P.rows.length : Int)) P.rows.length
    have := s.rl
    unfold letrI
    omega
  have l1 : appP f__law_like [prD (lend P l), prD (lend P l)] = some (.bl true) := by
    refine ap_like (Tell.ok (b := 2) (Tell.pr (n := 39) ?_ ?_) (by omega))
    all_goals
      unfold lend
      unfold okL at hl
      split
      · have := sm_rows h _ (atR_mem (rows := P.rows) (a := -1 - l) (by omega) (by omega))
        first | exact this.1 | exact this.2
      · have := sm_rows h _ (atR_mem (rows := P.rows) (a := l) (by omega) (by omega))
        first | exact this.1 | exact this.2
  have l2 : appP f__law_like [.tup ((afterI P l).map D.int), .tup ((afterI P l).map D.int)] = some (.bl true) := ap_like (Tell.ok tf.tup lf)
  have l3 : ∀ b : Bool, appP f__law_like [.bl b, .bl b] = some (.bl true) := fun b => ap_like (Tell.ok (b := 0) .bl (by omega))
  simp only [f__law_letter_told, b__law_letter_told, runF, List.map_cons, List.map_nil, List.cons_append, List.nil_append, Nat.reduceSub, List.replicate_succ, List.replicate_zero, v_seq, v_if, v_tof, v_op, v_un, v_var, v_c, v_ret, v_nx, v_asg, v_and, v_or, v_not, v_nil, v_cons, v_tup, v_lst, v_frz, v_cb, v_cn, v_cp, v_ife, v_par, v_for, v_tru, List.getElem?_cons_zero, List.getElem?_cons_succ, List.set_cons_zero, List.set_cons_succ, k_var, k_op, k_op2, k_un, k_some, k_tof, k_asgN, k_ret, k_seqR, k_seqN, k_cons, k_cons2, k_cb, k_cn, k_cp, k_frz, k_par, k_par2, k_forV, k_truB, k_truT, k_not, k_orF, k_andT, k_andF, k_orT, k_ifT, k_ifF, k_ifeT, k_ifeF, i_ge, i_sub, i_neg, i_eq, i_ne, in_pr, nin_pr, pl_0, pl_1, pl_2, pr_0, pr_1, R.bind, k_tup, k_lst, List.length_cons, List.length_nil, Nat.reduceAdd, Nat.reduceLeDiff, decide_true, decide_false, Bool.not_true, Bool.not_false, Bool.true_and, Bool.false_and, Bool.and_true, Bool.and_false, Bool.or_true, Bool.or_false, if_true, if_false, Bool.false_eq_true, wipeE, tup_lst, v_yes, len_tup, i_lt, i_gt, i_add, k_asgT3, k_asgP, Bool.false_or, Bool.true_or, v_rg1, v_rg2, k_rg1, k_rg2, k_rg2b, v_it, k_itL, k_itT, v_lrg, k_lrg, app_ends hl, ap_lends hl, l1, ap_lafter s hl, ap_foll hl, fo, l2, rg_lets s]
  generalize hf : forVals _ _ _ _ _ = r
  obtain ⟨e', s', hI, rfl⟩ := for_ints (fun v s => ∃ x, v = [some (plD P), some (.int l), some (.lst ((afterI P l).map D.int)), some (.int (P.rows.length : Nat)), x] ∧ s = []) hf ⟨_, rfl, rfl⟩ fun x hx e s ⟨y, he, hs⟩ => by
    subst he hs
    simp only [runF, List.map_cons, List.map_nil, List.cons_append, List.nil_append, Nat.reduceSub, List.replicate_succ, List.replicate_zero, v_seq, v_if, v_tof, v_op, v_un, v_var, v_c, v_ret, v_nx, v_asg, v_and, v_or, v_not, v_nil, v_cons, v_tup, v_lst, v_frz, v_cb, v_cn, v_cp, v_ife, v_par, v_for, v_tru, List.getElem?_cons_zero, List.getElem?_cons_succ, List.set_cons_zero, List.set_cons_succ, k_var, k_op, k_op2, k_un, k_some, k_tof, k_asgN, k_ret, k_seqR, k_seqN, k_cons, k_cons2, k_cb, k_cn, k_cp, k_frz, k_par, k_par2, k_forV, k_truB, k_truT, k_not, k_orF, k_andT, k_andF, k_orT, k_ifT, k_ifF, k_ifeT, k_ifeF, i_ge, i_sub, i_neg, i_eq, i_ne, in_pr, nin_pr, pl_0, pl_1, pl_2, pr_0, pr_1, R.bind, k_tup, k_lst, List.length_cons, List.length_nil, Nat.reduceAdd, Nat.reduceLeDiff, decide_true, decide_false, Bool.not_true, Bool.not_false, Bool.true_and, Bool.false_and, Bool.and_true, Bool.and_false, Bool.or_true, Bool.or_false, if_true, if_false, Bool.false_eq_true, wipeE, tup_lst, v_yes, len_tup, i_lt, i_gt, i_add, k_asgT3, k_asgP, Bool.false_or, Bool.true_or, v_rg1, v_rg2, k_rg1, k_rg2, k_rg2b, v_it, k_itL, k_itT, v_lrg, k_lrg, ap_may hl, fo, in_intL, l3]
    exact ⟨_, _, rfl, _, rfl, rfl⟩
  obtain ⟨y, rfl, rfl⟩ := hI
  simp only [runF, List.map_cons, List.map_nil, List.cons_append, List.nil_append, Nat.reduceSub, List.replicate_succ, List.replicate_zero, v_seq, v_if, v_tof, v_op, v_un, v_var, v_c, v_ret, v_nx, v_asg, v_and, v_or, v_not, v_nil, v_cons, v_tup, v_lst, v_frz, v_cb, v_cn, v_cp, v_ife, v_par, v_for, v_tru, List.getElem?_cons_zero, List.getElem?_cons_succ, List.set_cons_zero, List.set_cons_succ, k_var, k_op, k_op2, k_un, k_some, k_tof, k_asgN, k_ret, k_seqR, k_seqN, k_cons, k_cons2, k_cb, k_cn, k_cp, k_frz, k_par, k_par2, k_forV, k_truB, k_truT, k_not, k_orF, k_andT, k_andF, k_orT, k_ifT, k_ifF, k_ifeT, k_ifeF, i_ge, i_sub, i_neg, i_eq, i_ne, in_pr, nin_pr, pl_0, pl_1, pl_2, pr_0, pr_1, R.bind, k_tup, k_lst, List.length_cons, List.length_nil, Nat.reduceAdd, Nat.reduceLeDiff, decide_true, decide_false, Bool.not_true, Bool.not_false, Bool.true_and, Bool.false_and, Bool.and_true, Bool.and_false, Bool.or_true, Bool.or_false, if_true, if_false, Bool.false_eq_true, wipeE, tup_lst, v_yes, len_tup, i_lt, i_gt, i_add, k_asgT3, k_asgP, Bool.false_or, Bool.true_or, v_rg1, v_rg2, k_rg1, k_rg2, k_rg2b, v_it, k_itL, k_itT, v_lrg, k_lrg]
theorem ap_ptold : appP f__law_plan_told [plD P] = some (.bl true) := by
  refine app_ok (st := []) (purs_pl rfl) (d := .bl true) ?_ rfl
  have s := h.small
  have rn : rgOk 0 P.n = true := rgOk_small (by omega) (by omega) (by have := s.n0; omega) (by have := s.n1; omega)
  simp only [f__law_plan_told, b__law_plan_told, runF, List.map_cons, List.map_nil, List.cons_append, List.nil_append, Nat.reduceSub, List.replicate_succ, List.replicate_zero, v_seq, v_if, v_tof, v_op, v_un, v_var, v_c, v_ret, v_nx, v_asg, v_and, v_or, v_not, v_nil, v_cons, v_tup, v_lst, v_frz, v_cb, v_cn, v_cp, v_ife, v_par, v_for, v_tru, List.getElem?_cons_zero, List.getElem?_cons_succ, List.set_cons_zero, List.set_cons_succ, k_var, k_op, k_op2, k_un, k_some, k_tof, k_asgN, k_ret, k_seqR, k_seqN, k_cons, k_cons2, k_cb, k_cn, k_cp, k_frz, k_par, k_par2, k_forV, k_truB, k_truT, k_not, k_orF, k_andT, k_andF, k_orT, k_ifT, k_ifF, k_ifeT, k_ifeF, i_ge, i_sub, i_neg, i_eq, i_ne, in_pr, nin_pr, pl_0, pl_1, pl_2, pr_0, pr_1, R.bind, k_tup, k_lst, List.length_cons, List.length_nil, Nat.reduceAdd, Nat.reduceLeDiff, decide_true, decide_false, Bool.not_true, Bool.not_false, Bool.true_and, Bool.false_and, Bool.and_true, Bool.and_false, Bool.or_true, Bool.or_false, if_true, if_false, Bool.false_eq_true, wipeE, tup_lst, v_yes, len_tup, i_lt, i_gt, i_add, k_asgT3, k_asgP, Bool.false_or, Bool.true_or, v_rg1, v_rg2, k_rg1, k_rg2, k_rg2b, v_it, k_itL, k_itT, v_lrg, k_lrg, rg_lets s]
  generalize hf : forVals _ _ _ _ _ = r
  obtain ⟨e', s', hI, rfl⟩ := for_ints (fun v s => ∃ x, v = [some (plD P), some (.int (P.rows.length : Nat)), x, none, none] ∧ s = []) hf ⟨_, rfl, rfl⟩ fun x hx e s ⟨y, he, hs⟩ => by
    subst he hs
    simp only [runF, List.map_cons, List.map_nil, List.cons_append, List.nil_append, Nat.reduceSub, List.replicate_succ, List.replicate_zero, v_seq, v_if, v_tof, v_op, v_un, v_var, v_c, v_ret, v_nx, v_asg, v_and, v_or, v_not, v_nil, v_cons, v_tup, v_lst, v_frz, v_cb, v_cn, v_cp, v_ife, v_par, v_for, v_tru, List.getElem?_cons_zero, List.getElem?_cons_succ, List.set_cons_zero, List.set_cons_succ, k_var, k_op, k_op2, k_un, k_some, k_tof, k_asgN, k_ret, k_seqR, k_seqN, k_cons, k_cons2, k_cb, k_cn, k_cp, k_frz, k_par, k_par2, k_forV, k_truB, k_truT, k_not, k_orF, k_andT, k_andF, k_orT, k_ifT, k_ifF, k_ifeT, k_ifeF, i_ge, i_sub, i_neg, i_eq, i_ne, in_pr, nin_pr, pl_0, pl_1, pl_2, pr_0, pr_1, R.bind, k_tup, k_lst, List.length_cons, List.length_nil, Nat.reduceAdd, Nat.reduceLeDiff, decide_true, decide_false, Bool.not_true, Bool.not_false, Bool.true_and, Bool.false_and, Bool.and_true, Bool.and_false, Bool.or_true, Bool.or_false, if_true, if_false, Bool.false_eq_true, wipeE, tup_lst, v_yes, len_tup, i_lt, i_gt, i_add, k_asgT3, k_asgP, Bool.false_or, Bool.true_or, v_rg1, v_rg2, k_rg1, k_rg2, k_rg2b, v_it, k_itL, k_itT, v_lrg, k_lrg, ap_ltold h (mem_let.mp hx)]
    exact ⟨_, _, rfl, _, rfl, rfl⟩
  obtain ⟨y, rfl, rfl⟩ := hI
  clear hf
  simp only [runF, List.map_cons, List.map_nil, List.cons_append, List.nil_append, Nat.reduceSub, List.replicate_succ, List.replicate_zero, v_seq, v_if, v_tof, v_op, v_un, v_var, v_c, v_ret, v_nx, v_asg, v_and, v_or, v_not, v_nil, v_cons, v_tup, v_lst, v_frz, v_cb, v_cn, v_cp, v_ife, v_par, v_for, v_tru, List.getElem?_cons_zero, List.getElem?_cons_succ, List.set_cons_zero, List.set_cons_succ, k_var, k_op, k_op2, k_un, k_some, k_tof, k_asgN, k_ret, k_seqR, k_seqN, k_cons, k_cons2, k_cb, k_cn, k_cp, k_frz, k_par, k_par2, k_forV, k_truB, k_truT, k_not, k_orF, k_andT, k_andF, k_orT, k_ifT, k_ifF, k_ifeT, k_ifeF, i_ge, i_sub, i_neg, i_eq, i_ne, in_pr, nin_pr, pl_0, pl_1, pl_2, pr_0, pr_1, R.bind, k_tup, k_lst, List.length_cons, List.length_nil, Nat.reduceAdd, Nat.reduceLeDiff, decide_true, decide_false, Bool.not_true, Bool.not_false, Bool.true_and, Bool.false_and, Bool.and_true, Bool.and_false, Bool.or_true, Bool.or_false, if_true, if_false, Bool.false_eq_true, wipeE, tup_lst, v_yes, len_tup, i_lt, i_gt, i_add, k_asgT3, k_asgP, Bool.false_or, Bool.true_or, v_rg1, v_rg2, k_rg1, k_rg2, k_rg2b, v_it, k_itL, k_itT, v_lrg, k_lrg, rg_rows s]
  generalize hf : forVals _ _ _ _ _ = r
  obtain ⟨e', s', hI, rfl⟩ := for_ints (fun v s => ∃ x, v = [some (plD P), some (.int (P.rows.length : Nat)), y, x, none] ∧ s = []) hf ⟨_, rfl, rfl⟩ fun x hx e s ⟨y, he, hs⟩ => by
    subst he hs
    simp only [runF, List.map_cons, List.map_nil, List.cons_append, List.nil_append, Nat.reduceSub, List.replicate_succ, List.replicate_zero, v_seq, v_if, v_tof, v_op, v_un, v_var, v_c, v_ret, v_nx, v_asg, v_and, v_or, v_not, v_nil, v_cons, v_tup, v_lst, v_frz, v_cb, v_cn, v_cp, v_ife, v_par, v_for, v_tru, List.getElem?_cons_zero, List.getElem?_cons_succ, List.set_cons_zero, List.set_cons_succ, k_var, k_op, k_op2, k_un, k_some, k_tof, k_asgN, k_ret, k_seqR, k_seqN, k_cons, k_cons2, k_cb, k_cn, k_cp, k_frz, k_par, k_par2, k_forV, k_truB, k_truT, k_not, k_orF, k_andT, k_andF, k_orT, k_ifT, k_ifF, k_ifeT, k_ifeF, i_ge, i_sub, i_neg, i_eq, i_ne, in_pr, nin_pr, pl_0, pl_1, pl_2, pr_0, pr_1, R.bind, k_tup, k_lst, List.length_cons, List.length_nil, Nat.reduceAdd, Nat.reduceLeDiff, decide_true, decide_false, Bool.not_true, Bool.not_false, Bool.true_and, Bool.false_and, Bool.and_true, Bool.and_false, Bool.or_true, Bool.or_false, if_true, if_false, Bool.false_eq_true, wipeE, tup_lst, v_yes, len_tup, i_lt, i_gt, i_add, k_asgT3, k_asgP, Bool.false_or, Bool.true_or, v_rg1, v_rg2, k_rg1, k_rg2, k_rg2b, v_it, k_itL, k_itT, v_lrg, k_lrg, ap_atold h (mem_arr.mp hx)]
    exact ⟨_, _, rfl, _, rfl, rfl⟩
  obtain ⟨z, rfl, rfl⟩ := hI
  clear hf
  simp only [runF, List.map_cons, List.map_nil, List.cons_append, List.nil_append, Nat.reduceSub, List.replicate_succ, List.replicate_zero, v_seq, v_if, v_tof, v_op, v_un, v_var, v_c, v_ret, v_nx, v_asg, v_and, v_or, v_not, v_nil, v_cons, v_tup, v_lst, v_frz, v_cb, v_cn, v_cp, v_ife, v_par, v_for, v_tru, List.getElem?_cons_zero, List.getElem?_cons_succ, List.set_cons_zero, List.set_cons_succ, k_var, k_op, k_op2, k_un, k_some, k_tof, k_asgN, k_ret, k_seqR, k_seqN, k_cons, k_cons2, k_cb, k_cn, k_cp, k_frz, k_par, k_par2, k_forV, k_truB, k_truT, k_not, k_orF, k_andT, k_andF, k_orT, k_ifT, k_ifF, k_ifeT, k_ifeF, i_ge, i_sub, i_neg, i_eq, i_ne, in_pr, nin_pr, pl_0, pl_1, pl_2, pr_0, pr_1, R.bind, k_tup, k_lst, List.length_cons, List.length_nil, Nat.reduceAdd, Nat.reduceLeDiff, decide_true, decide_false, Bool.not_true, Bool.not_false, Bool.true_and, Bool.false_and, Bool.and_true, Bool.and_false, Bool.or_true, Bool.or_false, if_true, if_false, Bool.false_eq_true, wipeE, tup_lst, v_yes, len_tup, i_lt, i_gt, i_add, k_asgT3, k_asgP, Bool.false_or, Bool.true_or, v_rg1, v_rg2, k_rg1, k_rg2, k_rg2b, v_it, k_itL, k_itT, v_lrg, k_lrg, rn]
  generalize hf : forVals _ _ _ _ _ = r
  obtain ⟨e', s', hI, rfl⟩ := for_ints (fun v s => ∃ x, v = [some (plD P), some (.int (P.rows.length : Nat)), y, z, x] ∧ s = []) hf ⟨_, rfl, rfl⟩ fun x hx e s' ⟨w, he, hs⟩ => by
    subst he hs
    have tf : Tells ((beginsI P x).map D.int) 39 (beginsI P x).length := Tells.ints fun x hx => sm_okL h (mem_let.mp (List.mem_filter.mp hx).1)
    have lf : (beginsI P x).length ≤ 300000 := by
      refine Nat.le_trans (List.length_filter_le ..) ?_
      have := len_rgL (-(P.rows.length : Int)) P.rows.length
      have := s.rl
      unfold letrI
      omega
    have l2 : appP f__law_like [.tup ((beginsI P x).map D.int), .tup ((beginsI P x).map D.int)] = some (.bl true) := ap_like (Tell.ok tf.tup lf)
    simp only [runF, List.map_cons, List.map_nil, List.cons_append, List.nil_append, Nat.reduceSub, List.replicate_succ, List.replicate_zero, v_seq, v_if, v_tof, v_op, v_un, v_var, v_c, v_ret, v_nx, v_asg, v_and, v_or, v_not, v_nil, v_cons, v_tup, v_lst, v_frz, v_cb, v_cn, v_cp, v_ife, v_par, v_for, v_tru, List.getElem?_cons_zero, List.getElem?_cons_succ, List.set_cons_zero, List.set_cons_succ, k_var, k_op, k_op2, k_un, k_some, k_tof, k_asgN, k_ret, k_seqR, k_seqN, k_cons, k_cons2, k_cb, k_cn, k_cp, k_frz, k_par, k_par2, k_forV, k_truB, k_truT, k_not, k_orF, k_andT, k_andF, k_orT, k_ifT, k_ifF, k_ifeT, k_ifeF, i_ge, i_sub, i_neg, i_eq, i_ne, in_pr, nin_pr, pl_0, pl_1, pl_2, pr_0, pr_1, R.bind, k_tup, k_lst, List.length_cons, List.length_nil, Nat.reduceAdd, Nat.reduceLeDiff, decide_true, decide_false, Bool.not_true, Bool.not_false, Bool.true_and, Bool.false_and, Bool.and_true, Bool.and_false, Bool.or_true, Bool.or_false, if_true, if_false, Bool.false_eq_true, wipeE, tup_lst, v_yes, len_tup, i_lt, i_gt, i_add, k_asgT3, k_asgP, Bool.false_or, Bool.true_or, v_rg1, v_rg2, k_rg1, k_rg2, k_rg2b, v_it, k_itL, k_itT, v_lrg, k_lrg, ap_from s, ap_lbegins s, l2]
    exact ⟨_, _, rfl, _, rfl, rfl⟩
  obtain ⟨w, rfl, rfl⟩ := hI
  simp only [runF, List.map_cons, List.map_nil, List.cons_append, List.nil_append, Nat.reduceSub, List.replicate_succ, List.replicate_zero, v_seq, v_if, v_tof, v_op, v_un, v_var, v_c, v_ret, v_nx, v_asg, v_and, v_or, v_not, v_nil, v_cons, v_tup, v_lst, v_frz, v_cb, v_cn, v_cp, v_ife, v_par, v_for, v_tru, List.getElem?_cons_zero, List.getElem?_cons_succ, List.set_cons_zero, List.set_cons_succ, k_var, k_op, k_op2, k_un, k_some, k_tof, k_asgN, k_ret, k_seqR, k_seqN, k_cons, k_cons2, k_cb, k_cn, k_cp, k_frz, k_par, k_par2, k_forV, k_truB, k_truT, k_not, k_orF, k_andT, k_andF, k_orT, k_ifT, k_ifF, k_ifeT, k_ifeF, i_ge, i_sub, i_neg, i_eq, i_ne, in_pr, nin_pr, pl_0, pl_1, pl_2, pr_0, pr_1, R.bind, k_tup, k_lst, List.length_cons, List.length_nil, Nat.reduceAdd, Nat.reduceLeDiff, decide_true, decide_false, Bool.not_true, Bool.not_false, Bool.true_and, Bool.false_and, Bool.and_true, Bool.and_false, Bool.or_true, Bool.or_false, if_true, if_false, Bool.false_eq_true, wipeE, tup_lst, v_yes, len_tup, i_lt, i_gt, i_add, k_asgT3, k_asgP, Bool.false_or, Bool.true_or, v_rg1, v_rg2, k_rg1, k_rg2, k_rg2b, v_it, k_itL, k_itT, v_lrg, k_lrg]
theorem ap_ttold : appP f__law_turned_told [plD P] = some (.bl true) := by
  refine app_ok (st := []) (purs_pl rfl) (d := .bl true) ?_ rfl
  have s := h.small
  have hQ := turn_gentle h
  have sQ := hQ.small
  have l1 : appP f__law_like [plD (turnP P), plD (turnP P)] = some (.bl true) := ap_like (tell_pl hQ)
  have l2 : appP f__law_like [plD P, plD P] = some (.bl true) := ap_like (tell_pl h)
  have l3 : ∀ o : Option Int, (∀ k, o = some k → inA P k) → appP f__law_like [optZ o, optZ o] = some (.bl true) := fun o ho => ap_like (Tell.ok (b := 0) (.optZ fun i hi => (sm_in h (ho i hi)).1) (by omega))
  have l4 : ∀ a : Int, inA P a → appP f__law_like [.int a, .int a] = some (.bl true) := fun a ha => ap_like (Tell.ok (b := 0) (.int (sm_in h ha).1) (by omega))
  have tt : appP f_turned_plan [plD (turnP P)] = some (plD P) := by rw [ap_turn sQ, turn_turn h]
  simp only [f__law_turned_told, b__law_turned_told, runF, List.map_cons, List.map_nil, List.cons_append, List.nil_append, Nat.reduceSub, List.replicate_succ, List.replicate_zero, v_seq, v_if, v_tof, v_op, v_un, v_var, v_c, v_ret, v_nx, v_asg, v_and, v_or, v_not, v_nil, v_cons, v_tup, v_lst, v_frz, v_cb, v_cn, v_cp, v_ife, v_par, v_for, v_tru, List.getElem?_cons_zero, List.getElem?_cons_succ, List.set_cons_zero, List.set_cons_succ, k_var, k_op, k_op2, k_un, k_some, k_tof, k_asgN, k_ret, k_seqR, k_seqN, k_cons, k_cons2, k_cb, k_cn, k_cp, k_frz, k_par, k_par2, k_forV, k_truB, k_truT, k_not, k_orF, k_andT, k_andF, k_orT, k_ifT, k_ifF, k_ifeT, k_ifeF, i_ge, i_sub, i_neg, i_eq, i_ne, in_pr, nin_pr, pl_0, pl_1, pl_2, pr_0, pr_1, R.bind, k_tup, k_lst, List.length_cons, List.length_nil, Nat.reduceAdd, Nat.reduceLeDiff, decide_true, decide_false, Bool.not_true, Bool.not_false, Bool.true_and, Bool.false_and, Bool.and_true, Bool.and_false, Bool.or_true, Bool.or_false, if_true, if_false, Bool.false_eq_true, wipeE, tup_lst, v_yes, len_tup, i_lt, i_gt, i_add, k_asgT3, k_asgP, Bool.false_or, Bool.true_or, v_rg1, v_rg2, k_rg1, k_rg2, k_rg2b, v_it, k_itL, k_itT, v_lrg, k_lrg, ap_turn s, ap_lturn s, l1, l2, tt, rg_rows s]
  generalize hf : forVals _ _ _ _ _ = r
  obtain ⟨e', s', hI, rfl⟩ := for_ints (fun v s => ∃ x y z, v = [some (plD P), some (plD (turnP P)), x, y, z] ∧ s = []) hf ⟨_, _, _, rfl, rfl⟩ fun a hx e s ⟨_, _, _, he, hs⟩ => by
    subst he hs
    have ha : inA P a := mem_arr.mp hx
    have hl : (turnP P).rows.length = P.rows.length := List.length_map ..
    have hb : inA (turnP P) a := by unfold inA at *; rw [hl]; exact ha
    have l5 := l3 (aheadI P a) fun k hk => find_in hk
    have l6 := l3 (nilI P a) fun k hk => nil_in h hk
    have t1 := turn_next h hQ rfl (fun a b => mem_turn) ha
    have t2 := turn_nil (a := a) h hQ rfl (fun a b => mem_turn)
    simp only [runF, List.map_cons, List.map_nil, List.cons_append, List.nil_append, Nat.reduceSub, List.replicate_succ, List.replicate_zero, v_seq, v_if, v_tof, v_op, v_un, v_var, v_c, v_ret, v_nx, v_asg, v_and, v_or, v_not, v_nil, v_cons, v_tup, v_lst, v_frz, v_cb, v_cn, v_cp, v_ife, v_par, v_for, v_tru, List.getElem?_cons_zero, List.getElem?_cons_succ, List.set_cons_zero, List.set_cons_succ, k_var, k_op, k_op2, k_un, k_some, k_tof, k_asgN, k_ret, k_seqR, k_seqN, k_cons, k_cons2, k_cb, k_cn, k_cp, k_frz, k_par, k_par2, k_forV, k_truB, k_truT, k_not, k_orF, k_andT, k_andF, k_orT, k_ifT, k_ifF, k_ifeT, k_ifeF, i_ge, i_sub, i_neg, i_eq, i_ne, in_pr, nin_pr, pl_0, pl_1, pl_2, pr_0, pr_1, R.bind, k_tup, k_lst, List.length_cons, List.length_nil, Nat.reduceAdd, Nat.reduceLeDiff, decide_true, decide_false, Bool.not_true, Bool.not_false, Bool.true_and, Bool.false_and, Bool.and_true, Bool.and_false, Bool.or_true, Bool.or_false, if_true, if_false, Bool.false_eq_true, wipeE, tup_lst, v_yes, len_tup, i_lt, i_gt, i_add, k_asgT3, k_asgP, Bool.false_or, Bool.true_or, v_rg1, v_rg2, k_rg1, k_rg2, k_rg2b, v_it, k_itL, k_itT, v_lrg, k_lrg, ap_next hb, ap_ahead ha, t1, l5, ap_nilAhead, ap_nil, t2, l6, ap_next ha, notN_Z]
    cases e1 : nextI P a with
    | none =>
      cases e2 : nilI P a with
      | none =>
        simp only [runF, List.map_cons, List.map_nil, List.cons_append, List.nil_append, Nat.reduceSub, List.replicate_succ, List.replicate_zero, v_seq, v_if, v_tof, v_op, v_un, v_var, v_c, v_ret, v_nx, v_asg, v_and, v_or, v_not, v_nil, v_cons, v_tup, v_lst, v_frz, v_cb, v_cn, v_cp, v_ife, v_par, v_for, v_tru, List.getElem?_cons_zero, List.getElem?_cons_succ, List.set_cons_zero, List.set_cons_succ, k_var, k_op, k_op2, k_un, k_some, k_tof, k_asgN, k_ret, k_seqR, k_seqN, k_cons, k_cons2, k_cb, k_cn, k_cp, k_frz, k_par, k_par2, k_forV, k_truB, k_truT, k_not, k_orF, k_andT, k_andF, k_orT, k_ifT, k_ifF, k_ifeT, k_ifeF, i_ge, i_sub, i_neg, i_eq, i_ne, in_pr, nin_pr, pl_0, pl_1, pl_2, pr_0, pr_1, R.bind, k_tup, k_lst, List.length_cons, List.length_nil, Nat.reduceAdd, Nat.reduceLeDiff, decide_true, decide_false, Bool.not_true, Bool.not_false, Bool.true_and, Bool.false_and, Bool.and_true, Bool.and_false, Bool.or_true, Bool.or_false, if_true, if_false, Bool.false_eq_true, wipeE, tup_lst, v_yes, len_tup, i_lt, i_gt, i_add, k_asgT3, k_asgP, Bool.false_or, Bool.true_or, v_rg1, v_rg2, k_rg1, k_rg2, k_rg2b, v_it, k_itL, k_itT, v_lrg, k_lrg, Option.isSome_none]
        exact ⟨_, _, rfl, _, _, _, rfl, rfl⟩
      | some k =>
        have e3 := nil_next h e2
        have i2 := nil_in h e2
        simp only [runF, List.map_cons, List.map_nil, List.cons_append, List.nil_append, Nat.reduceSub, List.replicate_succ, List.replicate_zero, v_seq, v_if, v_tof, v_op, v_un, v_var, v_c, v_ret, v_nx, v_asg, v_and, v_or, v_not, v_nil, v_cons, v_tup, v_lst, v_frz, v_cb, v_cn, v_cp, v_ife, v_par, v_for, v_tru, List.getElem?_cons_zero, List.getElem?_cons_succ, List.set_cons_zero, List.set_cons_succ, k_var, k_op, k_op2, k_un, k_some, k_tof, k_asgN, k_ret, k_seqR, k_seqN, k_cons, k_cons2, k_cb, k_cn, k_cp, k_frz, k_par, k_par2, k_forV, k_truB, k_truT, k_not, k_orF, k_andT, k_andF, k_orT, k_ifT, k_ifF, k_ifeT, k_ifeF, i_ge, i_sub, i_neg, i_eq, i_ne, in_pr, nin_pr, pl_0, pl_1, pl_2, pr_0, pr_1, R.bind, k_tup, k_lst, List.length_cons, List.length_nil, Nat.reduceAdd, Nat.reduceLeDiff, decide_true, decide_false, Bool.not_true, Bool.not_false, Bool.true_and, Bool.false_and, Bool.and_true, Bool.and_false, Bool.or_true, Bool.or_false, if_true, if_false, Bool.false_eq_true, wipeE, tup_lst, v_yes, len_tup, i_lt, i_gt, i_add, k_asgT3, k_asgP, Bool.false_or, Bool.true_or, v_rg1, v_rg2, k_rg1, k_rg2, k_rg2b, v_it, k_itL, k_itT, v_lrg, k_lrg, Option.isSome_none, Option.isSome_some, notN_i, notN_n, optZ, ap_nilAhead, e3, l4 a ha]
        exact ⟨_, _, rfl, _, _, _, rfl, rfl⟩
    | some j =>
      have e4 := ahead_next h ha e1
      have i1 := next_in e1
      cases e2 : nilI P a with
      | none =>
        simp only [runF, List.map_cons, List.map_nil, List.cons_append, List.nil_append, Nat.reduceSub, List.replicate_succ, List.replicate_zero, v_seq, v_if, v_tof, v_op, v_un, v_var, v_c, v_ret, v_nx, v_asg, v_and, v_or, v_not, v_nil, v_cons, v_tup, v_lst, v_frz, v_cb, v_cn, v_cp, v_ife, v_par, v_for, v_tru, List.getElem?_cons_zero, List.getElem?_cons_succ, List.set_cons_zero, List.set_cons_succ, k_var, k_op, k_op2, k_un, k_some, k_tof, k_asgN, k_ret, k_seqR, k_seqN, k_cons, k_cons2, k_cb, k_cn, k_cp, k_frz, k_par, k_par2, k_forV, k_truB, k_truT, k_not, k_orF, k_andT, k_andF, k_orT, k_ifT, k_ifF, k_ifeT, k_ifeF, i_ge, i_sub, i_neg, i_eq, i_ne, in_pr, nin_pr, pl_0, pl_1, pl_2, pr_0, pr_1, R.bind, k_tup, k_lst, List.length_cons, List.length_nil, Nat.reduceAdd, Nat.reduceLeDiff, decide_true, decide_false, Bool.not_true, Bool.not_false, Bool.true_and, Bool.false_and, Bool.and_true, Bool.and_false, Bool.or_true, Bool.or_false, if_true, if_false, Bool.false_eq_true, wipeE, tup_lst, v_yes, len_tup, i_lt, i_gt, i_add, k_asgT3, k_asgP, Bool.false_or, Bool.true_or, v_rg1, v_rg2, k_rg1, k_rg2, k_rg2b, v_it, k_itL, k_itT, v_lrg, k_lrg, Option.isSome_none, Option.isSome_some, notN_i, notN_n, optZ, ap_ahead i1, e4, l4 a ha]
        exact ⟨_, _, rfl, _, _, _, rfl, rfl⟩
      | some k =>
        have e3 := nil_next h e2
        have i2 := nil_in h e2
        simp only [runF, List.map_cons, List.map_nil, List.cons_append, List.nil_append, Nat.reduceSub, List.replicate_succ, List.replicate_zero, v_seq, v_if, v_tof, v_op, v_un, v_var, v_c, v_ret, v_nx, v_asg, v_and, v_or, v_not, v_nil, v_cons, v_tup, v_lst, v_frz, v_cb, v_cn, v_cp, v_ife, v_par, v_for, v_tru, List.getElem?_cons_zero, List.getElem?_cons_succ, List.set_cons_zero, List.set_cons_succ, k_var, k_op, k_op2, k_un, k_some, k_tof, k_asgN, k_ret, k_seqR, k_seqN, k_cons, k_cons2, k_cb, k_cn, k_cp, k_frz, k_par, k_par2, k_forV, k_truB, k_truT, k_not, k_orF, k_andT, k_andF, k_orT, k_ifT, k_ifF, k_ifeT, k_ifeF, i_ge, i_sub, i_neg, i_eq, i_ne, in_pr, nin_pr, pl_0, pl_1, pl_2, pr_0, pr_1, R.bind, k_tup, k_lst, List.length_cons, List.length_nil, Nat.reduceAdd, Nat.reduceLeDiff, decide_true, decide_false, Bool.not_true, Bool.not_false, Bool.true_and, Bool.false_and, Bool.and_true, Bool.and_false, Bool.or_true, Bool.or_false, if_true, if_false, Bool.false_eq_true, wipeE, tup_lst, v_yes, len_tup, i_lt, i_gt, i_add, k_asgT3, k_asgP, Bool.false_or, Bool.true_or, v_rg1, v_rg2, k_rg1, k_rg2, k_rg2b, v_it, k_itL, k_itT, v_lrg, k_lrg, Option.isSome_some, notN_i, notN_n, optZ, ap_nilAhead, e3, l4 a ha, ap_ahead i1, e4]
        exact ⟨_, _, rfl, _, _, _, rfl, rfl⟩
  obtain ⟨x, y, z, rfl, rfl⟩ := hI
  simp only [runF, List.map_cons, List.map_nil, List.cons_append, List.nil_append, Nat.reduceSub, List.replicate_succ, List.replicate_zero, v_seq, v_if, v_tof, v_op, v_un, v_var, v_c, v_ret, v_nx, v_asg, v_and, v_or, v_not, v_nil, v_cons, v_tup, v_lst, v_frz, v_cb, v_cn, v_cp, v_ife, v_par, v_for, v_tru, List.getElem?_cons_zero, List.getElem?_cons_succ, List.set_cons_zero, List.set_cons_succ, k_var, k_op, k_op2, k_un, k_some, k_tof, k_asgN, k_ret, k_seqR, k_seqN, k_cons, k_cons2, k_cb, k_cn, k_cp, k_frz, k_par, k_par2, k_forV, k_truB, k_truT, k_not, k_orF, k_andT, k_andF, k_orT, k_ifT, k_ifF, k_ifeT, k_ifeF, i_ge, i_sub, i_neg, i_eq, i_ne, in_pr, nin_pr, pl_0, pl_1, pl_2, pr_0, pr_1, R.bind, k_tup, k_lst, List.length_cons, List.length_nil, Nat.reduceAdd, Nat.reduceLeDiff, decide_true, decide_false, Bool.not_true, Bool.not_false, Bool.true_and, Bool.false_and, Bool.and_true, Bool.and_false, Bool.or_true, Bool.or_false, if_true, if_false, Bool.false_eq_true, wipeE, tup_lst, v_yes, len_tup, i_lt, i_gt, i_add, k_asgT3, k_asgP, Bool.false_or, Bool.true_or, v_rg1, v_rg2, k_rg1, k_rg2, k_rg2b, v_it, k_itL, k_itT, v_lrg, k_lrg, ap_ptold hQ]
end
end FK

set_option Elab.async false
set_option linter.all false
set_option maxRecDepth 100000
namespace FK
open DL
/-! ### stores with a cell of draws -/
def MC (ms : List Int) (b : Int) (c : Cell) : Prop := ∃ L S sp : Int, 0 ≤ L ∧ 0 ≤ sp ∧ sp ≤ b ∧ c = mD L S (zs ms) sp
structure Sto (n : Nat) (ms : List Int) (b : Int) (st : Store) : Prop where
  m : ∃ c, st[n]? = some c ∧ MC ms b c
  pu : ∀ c ∈ st, purC c = true
structure Kp (n : Nat) (st st' : Store) : Prop where
  len : st.length ≤ st'.length
  old : ∀ i, i < st.length → i ≠ n → st'[i]? = st[i]?
structure Tk (n : Nat) (ms : List Int) (b : Int) (st st' : Store) : Prop where
  s : Sto n ms b st'
  k : Kp n st st'
  e : st'.length = st.length
section
variable {n : Nat} {ms : List Int} {b b' : Int} {st st1 st2 : Store}
theorem MC.mono {c : Cell} (h : MC ms b c) (hb : b ≤ b') : MC ms b' c := by
  obtain ⟨L, S, sp, h1, h2, h3, h4⟩ := h
  exact ⟨L, S, sp, h1, h2, by omega, h4⟩
theorem Sto.mono (h : Sto n ms b st) (hb : b ≤ b') : Sto n ms b' st := by
  obtain ⟨c, hc, hm⟩ := h.m
  exact ⟨⟨c, hc, hm.mono hb⟩, h.pu⟩
theorem Sto.lt (h : Sto n ms b st) : n < st.length := by
  obtain ⟨c, hc, _⟩ := h.m
  exact (List.getElem?_eq_some_iff.mp hc).1
theorem Kp.refl : Kp n st st := ⟨Nat.le_refl _, fun _ _ _ => rfl⟩
theorem Kp.trans (h1 : Kp n st st1) (h2 : Kp n st1 st2) : Kp n st st2 := ⟨Nat.le_trans h1.len h2.len, fun i hi hn => (h2.old i (Nat.lt_of_lt_of_le hi h1.len) hn).trans (h1.old i hi hn)⟩
theorem pur_mD {L S sp : Int} {ms : List Int} : purC (mD L S (zs ms) sp) = true := by
  show (true && (true && (purs (zs ms) && (true && true)))) = true
  rw [show purs (zs ms) = true from purs_int ms]
  rfl
theorem Sto.draw (h : Sto n ms b st) (hb : b < 1000000000000) (hm : ms ≠ []) {w : Int} (w1 : 1 ≤ w) (w2 : w < 1073741824) : ∃ v st', f__law_draw [.ref n, .int w] st = .ok (.int v) st' ∧ 0 ≤ v ∧ v < w ∧ Tk n ms (b + 1) st st' := by
  obtain ⟨c, hc, L, S, sp, h1, h2, h3, rfl⟩ := h.m
  obtain ⟨v, L', sp', e, v0, v1, l0, s1, s2⟩ := FK.draw hc h1 h2 (by omega) hm w1 w2
  refine ⟨v, _, e, v0, v1, ⟨⟨_, List.getElem?_set_self h.lt, L', S, sp', l0, by omega, by omega, rfl⟩, fun c hc' => ?_⟩, ⟨by simp, fun i hi hn => by rw [List.getElem?_set_ne (Ne.symm hn)]⟩, by simp⟩
  rcases List.mem_or_eq_of_mem_set hc' with q | rfl
  · exact h.pu _ q
  · exact pur_mD
theorem appT_ok {g : List D → Store → R D} {ds : List D} {d d' : D} (hS : Sto n ms b st) (h : g ds st = .ok d st2) (hK : Kp n st st2) (hS2 : Sto n ms b' st2) (ho : outT st.length d st2 = some d') : ∃ st3, appT g ds st = .ok d' st3 ∧ Tk n ms b' st st3 := by
  have hn := hS.lt
  have hl : (st2.take st.length).length = st.length := by
    rw [List.length_take]
    exact Nat.min_eq_left hK.len
  have hg : ∀ i, i < st.length → (st2.take st.length)[i]? = st2[i]? := fun i hi => List.getElem?_take_of_lt hi
  refine ⟨st2.take st.length, ?_, ⟨?_, fun c hc => hS2.pu c (List.mem_of_mem_take hc)⟩, ⟨Nat.le_of_eq hl.symm, fun i hi hne => by rw [hg i hi]; exact hK.old i hi hne⟩, hl⟩
  · unfold appT
    rw [h]
    show (if (st2.take st.length).all purC = true then R.ofO (outT st.length d st2) (st2.take st.length) else .no) = _
    rw [if_pos (List.all_eq_true.mpr fun c hc => hS2.pu c (List.mem_of_mem_take hc)), ho]
    rfl
  · obtain ⟨c, hc, hm⟩ := hS2.m
    exact ⟨c, by rw [hg n hn]; exact hc, hm⟩
theorem Sto.tdraw (h : Sto n ms b st) (hb : b < 1000000000000) (hm : ms ≠ []) {w : Int} (w1 : 1 ≤ w) (w2 : w < 1073741824) : ∃ v st', appT f__law_draw [.ref n, .int w] st = .ok (.int v) st' ∧ 0 ≤ v ∧ v < w ∧ Tk n ms (b + 1) st st' := by
  obtain ⟨v, st2, e, v0, v1, T⟩ := h.draw hb hm w1 w2
  obtain ⟨st3, e3, T3⟩ := appT_ok (d' := .int v) h e T.k T.s rfl
  exact ⟨v, st3, e3, v0, v1, T3⟩
end
/-! ### stages -/
def kPush (o : Option Cell) (n : Nat) (d : D) (st : Store) : R D := match o with
  | some (.lst xs) => if sOk (xs.length + 1) then .ok .non (st.set n (.lst (xs ++ [d]))) else .no
  | _ => .no
def kApp2 (r : R D) (n : Nat) : R D := r.bind fun d st2 => kPush st2[n]? n d st2
def kApp1 (o : Option Cell) (r : R D) (n : Nat) : R D := if isLst o then kApp2 r n else .no
def kApp (r : R D) (f : Ev) (env : Ent) : R D := r.bind fun a st1 => match a with
  | .ref n => kApp1 st1[n]? (f env st1) n
  | _ => .no
section
variable {f fo : Ev} {env : Ent} {st : Store} {n : Nat} {xs : List D} {d : D} {r : R D}
theorem v_app : eAppend fo f env st = kApp (fo env st) f env := by
  unfold eAppend kApp
  rfl
theorem k_app : kApp (.ok (.ref n) st) f env = kApp1 st[n]? (f env st) n := rfl
theorem k_app1 : kApp1 (some (.lst xs)) r n = kApp2 r n := rfl
theorem k_app2 : kApp2 (.ok d st) n = kPush st[n]? n d st := rfl
theorem k_push : kPush (some (.lst xs)) n d st = if sOk (xs.length + 1) = true then .ok .non (st.set n (.lst (xs ++ [d]))) else .no := rfl
end
theorem for_intsD {i : Nat} {body : EvT} {xs : List Int} {env : Ent} {st : Store} {r : R (Out × Ent)} (Inv : List Int → Ent → Store → Prop) (hf : forVals (tgN i) body (xs.map D.int) env st = r) (hI : Inv [] env st)
    (hb : ∀ pre x post, xs = pre ++ x :: post → ∀ e s, Inv pre e s → ∃ e2 s2, body (e.set i (some (.int x))) s = .ok (.nx, e2) s2 ∧ Inv (pre ++ [x]) e2 s2) : ∃ e' s', Inv xs e' s' ∧ r = .ok (.nx, e') s' := by
  subst hf
  have gen : ∀ (ys pre : List Int) (env : Ent) (st : Store), xs = pre ++ ys → Inv pre env st → ∃ e' s', Inv xs e' s' ∧ forVals (tgN i) body (ys.map D.int) env st = .ok (.nx, e') s' := by
    intro ys
    induction ys with
    | nil =>
      intro pre env st hx hI
      rw [List.append_nil] at hx
      subst hx
      exact ⟨env, st, hI, rfl⟩
    | cons y ys ih =>
      intro pre env st hx hI
      obtain ⟨e2, s2, h1, h2⟩ := hb pre y ys hx env st hI
      obtain ⟨e', s', h3, h4⟩ := ih (pre ++ [y]) e2 s2 (by rw [List.append_assoc]; exact hx) h2
      refine ⟨e', s', h3, ?_⟩
      rw [← h4]
      show (body (env.set i (some (.int y))) st).bind _ = _
      rw [h1]
      rfl
  exact gen xs [] env st rfl hI
theorem items_ref {st : Store} {j : Nat} {xs : List D} (h : st[j]? = some (.lst xs)) : items st (.ref j) = some xs := by
  have e : deref st (.ref j) = .lst xs := by
    show (match st[j]? with | some (.lst ds) => D.lst ds | _ => D.ref j) = _
    rw [h]
  unfold items
  rw [e]
theorem len_items {st : Store} {d : D} {xs : List D} (h : items st d = some xs) : opLen st [d] = some (.int (xs.length : Nat)) := by
  show (match items st d with | some ds => some (D.int (ds.length : Nat)) | none => none) = _
  rw [h]
theorem ix_items {st : Store} {d x : D} {xs : List D} {k : Int} (h : items st d = some xs) (h0 : 0 ≤ k) (h1 : xs[k.toNat]? = some x) : opIx st d (.int k) = some x := by
  show (match items st d with | some ds => L2.atI ds k | none => none) = _
  rw [h]
  have hl := (List.getElem?_eq_some_iff.mp h1).1
  show L2.atI xs k = _
  unfold L2.atI L2.ixN
  rw [if_pos h0, if_pos (by omega)]
  exact h1
theorem tup_items {st : Store} {d : D} {xs : List D} (h : items st d = some xs) : opTuple st [d] = some (.tup xs) := by
  show (match items st d with | some ds => some (D.tup ds) | none => none) = _
  rw [h]
end FK

set_option Elab.async false
set_option linter.all false
set_option maxRecDepth 100000
namespace FK
open DL
section
variable {n : Nat} {ms : List Int} {b : Int} {st : Store}
theorem Sto.tof (h : Sto n ms b st) (hb : b < 1000000000000) (hm : ms ≠ []) {xs : List Int} (hx : xs ≠ []) (hl : xs.length ≤ 1000) : ∃ x ∈ xs, ∃ st', appT f__law_of [.ref n, .lst (xs.map D.int)] st = .ok (.int x) st' ∧ Tk n ms (b + 1) st st' := by
  have hp := List.length_pos_iff.mpr hx
  obtain ⟨v, st1, e, v0, v1, T⟩ := h.tdraw hb hm (w := (xs.length : Nat)) (by omega) (by omega)
  have hv : v.toNat < xs.length := by omega
  have ix : (xs.map D.int)[v.toNat]? = some (D.int xs[v.toNat]) := by rw [List.getElem?_map, List.getElem?_eq_getElem hv]; rfl
  have o : opIx st1 (.lst (xs.map D.int)) (.int v) = some (.int xs[v.toNat]) := ix_items rfl v0 ix
  have l : ∀ st, opLen st [.lst (xs.map D.int)] = some (.int (xs.length : Nat)) := fun st => by
    rw [len_items (xs := xs.map D.int) rfl, List.length_map]
  have r : f__law_of [.ref n, .lst (xs.map D.int)] st = .ok (.int xs[v.toNat]) st1 := by
    simp only [f__law_of, b__law_of, runF, List.map_cons, List.map_nil, List.cons_append, List.nil_append, Nat.reduceSub, List.replicate_succ, List.replicate_zero, v_seq, v_if, v_tof, v_op, v_un, v_var, v_c, v_ret, v_nx, v_asg, v_and, v_or, v_not, v_nil, v_cons, v_tup, v_lst, v_frz, v_cb, v_cn, v_cp, v_ife, v_par, v_for, v_tru, List.getElem?_cons_zero, List.getElem?_cons_succ, List.set_cons_zero, List.set_cons_succ, k_var, k_op, k_op2, k_un, k_some, k_tof, k_asgN, k_ret, k_seqR, k_seqN, k_cons, k_cons2, k_cb, k_cn, k_cp, k_frz, k_par, k_par2, k_forV, k_truB, k_truT, k_not, k_orF, k_andT, k_andF, k_orT, k_ifT, k_ifF, k_ifeT, k_ifeF, i_ge, i_sub, i_neg, i_eq, i_ne, in_pr, nin_pr, pl_0, pl_1, pl_2, pr_0, pr_1, R.bind, k_tup, k_lst, List.length_cons, List.length_nil, Nat.reduceAdd, Nat.reduceLeDiff, decide_true, decide_false, Bool.not_true, Bool.not_false, Bool.true_and, Bool.false_and, Bool.and_true, Bool.and_false, Bool.or_true, Bool.or_false, if_true, if_false, Bool.false_eq_true, wipeE, tup_lst, v_yes, len_tup, i_lt, i_gt, i_add, k_asgT3, k_asgP, Bool.false_or, Bool.true_or, v_rg1, v_rg2, k_rg1, k_rg2, k_rg2b, v_it, k_itL, k_itT, v_lrg, k_lrg, v_ct, k_ct, v_new, k_new, v_app, k_app, k_app1, k_app2, k_push, v_exp, k_exp, l, e, o]
  obtain ⟨st3, e3, T3⟩ := appT_ok (d' := .int xs[v.toNat]) h r T.k T.s rfl
  exact ⟨_, List.getElem_mem hv, st3, e3, T3⟩
theorem purC_ints {xs : List Int} : purC (.lst (xs.map D.int)) = true := purs_int xs
theorem Sto.new {c : Cell} (h : Sto n ms b st) (hc : purC c = true) : Sto n ms b (st ++ [c]) := by
  obtain ⟨d, hd, hm⟩ := h.m
  refine ⟨⟨d, by rw [List.getElem?_append_left h.lt]; exact hd, hm⟩, fun x hx => ?_⟩
  rcases List.mem_append.mp hx with q | q
  · exact h.pu x q
  · rw [List.mem_singleton] at q
    subst q
    exact hc
theorem Kp.new {c : Cell} : Kp n st (st ++ [c]) := ⟨by simp, fun i hi _ => List.getElem?_append_left hi⟩
theorem Sto.put {c : Cell} {j : Nat} (h : Sto n ms b st) (hc : purC c = true) (hj : j ≠ n) : Sto n ms b (st.set j c) := by
  obtain ⟨d, hd, hm⟩ := h.m
  refine ⟨⟨d, by rw [List.getElem?_set_ne hj]; exact hd, hm⟩, fun x hx => ?_⟩
  rcases List.mem_or_eq_of_mem_set hx with q | rfl
  · exact h.pu x q
  · exact hc
/-- cells above a base may be written -/
theorem Kp.put {st0 : Store} {c : Cell} {j : Nat} (h : Kp n st0 st) (hj : st0.length ≤ j) : Kp n st0 (st.set j c) := ⟨by rw [List.length_set]; exact h.len, fun i hi hn => by rw [List.getElem?_set_ne (by omega)]; exact h.old i hi hn⟩
theorem perm_out {l : List Int} (hd : l.Nodup) {x : Int} (hx : x ∈ l) : l.Perm (x :: l.filter fun y => !decide (y = x)) := by
  have e : l.filter (fun y => !decide (y = x)) = l.erase x := by
    rw [hd.erase_eq_filter]
    refine List.filter_congr fun y _ => ?_
    by_cases h : y = x <;> simp [h]
  rw [e]
  exact List.perm_cons_erase hx
theorem Sto.shuf (h : Sto n ms b st) (hm : ms ≠ []) {w : Int} (w0 : 0 ≤ w) (w1 : w ≤ 1000) (hb : b + w < 1000000000000) : ∃ (l : List Int) (st' : Store), appT f__law_shuffled [.ref n, .int w] st = .ok (.tup (l.map D.int)) st' ∧ l.Perm (rgL 0 w) ∧ Tk n ms (b + w) st st' := by
  have rw' : rgOk 0 w = true := rgOk_small (by omega) (by omega) (by omega) (by omega)
  have hn := h.lt
  have run : ∃ (l : List Int) (st2 : Store), f__law_shuffled [.ref n, .int w] st = .ok (.tup (l.map D.int)) st2 ∧ l.Perm (rgL 0 w) ∧ Kp n st st2 ∧ Sto n ms (b + w) st2 := by
    simp only [f__law_shuffled, b__law_shuffled, runF, List.map_cons, List.map_nil, List.cons_append, List.nil_append, Nat.reduceSub, List.replicate_succ, List.replicate_zero, v_seq, v_if, v_tof, v_op, v_un, v_var, v_c, v_ret, v_nx, v_asg, v_and, v_or, v_not, v_nil, v_cons, v_tup, v_lst, v_frz, v_cb, v_cn, v_cp, v_ife, v_par, v_for, v_tru, List.getElem?_cons_zero, List.getElem?_cons_succ, List.set_cons_zero, List.set_cons_succ, k_var, k_op, k_op2, k_un, k_some, k_tof, k_asgN, k_ret, k_seqR, k_seqN, k_cons, k_cons2, k_cb, k_cn, k_cp, k_frz, k_par, k_par2, k_forV, k_truB, k_truT, k_not, k_orF, k_andT, k_andF, k_orT, k_ifT, k_ifF, k_ifeT, k_ifeF, i_ge, i_sub, i_neg, i_eq, i_ne, in_pr, nin_pr, pl_0, pl_1, pl_2, pr_0, pr_1, R.bind, k_tup, k_lst, List.length_cons, List.length_nil, Nat.reduceAdd, Nat.reduceLeDiff, decide_true, decide_false, Bool.not_true, Bool.not_false, Bool.true_and, Bool.false_and, Bool.and_true, Bool.and_false, Bool.or_true, Bool.or_false, if_true, if_false, Bool.false_eq_true, wipeE, tup_lst, v_yes, len_tup, i_lt, i_gt, i_add, k_asgT3, k_asgP, Bool.false_or, Bool.true_or, v_rg1, v_rg2, k_rg1, k_rg2, k_rg2b, v_it, k_itL, k_itT, v_lrg, k_lrg, v_ct, k_ct, v_new, k_new, v_app, k_app, k_app1, k_app2, k_push, v_exp, k_exp, rw']
    generalize hf : forVals _ _ _ _ _ = r
    obtain ⟨e', s', hI, rfl⟩ := for_intsD (fun pre v s => ∃ (left found : List Int) (x y z : Option D), v = [some (.ref n), some (.int w), some (.lst (left.map D.int)), some (.ref st.length), x, y, z] ∧ (found ++ left).Perm (rgL 0 w) ∧ found.length = pre.length ∧ s[st.length]? = some (.lst (found.map D.int)) ∧ Kp n st s ∧ Sto n ms (b + pre.length) s) hf
      ⟨rgL 0 w, [], _, _, _, rfl, .refl _, rfl, by rw [List.getElem?_concat_length]; rfl, .new, (h.new rfl).mono (by simp)⟩ fun pre x post hx e s hI => by
      obtain ⟨left, found, x', y', z', rfl, hp, hl, hc, hK, hS⟩ := hI
      have hlen : pre.length + (post.length + 1) = w.toNat := by
        have := congrArg List.length hx
        rw [len_rgL, List.length_append, List.length_cons] at this
        omega
      have hpl := hp.length_eq
      rw [len_rgL, List.length_append] at hpl
      have hne : left ≠ [] := fun q => by
        subst q
        simp at hpl
        omega
      obtain ⟨o, ho, s1, e1, T⟩ := hS.tof (by omega) hm hne (by omega)
      have nd : (found ++ left).Nodup := hp.nodup_iff.mpr (nd_lt (srt_rgL _ _))
      have ndl : left.Nodup := (List.nodup_append.mp nd).2.1
      have hc1 : s1[st.length]? = some (.lst (found.map D.int)) := by
        rw [T.k.old _ (List.getElem?_eq_some_iff.mp hc).1 (by omega)]
        exact hc
      have hsk : sOk ((found.map D.int).length + 1) = true := sOk_of (by rw [List.length_map]; omega)
      simp only [runF, List.map_cons, List.map_nil, List.cons_append, List.nil_append, Nat.reduceSub, List.replicate_succ, List.replicate_zero, v_seq, v_if, v_tof, v_op, v_un, v_var, v_c, v_ret, v_nx, v_asg, v_and, v_or, v_not, v_nil, v_cons, v_tup, v_lst, v_frz, v_cb, v_cn, v_cp, v_ife, v_par, v_for, v_tru, List.getElem?_cons_zero, List.getElem?_cons_succ, List.set_cons_zero, List.set_cons_succ, k_var, k_op, k_op2, k_un, k_some, k_tof, k_asgN, k_ret, k_seqR, k_seqN, k_cons, k_cons2, k_cb, k_cn, k_cp, k_frz, k_par, k_par2, k_forV, k_truB, k_truT, k_not, k_orF, k_andT, k_andF, k_orT, k_ifT, k_ifF, k_ifeT, k_ifeF, i_ge, i_sub, i_neg, i_eq, i_ne, in_pr, nin_pr, pl_0, pl_1, pl_2, pr_0, pr_1, R.bind, k_tup, k_lst, List.length_cons, List.length_nil, Nat.reduceAdd, Nat.reduceLeDiff, decide_true, decide_false, Bool.not_true, Bool.not_false, Bool.true_and, Bool.false_and, Bool.and_true, Bool.and_false, Bool.or_true, Bool.or_false, if_true, if_false, Bool.false_eq_true, wipeE, tup_lst, v_yes, len_tup, i_lt, i_gt, i_add, k_asgT3, k_asgP, Bool.false_or, Bool.true_or, v_rg1, v_rg2, k_rg1, k_rg2, k_rg2b, v_it, k_itL, k_itT, v_lrg, k_lrg, v_ct, k_ct, v_new, k_new, v_app, k_app, k_app1, k_app2, k_push, v_exp, k_exp, e1]
      rw [lc_ints (xs := left) (c := fun y => !decide (y = o)) (fv := D.int) (it_lst rfl) (by omega) (fun y hy => by
        simp only [runF, List.map_cons, List.map_nil, List.cons_append, List.nil_append, Nat.reduceSub, List.replicate_succ, List.replicate_zero, v_seq, v_if, v_tof, v_op, v_un, v_var, v_c, v_ret, v_nx, v_asg, v_and, v_or, v_not, v_nil, v_cons, v_tup, v_lst, v_frz, v_cb, v_cn, v_cp, v_ife, v_par, v_for, v_tru, List.getElem?_cons_zero, List.getElem?_cons_succ, List.set_cons_zero, List.set_cons_succ, k_var, k_op, k_op2, k_un, k_some, k_tof, k_asgN, k_ret, k_seqR, k_seqN, k_cons, k_cons2, k_cb, k_cn, k_cp, k_frz, k_par, k_par2, k_forV, k_truB, k_truT, k_not, k_orF, k_andT, k_andF, k_orT, k_ifT, k_ifF, k_ifeT, k_ifeF, i_ge, i_sub, i_neg, i_eq, i_ne, in_pr, nin_pr, pl_0, pl_1, pl_2, pr_0, pr_1, R.bind, k_tup, k_lst, List.length_cons, List.length_nil, Nat.reduceAdd, Nat.reduceLeDiff, decide_true, decide_false, Bool.not_true, Bool.not_false, Bool.true_and, Bool.false_and, Bool.and_true, Bool.and_false, Bool.or_true, Bool.or_false, if_true, if_false, Bool.false_eq_true, wipeE, tup_lst, v_yes, len_tup, i_lt, i_gt, i_add, k_asgT3, k_asgP, Bool.false_or, Bool.true_or, v_rg1, v_rg2, k_rg1, k_rg2, k_rg2b, v_it, k_itL, k_itT, v_lrg, k_lrg, v_ct, k_ct, v_new, k_new, v_app, k_app, k_app1, k_app2, k_push, v_exp, k_exp]
        exact ⟨trivial, fun _ => trivial⟩)]
      simp only [runF, List.map_cons, List.map_nil, List.cons_append, List.nil_append, Nat.reduceSub, List.replicate_succ, List.replicate_zero, v_seq, v_if, v_tof, v_op, v_un, v_var, v_c, v_ret, v_nx, v_asg, v_and, v_or, v_not, v_nil, v_cons, v_tup, v_lst, v_frz, v_cb, v_cn, v_cp, v_ife, v_par, v_for, v_tru, List.getElem?_cons_zero, List.getElem?_cons_succ, List.set_cons_zero, List.set_cons_succ, k_var, k_op, k_op2, k_un, k_some, k_tof, k_asgN, k_ret, k_seqR, k_seqN, k_cons, k_cons2, k_cb, k_cn, k_cp, k_frz, k_par, k_par2, k_forV, k_truB, k_truT, k_not, k_orF, k_andT, k_andF, k_orT, k_ifT, k_ifF, k_ifeT, k_ifeF, i_ge, i_sub, i_neg, i_eq, i_ne, in_pr, nin_pr, pl_0, pl_1, pl_2, pr_0, pr_1, R.bind, k_tup, k_lst, List.length_cons, List.length_nil, Nat.reduceAdd, Nat.reduceLeDiff, decide_true, decide_false, Bool.not_true, Bool.not_false, Bool.true_and, Bool.false_and, Bool.and_true, Bool.and_false, Bool.or_true, Bool.or_false, if_true, if_false, Bool.false_eq_true, wipeE, tup_lst, v_yes, len_tup, i_lt, i_gt, i_add, k_asgT3, k_asgP, Bool.false_or, Bool.true_or, v_rg1, v_rg2, k_rg1, k_rg2, k_rg2b, v_it, k_itL, k_itT, v_lrg, k_lrg, v_ct, k_ct, v_new, k_new, v_app, k_app, k_app1, k_app2, k_push, v_exp, k_exp, hc1, hsk]
      refine ⟨_, _, rfl, left.filter fun y => !decide (y = o), found ++ [o], _, _, _, rfl, ?_, by simp [hl], ?_, (hK.trans T.k).put (Nat.le_refl _), ?_⟩
      · refine List.Perm.trans ?_ hp
        rw [List.append_assoc]
        exact (List.Perm.append_left found (perm_out ndl ho).symm)
      · rw [List.getElem?_set_self (List.getElem?_eq_some_iff.mp hc1).1, List.map_append]
        rfl
      · refine (T.s.put ?_ (by omega)).mono (by simp; omega)
        have := purC_ints (xs := found ++ [o])
        rw [List.map_append] at this
        exact this
    obtain ⟨left, found, x, y, z, rfl, hp, hl, hc, hK, hS⟩ := hI
    have hl0 : left = [] := by
      have hpl := hp.length_eq
      rw [len_rgL, List.length_append, hl, len_rgL] at hpl
      exact List.length_eq_zero_iff.mp (by omega)
    subst hl0
    rw [List.append_nil] at hp
    simp only [runF, List.map_cons, List.map_nil, List.cons_append, List.nil_append, Nat.reduceSub, List.replicate_succ, List.replicate_zero, v_seq, v_if, v_tof, v_op, v_un, v_var, v_c, v_ret, v_nx, v_asg, v_and, v_or, v_not, v_nil, v_cons, v_tup, v_lst, v_frz, v_cb, v_cn, v_cp, v_ife, v_par, v_for, v_tru, List.getElem?_cons_zero, List.getElem?_cons_succ, List.set_cons_zero, List.set_cons_succ, k_var, k_op, k_op2, k_un, k_some, k_tof, k_asgN, k_ret, k_seqR, k_seqN, k_cons, k_cons2, k_cb, k_cn, k_cp, k_frz, k_par, k_par2, k_forV, k_truB, k_truT, k_not, k_orF, k_andT, k_andF, k_orT, k_ifT, k_ifF, k_ifeT, k_ifeF, i_ge, i_sub, i_neg, i_eq, i_ne, in_pr, nin_pr, pl_0, pl_1, pl_2, pr_0, pr_1, R.bind, k_tup, k_lst, List.length_cons, List.length_nil, Nat.reduceAdd, Nat.reduceLeDiff, decide_true, decide_false, Bool.not_true, Bool.not_false, Bool.true_and, Bool.false_and, Bool.and_true, Bool.and_false, Bool.or_true, Bool.or_false, if_true, if_false, Bool.false_eq_true, wipeE, tup_lst, v_yes, len_tup, i_lt, i_gt, i_add, k_asgT3, k_asgP, Bool.false_or, Bool.true_or, v_rg1, v_rg2, k_rg1, k_rg2, k_rg2b, v_it, k_itL, k_itT, v_lrg, k_lrg, v_ct, k_ct, v_new, k_new, v_app, k_app, k_app1, k_app2, k_push, v_exp, k_exp, tup_items (items_ref hc)]
    refine ⟨found, s', rfl, hp, hK, hS.mono ?_⟩
    rw [len_rgL]
    omega
  obtain ⟨l, st2, e, hp, hK, hS⟩ := run
  obtain ⟨st3, e3, T3⟩ := appT_ok (d' := .tup (l.map D.int)) h e hK hS (by
    show (if purs (l.map D.int) = true then some (D.tup (l.map D.int)) else none) = _
    rw [purs_int, if_pos rfl])
  exact ⟨l, st3, e3, hp, T3⟩
end
end FK

set_option Elab.async false
set_option linter.all false
set_option maxRecDepth 100000
namespace FK
open DL
def withoutP (P : Pl) (a : Int) : Pl := ⟨P.n, ((rgL 0 P.rows.length).filter fun k => !decide (k = a)).map (atR P.rows), sortP ((P.pairs.filter fun q => !(decide (q.1 = a) || decide (q.2 = a))).map (dnP a))⟩
theorem without_gentle {P : Pl} (h : Gentle P) {a : Int} (ha : inA P a) : Gentle (withoutP P a) := gentle_without h ha rfl rfl (sort_perm _) (sort_srt _)
theorem nin_in {q : Int × Int} {a : Int} {st : Store} : opNotIn st (.int a) (prD q) = some (.bl (!(decide (q.1 = a) || decide (q.2 = a)))) := by
  show some (D.bl (!(decide (q.1 = a) || (decide (q.2 = a) || false)))) = _
  rw [Bool.or_false]
theorem map_rows {P : Pl} {xs : List Int} : (xs.map fun k => prD (atR P.rows k)) = (xs.map (atR P.rows)).map prD := by rw [List.map_map]; rfl
theorem map_prs {ps : List (Int × Int)} {f : Int × Int → Int × Int} : (ps.map fun q => prD (f q)) = (ps.map f).map prD := by rw [List.map_map]; rfl
theorem fil_true {α : Type} {l : List α} : (l.filter fun _ => true) = l := List.filter_eq_self.mpr fun _ _ => rfl
theorem ap_without {P : Pl} (s : Small P) {a : Int} : appP f__law_without [plD P, .int a] = some (plD (withoutP P a)) := by
  refine app_pl (purs_pl rfl) ?_
  have hl : (P.pairs.filter fun q => !(decide (q.1 = a) || decide (q.2 = a))).length ≤ 16777216 := Nat.le_trans (List.length_filter_le ..) (len_prs s)
  simp only [f__law_without, b__law_without, runF, List.map_cons, List.map_nil, List.cons_append, List.nil_append, Nat.reduceSub, List.replicate_succ, List.replicate_zero, v_seq, v_if, v_tof, v_op, v_un, v_var, v_c, v_ret, v_nx, v_asg, v_and, v_or, v_not, v_nil, v_cons, v_tup, v_lst, v_frz, v_cb, v_cn, v_cp, v_ife, v_par, v_for, v_tru, List.getElem?_cons_zero, List.getElem?_cons_succ, List.set_cons_zero, List.set_cons_succ, k_var, k_op, k_op2, k_un, k_some, k_tof, k_asgN, k_ret, k_seqR, k_seqN, k_cons, k_cons2, k_cb, k_cn, k_cp, k_frz, k_par, k_par2, k_forV, k_truB, k_truT, k_not, k_orF, k_andT, k_andF, k_orT, k_ifT, k_ifF, k_ifeT, k_ifeF, i_ge, i_sub, i_neg, i_eq, i_ne, in_pr, nin_pr, pl_0, pl_1, pl_2, pr_0, pr_1, R.bind, k_tup, k_lst, List.length_cons, List.length_nil, Nat.reduceAdd, Nat.reduceLeDiff, decide_true, decide_false, Bool.not_true, Bool.not_false, Bool.true_and, Bool.false_and, Bool.and_true, Bool.and_false, Bool.or_true, Bool.or_false, if_true, if_false, Bool.false_eq_true, wipeE, tup_lst, v_yes, len_tup, i_lt, i_gt, i_add, k_asgT3, k_asgP, Bool.false_or, Bool.true_or, v_rg1, v_rg2, k_rg1, k_rg2, k_rg2b, v_it, k_itL, k_itT, v_lrg, k_lrg, v_ct, k_ct, v_new, k_new, v_app, k_app, k_app1, k_app2, k_push, v_exp, k_exp]
  rw [lc_ints (xs := arrI P) (c := fun k => !decide (k = a)) (fv := fun k => prD (atR P.rows k)) (by simp only [runF, List.map_cons, List.map_nil, List.cons_append, List.nil_append, Nat.reduceSub, List.replicate_succ, List.replicate_zero, v_seq, v_if, v_tof, v_op, v_un, v_var, v_c, v_ret, v_nx, v_asg, v_and, v_or, v_not, v_nil, v_cons, v_tup, v_lst, v_frz, v_cb, v_cn, v_cp, v_ife, v_par, v_for, v_tru, List.getElem?_cons_zero, List.getElem?_cons_succ, List.set_cons_zero, List.set_cons_succ, k_var, k_op, k_op2, k_un, k_some, k_tof, k_asgN, k_ret, k_seqR, k_seqN, k_cons, k_cons2, k_cb, k_cn, k_cp, k_frz, k_par, k_par2, k_forV, k_truB, k_truT, k_not, k_orF, k_andT, k_andF, k_orT, k_ifT, k_ifF, k_ifeT, k_ifeF, i_ge, i_sub, i_neg, i_eq, i_ne, in_pr, nin_pr, pl_0, pl_1, pl_2, pr_0, pr_1, R.bind, k_tup, k_lst, List.length_cons, List.length_nil, Nat.reduceAdd, Nat.reduceLeDiff, decide_true, decide_false, Bool.not_true, Bool.not_false, Bool.true_and, Bool.false_and, Bool.and_true, Bool.and_false, Bool.or_true, Bool.or_false, if_true, if_false, Bool.false_eq_true, wipeE, tup_lst, v_yes, len_tup, i_lt, i_gt, i_add, k_asgT3, k_asgP, Bool.false_or, Bool.true_or, v_rg1, v_rg2, k_rg1, k_rg2, k_rg2b, v_it, k_itL, k_itT, v_lrg, k_lrg, v_ct, k_ct, v_new, k_new, v_app, k_app, k_app1, k_app2, k_push, v_exp, k_exp, rg_rows s]; rfl) (len_arr s) (fun x hx => by
    have hx := mem_arr.mp hx
    simp only [runF, List.map_cons, List.map_nil, List.cons_append, List.nil_append, Nat.reduceSub, List.replicate_succ, List.replicate_zero, v_seq, v_if, v_tof, v_op, v_un, v_var, v_c, v_ret, v_nx, v_asg, v_and, v_or, v_not, v_nil, v_cons, v_tup, v_lst, v_frz, v_cb, v_cn, v_cp, v_ife, v_par, v_for, v_tru, List.getElem?_cons_zero, List.getElem?_cons_succ, List.set_cons_zero, List.set_cons_succ, k_var, k_op, k_op2, k_un, k_some, k_tof, k_asgN, k_ret, k_seqR, k_seqN, k_cons, k_cons2, k_cb, k_cn, k_cp, k_frz, k_par, k_par2, k_forV, k_truB, k_truT, k_not, k_orF, k_andT, k_andF, k_orT, k_ifT, k_ifF, k_ifeT, k_ifeF, i_ge, i_sub, i_neg, i_eq, i_ne, in_pr, nin_pr, pl_0, pl_1, pl_2, pr_0, pr_1, R.bind, k_tup, k_lst, List.length_cons, List.length_nil, Nat.reduceAdd, Nat.reduceLeDiff, decide_true, decide_false, Bool.not_true, Bool.not_false, Bool.true_and, Bool.false_and, Bool.and_true, Bool.and_false, Bool.or_true, Bool.or_false, if_true, if_false, Bool.false_eq_true, wipeE, tup_lst, v_yes, len_tup, i_lt, i_gt, i_add, k_asgT3, k_asgP, Bool.false_or, Bool.true_or, v_rg1, v_rg2, k_rg1, k_rg2, k_rg2b, v_it, k_itL, k_itT, v_lrg, k_lrg, v_ct, k_ct, v_new, k_new, v_app, k_app, k_app1, k_app2, k_push, v_exp, k_exp, ix_map hx.1 (row_pos hx)]
    exact ⟨trivial, fun _ => trivial⟩)]
  simp only [runF, List.map_cons, List.map_nil, List.cons_append, List.nil_append, Nat.reduceSub, List.replicate_succ, List.replicate_zero, v_seq, v_if, v_tof, v_op, v_un, v_var, v_c, v_ret, v_nx, v_asg, v_and, v_or, v_not, v_nil, v_cons, v_tup, v_lst, v_frz, v_cb, v_cn, v_cp, v_ife, v_par, v_for, v_tru, List.getElem?_cons_zero, List.getElem?_cons_succ, List.set_cons_zero, List.set_cons_succ, k_var, k_op, k_op2, k_un, k_some, k_tof, k_asgN, k_ret, k_seqR, k_seqN, k_cons, k_cons2, k_cb, k_cn, k_cp, k_frz, k_par, k_par2, k_forV, k_truB, k_truT, k_not, k_orF, k_andT, k_andF, k_orT, k_ifT, k_ifF, k_ifeT, k_ifeF, i_ge, i_sub, i_neg, i_eq, i_ne, in_pr, nin_pr, pl_0, pl_1, pl_2, pr_0, pr_1, R.bind, k_tup, k_lst, List.length_cons, List.length_nil, Nat.reduceAdd, Nat.reduceLeDiff, decide_true, decide_false, Bool.not_true, Bool.not_false, Bool.true_and, Bool.false_and, Bool.and_true, Bool.and_false, Bool.or_true, Bool.or_false, if_true, if_false, Bool.false_eq_true, wipeE, tup_lst, v_yes, len_tup, i_lt, i_gt, i_add, k_asgT3, k_asgP, Bool.false_or, Bool.true_or, v_rg1, v_rg2, k_rg1, k_rg2, k_rg2b, v_it, k_itL, k_itT, v_lrg, k_lrg, v_ct, k_ct, v_new, k_new, v_app, k_app, k_app1, k_app2, k_push, v_exp, k_exp, map_rows]
  rw [lc_prs (ps := P.pairs) (c := fun q => !(decide (q.1 = a) || decide (q.2 = a))) (fv := prD) (it_tup rfl) (len_prs s) (fun q _ => by
    simp only [runF, List.map_cons, List.map_nil, List.cons_append, List.nil_append, Nat.reduceSub, List.replicate_succ, List.replicate_zero, v_seq, v_if, v_tof, v_op, v_un, v_var, v_c, v_ret, v_nx, v_asg, v_and, v_or, v_not, v_nil, v_cons, v_tup, v_lst, v_frz, v_cb, v_cn, v_cp, v_ife, v_par, v_for, v_tru, List.getElem?_cons_zero, List.getElem?_cons_succ, List.set_cons_zero, List.set_cons_succ, k_var, k_op, k_op2, k_un, k_some, k_tof, k_asgN, k_ret, k_seqR, k_seqN, k_cons, k_cons2, k_cb, k_cn, k_cp, k_frz, k_par, k_par2, k_forV, k_truB, k_truT, k_not, k_orF, k_andT, k_andF, k_orT, k_ifT, k_ifF, k_ifeT, k_ifeF, i_ge, i_sub, i_neg, i_eq, i_ne, in_pr, nin_pr, pl_0, pl_1, pl_2, pr_0, pr_1, R.bind, k_tup, k_lst, List.length_cons, List.length_nil, Nat.reduceAdd, Nat.reduceLeDiff, decide_true, decide_false, Bool.not_true, Bool.not_false, Bool.true_and, Bool.false_and, Bool.and_true, Bool.and_false, Bool.or_true, Bool.or_false, if_true, if_false, Bool.false_eq_true, wipeE, tup_lst, v_yes, len_tup, i_lt, i_gt, i_add, k_asgT3, k_asgP, Bool.false_or, Bool.true_or, v_rg1, v_rg2, k_rg1, k_rg2, k_rg2b, v_it, k_itL, k_itT, v_lrg, k_lrg, v_ct, k_ct, v_new, k_new, v_app, k_app, k_app1, k_app2, k_push, v_exp, k_exp, nin_in]
    exact ⟨trivial, fun _ => trivial⟩)]
  simp only [runF, List.map_cons, List.map_nil, List.cons_append, List.nil_append, Nat.reduceSub, List.replicate_succ, List.replicate_zero, v_seq, v_if, v_tof, v_op, v_un, v_var, v_c, v_ret, v_nx, v_asg, v_and, v_or, v_not, v_nil, v_cons, v_tup, v_lst, v_frz, v_cb, v_cn, v_cp, v_ife, v_par, v_for, v_tru, List.getElem?_cons_zero, List.getElem?_cons_succ, List.set_cons_zero, List.set_cons_succ, k_var, k_op, k_op2, k_un, k_some, k_tof, k_asgN, k_ret, k_seqR, k_seqN, k_cons, k_cons2, k_cb, k_cn, k_cp, k_frz, k_par, k_par2, k_forV, k_truB, k_truT, k_not, k_orF, k_andT, k_andF, k_orT, k_ifT, k_ifF, k_ifeT, k_ifeF, i_ge, i_sub, i_neg, i_eq, i_ne, in_pr, nin_pr, pl_0, pl_1, pl_2, pr_0, pr_1, R.bind, k_tup, k_lst, List.length_cons, List.length_nil, Nat.reduceAdd, Nat.reduceLeDiff, decide_true, decide_false, Bool.not_true, Bool.not_false, Bool.true_and, Bool.false_and, Bool.and_true, Bool.and_false, Bool.or_true, Bool.or_false, if_true, if_false, Bool.false_eq_true, wipeE, tup_lst, v_yes, len_tup, i_lt, i_gt, i_add, k_asgT3, k_asgP, Bool.false_or, Bool.true_or, v_rg1, v_rg2, k_rg1, k_rg2, k_rg2b, v_it, k_itL, k_itT, v_lrg, k_lrg, v_ct, k_ct, v_new, k_new, v_app, k_app, k_app1, k_app2, k_push, v_exp, k_exp]
  rw [lc_prs2 (ps := P.pairs.filter fun q => !(decide (q.1 = a) || decide (q.2 = a))) (c := fun _ => true) (fv := fun q => prD (dnP a q)) (it_lst rfl) hl (fun q _ => by
    cases e1 : decide (a < q.1) <;> cases e2 : decide (a < q.2) <;> simp only [runF, List.map_cons, List.map_nil, List.cons_append, List.nil_append, Nat.reduceSub, List.replicate_succ, List.replicate_zero, v_seq, v_if, v_tof, v_op, v_un, v_var, v_c, v_ret, v_nx, v_asg, v_and, v_or, v_not, v_nil, v_cons, v_tup, v_lst, v_frz, v_cb, v_cn, v_cp, v_ife, v_par, v_for, v_tru, List.getElem?_cons_zero, List.getElem?_cons_succ, List.set_cons_zero, List.set_cons_succ, k_var, k_op, k_op2, k_un, k_some, k_tof, k_asgN, k_ret, k_seqR, k_seqN, k_cons, k_cons2, k_cb, k_cn, k_cp, k_frz, k_par, k_par2, k_forV, k_truB, k_truT, k_not, k_orF, k_andT, k_andF, k_orT, k_ifT, k_ifF, k_ifeT, k_ifeF, i_ge, i_sub, i_neg, i_eq, i_ne, in_pr, nin_pr, pl_0, pl_1, pl_2, pr_0, pr_1, R.bind, k_tup, k_lst, List.length_cons, List.length_nil, Nat.reduceAdd, Nat.reduceLeDiff, decide_true, decide_false, Bool.not_true, Bool.not_false, Bool.true_and, Bool.false_and, Bool.and_true, Bool.and_false, Bool.or_true, Bool.or_false, if_true, if_false, Bool.false_eq_true, wipeE, tup_lst, v_yes, len_tup, i_lt, i_gt, i_add, k_asgT3, k_asgP, Bool.false_or, Bool.true_or, v_rg1, v_rg2, k_rg1, k_rg2, k_rg2b, v_it, k_itL, k_itT, v_lrg, k_lrg, v_ct, k_ct, v_new, k_new, v_app, k_app, k_app1, k_app2, k_push, v_exp, k_exp, e1, e2, dnP, dnI, prD] <;> simp only [decide_eq_true_eq, decide_eq_false_iff_not] at e1 e2 <;> simp only [e1, e2, if_true, if_false] <;> exact ⟨trivial, fun _ => trivial⟩)]
  have so : ∀ st, opSortB st [.lst (((P.pairs.filter fun q => !(decide (q.1 = a) || decide (q.2 = a))).map (dnP a)).map prD)] = _ := fun st => sort_lst (st := st) (by rw [List.length_map]; exact hl)
  simp only [runF, List.map_cons, List.map_nil, List.cons_append, List.nil_append, Nat.reduceSub, List.replicate_succ, List.replicate_zero, v_seq, v_if, v_tof, v_op, v_un, v_var, v_c, v_ret, v_nx, v_asg, v_and, v_or, v_not, v_nil, v_cons, v_tup, v_lst, v_frz, v_cb, v_cn, v_cp, v_ife, v_par, v_for, v_tru, List.getElem?_cons_zero, List.getElem?_cons_succ, List.set_cons_zero, List.set_cons_succ, k_var, k_op, k_op2, k_un, k_some, k_tof, k_asgN, k_ret, k_seqR, k_seqN, k_cons, k_cons2, k_cb, k_cn, k_cp, k_frz, k_par, k_par2, k_forV, k_truB, k_truT, k_not, k_orF, k_andT, k_andF, k_orT, k_ifT, k_ifF, k_ifeT, k_ifeF, i_ge, i_sub, i_neg, i_eq, i_ne, in_pr, nin_pr, pl_0, pl_1, pl_2, pr_0, pr_1, R.bind, k_tup, k_lst, List.length_cons, List.length_nil, Nat.reduceAdd, Nat.reduceLeDiff, decide_true, decide_false, Bool.not_true, Bool.not_false, Bool.true_and, Bool.false_and, Bool.and_true, Bool.and_false, Bool.or_true, Bool.or_false, if_true, if_false, Bool.false_eq_true, wipeE, tup_lst, v_yes, len_tup, i_lt, i_gt, i_add, k_asgT3, k_asgP, Bool.false_or, Bool.true_or, v_rg1, v_rg2, k_rg1, k_rg2, k_rg2b, v_it, k_itL, k_itT, v_lrg, k_lrg, v_ct, k_ct, v_new, k_new, v_app, k_app, k_app1, k_app2, k_push, v_exp, k_exp, fil_true, map_prs, so]
  rfl
/-- loops that may return -/
theorem for_rets {i : Nat} {body : EvT} {xs : List Int} {env : Ent} {st : Store} {r : R (Out × Ent)} (Inv : Ent → Store → Prop) (Q : D → Store → Prop) (hf : forVals (tgN i) body (xs.map D.int) env st = r) (hI : Inv env st)
    (hb : ∀ x ∈ xs, ∀ e s, Inv e s → (∃ e2 s2, body (e.set i (some (.int x))) s = .ok (.nx, e2) s2 ∧ Inv e2 s2) ∨ (∃ d e2 s2, body (e.set i (some (.int x))) s = .ok (.rt d, e2) s2 ∧ Q d s2)) :
    (∃ e' s', Inv e' s' ∧ r = .ok (.nx, e') s') ∨ (∃ d e' s', Q d s' ∧ r = .ok (.rt d, e') s') := by
  subst hf
  have gen : ∀ (ys : List Int) (env : Ent) (st : Store), (∀ y ∈ ys, y ∈ xs) → Inv env st → (∃ e' s', Inv e' s' ∧ forVals (tgN i) body (ys.map D.int) env st = .ok (.nx, e') s') ∨ (∃ d e' s', Q d s' ∧ forVals (tgN i) body (ys.map D.int) env st = .ok (.rt d, e') s') := by
    intro ys
    induction ys with
    | nil => exact fun env st _ hI => .inl ⟨env, st, hI, rfl⟩
    | cons y ys ih =>
      intro env st hx hI
      have step : forVals (tgN i) body ((y :: ys).map D.int) env st = (body (env.set i (some (.int y))) st).bind fun o st2 => match o with
        | (.nx, env2) => forVals (tgN i) body (ys.map D.int) env2 st2
        | (.ct, env2) => forVals (tgN i) body (ys.map D.int) env2 st2
        | (.bk, env2) => .ok (.nx, env2) st2
        | (.rt d, env2) => .ok (.rt d, env2) st2 := rfl
      rw [step]
      rcases hb y (hx y (List.mem_cons_self ..)) env st hI with ⟨e2, s2, h1, h2⟩ | ⟨d, e2, s2, h1, h2⟩
      · rw [h1]
        exact ih e2 s2 (fun z hz => hx z (List.mem_cons_of_mem _ hz)) h2
      · rw [h1]
        exact .inr ⟨d, e2, s2, h2, rfl⟩
  exact gen xs env st (fun _ h => h) hI
theorem ne_optZ {o : Option Int} {a : Int} {st : Store} : opNe st (optZ o) (.int a) = some (.bl (!decide (o = some a))) := by
  cases o with
  | none => rfl
  | some x =>
    show some (D.bl (!decide (x = a))) = _
    simp
theorem ap_round {P : Pl} (h : Gentle P) : ∃ o, (∀ a, o = some a → inA P a) ∧ appP f__law_round_arrow [plD P] = some (optZ o) := by
  have s := h.small
  have run : ∃ o st, (∀ a, o = some a → inA P a) ∧ f__law_round_arrow [plD P] [] = .ok (optZ o) st := by
    simp only [f__law_round_arrow, b__law_round_arrow, runF, List.map_cons, List.map_nil, List.cons_append, List.nil_append, Nat.reduceSub, List.replicate_succ, List.replicate_zero, v_seq, v_if, v_tof, v_op, v_un, v_var, v_c, v_ret, v_nx, v_asg, v_and, v_or, v_not, v_nil, v_cons, v_tup, v_lst, v_frz, v_cb, v_cn, v_cp, v_ife, v_par, v_for, v_tru, List.getElem?_cons_zero, List.getElem?_cons_succ, List.set_cons_zero, List.set_cons_succ, k_var, k_op, k_op2, k_un, k_some, k_tof, k_asgN, k_ret, k_seqR, k_seqN, k_cons, k_cons2, k_cb, k_cn, k_cp, k_frz, k_par, k_par2, k_forV, k_truB, k_truT, k_not, k_orF, k_andT, k_andF, k_orT, k_ifT, k_ifF, k_ifeT, k_ifeF, i_ge, i_sub, i_neg, i_eq, i_ne, in_pr, nin_pr, pl_0, pl_1, pl_2, pr_0, pr_1, R.bind, k_tup, k_lst, List.length_cons, List.length_nil, Nat.reduceAdd, Nat.reduceLeDiff, decide_true, decide_false, Bool.not_true, Bool.not_false, Bool.true_and, Bool.false_and, Bool.and_true, Bool.and_false, Bool.or_true, Bool.or_false, if_true, if_false, Bool.false_eq_true, wipeE, tup_lst, v_yes, len_tup, i_lt, i_gt, i_add, k_asgT3, k_asgP, Bool.false_or, Bool.true_or, v_rg1, v_rg2, k_rg1, k_rg2, k_rg2b, v_it, k_itL, k_itT, v_lrg, k_lrg, v_ct, k_ct, v_new, k_new, v_app, k_app, k_app1, k_app2, k_push, v_exp, k_exp, rg_rows s]
    generalize hf : forVals _ _ _ _ _ = r
    rcases for_rets (fun v s => ∃ x y z, v = [some (plD P), x, y, z] ∧ s = []) (fun d s => ∃ a, inA P a ∧ d = .int a) hf ⟨_, _, _, rfl, rfl⟩ (fun a ha e s0 hI => by
      obtain ⟨x, y, z, rfl, rfl⟩ := hI
      have ha := mem_arr.mp ha
      simp only [runF, List.map_cons, List.map_nil, List.cons_append, List.nil_append, Nat.reduceSub, List.replicate_succ, List.replicate_zero, v_seq, v_if, v_tof, v_op, v_un, v_var, v_c, v_ret, v_nx, v_asg, v_and, v_or, v_not, v_nil, v_cons, v_tup, v_lst, v_frz, v_cb, v_cn, v_cp, v_ife, v_par, v_for, v_tru, List.getElem?_cons_zero, List.getElem?_cons_succ, List.set_cons_zero, List.set_cons_succ, k_var, k_op, k_op2, k_un, k_some, k_tof, k_asgN, k_ret, k_seqR, k_seqN, k_cons, k_cons2, k_cb, k_cn, k_cp, k_frz, k_par, k_par2, k_forV, k_truB, k_truT, k_not, k_orF, k_andT, k_andF, k_orT, k_ifT, k_ifF, k_ifeT, k_ifeF, i_ge, i_sub, i_neg, i_eq, i_ne, in_pr, nin_pr, pl_0, pl_1, pl_2, pr_0, pr_1, R.bind, k_tup, k_lst, List.length_cons, List.length_nil, Nat.reduceAdd, Nat.reduceLeDiff, decide_true, decide_false, Bool.not_true, Bool.not_false, Bool.true_and, Bool.false_and, Bool.and_true, Bool.and_false, Bool.or_true, Bool.or_false, if_true, if_false, Bool.false_eq_true, wipeE, tup_lst, v_yes, len_tup, i_lt, i_gt, i_add, k_asgT3, k_asgP, Bool.false_or, Bool.true_or, v_rg1, v_rg2, k_rg1, k_rg2, k_rg2b, v_it, k_itL, k_itT, v_lrg, k_lrg, v_ct, k_ct, v_new, k_new, v_app, k_app, k_app1, k_app2, k_push, v_exp, k_exp, ap_lnext h ha, rg_rows s]
      generalize hg : forVals _ _ _ _ _ = q
      obtain ⟨e', s', hI, rfl⟩ := for_ints (fun v s => ∃ (o : Option Int) (x : Option D), v = [some (plD P), some (.int a), some (optZ o), x] ∧ (∀ k, o = some k → inA P k) ∧ s = []) hg ⟨_, _, rfl, fun k hk => next_in hk, rfl⟩ fun x hx e s1 hI => by
        obtain ⟨o, x', rfl, ho, rfl⟩ := hI
        cases o with
        | none =>
          simp only [runF, List.map_cons, List.map_nil, List.cons_append, List.nil_append, Nat.reduceSub, List.replicate_succ, List.replicate_zero, v_seq, v_if, v_tof, v_op, v_un, v_var, v_c, v_ret, v_nx, v_asg, v_and, v_or, v_not, v_nil, v_cons, v_tup, v_lst, v_frz, v_cb, v_cn, v_cp, v_ife, v_par, v_for, v_tru, List.getElem?_cons_zero, List.getElem?_cons_succ, List.set_cons_zero, List.set_cons_succ, k_var, k_op, k_op2, k_un, k_some, k_tof, k_asgN, k_ret, k_seqR, k_seqN, k_cons, k_cons2, k_cb, k_cn, k_cp, k_frz, k_par, k_par2, k_forV, k_truB, k_truT, k_not, k_orF, k_andT, k_andF, k_orT, k_ifT, k_ifF, k_ifeT, k_ifeF, i_ge, i_sub, i_neg, i_eq, i_ne, in_pr, nin_pr, pl_0, pl_1, pl_2, pr_0, pr_1, R.bind, k_tup, k_lst, List.length_cons, List.length_nil, Nat.reduceAdd, Nat.reduceLeDiff, decide_true, decide_false, Bool.not_true, Bool.not_false, Bool.true_and, Bool.false_and, Bool.and_true, Bool.and_false, Bool.or_true, Bool.or_false, if_true, if_false, Bool.false_eq_true, wipeE, tup_lst, v_yes, len_tup, i_lt, i_gt, i_add, k_asgT3, k_asgP, Bool.false_or, Bool.true_or, v_rg1, v_rg2, k_rg1, k_rg2, k_rg2b, v_it, k_itL, k_itT, v_lrg, k_lrg, v_ct, k_ct, v_new, k_new, v_app, k_app, k_app1, k_app2, k_push, v_exp, k_exp, notN_Z, Option.isSome_none]
          exact ⟨_, _, rfl, none, _, rfl, (by intro k hk; cases hk), rfl⟩
        | some k =>
          have hk := ho k rfl
          cases e1 : decide (some k = some a) with
          | true =>
            simp only [runF, List.map_cons, List.map_nil, List.cons_append, List.nil_append, Nat.reduceSub, List.replicate_succ, List.replicate_zero, v_seq, v_if, v_tof, v_op, v_un, v_var, v_c, v_ret, v_nx, v_asg, v_and, v_or, v_not, v_nil, v_cons, v_tup, v_lst, v_frz, v_cb, v_cn, v_cp, v_ife, v_par, v_for, v_tru, List.getElem?_cons_zero, List.getElem?_cons_succ, List.set_cons_zero, List.set_cons_succ, k_var, k_op, k_op2, k_un, k_some, k_tof, k_asgN, k_ret, k_seqR, k_seqN, k_cons, k_cons2, k_cb, k_cn, k_cp, k_frz, k_par, k_par2, k_forV, k_truB, k_truT, k_not, k_orF, k_andT, k_andF, k_orT, k_ifT, k_ifF, k_ifeT, k_ifeF, i_ge, i_sub, i_neg, i_eq, i_ne, in_pr, nin_pr, pl_0, pl_1, pl_2, pr_0, pr_1, R.bind, k_tup, k_lst, List.length_cons, List.length_nil, Nat.reduceAdd, Nat.reduceLeDiff, decide_true, decide_false, Bool.not_true, Bool.not_false, Bool.true_and, Bool.false_and, Bool.and_true, Bool.and_false, Bool.or_true, Bool.or_false, if_true, if_false, Bool.false_eq_true, wipeE, tup_lst, v_yes, len_tup, i_lt, i_gt, i_add, k_asgT3, k_asgP, Bool.false_or, Bool.true_or, v_rg1, v_rg2, k_rg1, k_rg2, k_rg2b, v_it, k_itL, k_itT, v_lrg, k_lrg, v_ct, k_ct, v_new, k_new, v_app, k_app, k_app1, k_app2, k_push, v_exp, k_exp, notN_Z, Option.isSome_some, ne_optZ, e1]
            exact ⟨_, _, rfl, some k, _, rfl, ho, rfl⟩
          | false =>
            have e2 : optZ (some k) = .int k := rfl
            simp only [runF, List.map_cons, List.map_nil, List.cons_append, List.nil_append, Nat.reduceSub, List.replicate_succ, List.replicate_zero, v_seq, v_if, v_tof, v_op, v_un, v_var, v_c, v_ret, v_nx, v_asg, v_and, v_or, v_not, v_nil, v_cons, v_tup, v_lst, v_frz, v_cb, v_cn, v_cp, v_ife, v_par, v_for, v_tru, List.getElem?_cons_zero, List.getElem?_cons_succ, List.set_cons_zero, List.set_cons_succ, k_var, k_op, k_op2, k_un, k_some, k_tof, k_asgN, k_ret, k_seqR, k_seqN, k_cons, k_cons2, k_cb, k_cn, k_cp, k_frz, k_par, k_par2, k_forV, k_truB, k_truT, k_not, k_orF, k_andT, k_andF, k_orT, k_ifT, k_ifF, k_ifeT, k_ifeF, i_ge, i_sub, i_neg, i_eq, i_ne, in_pr, nin_pr, pl_0, pl_1, pl_2, pr_0, pr_1, R.bind, k_tup, k_lst, List.length_cons, List.length_nil, Nat.reduceAdd, Nat.reduceLeDiff, decide_true, decide_false, Bool.not_true, Bool.not_false, Bool.true_and, Bool.false_and, Bool.and_true, Bool.and_false, Bool.or_true, Bool.or_false, if_true, if_false, Bool.false_eq_true, wipeE, tup_lst, v_yes, len_tup, i_lt, i_gt, i_add, k_asgT3, k_asgP, Bool.false_or, Bool.true_or, v_rg1, v_rg2, k_rg1, k_rg2, k_rg2b, v_it, k_itL, k_itT, v_lrg, k_lrg, v_ct, k_ct, v_new, k_new, v_app, k_app, k_app1, k_app2, k_push, v_exp, k_exp, notN_Z, Option.isSome_some, ne_optZ, e1]
            simp only [runF, List.map_cons, List.map_nil, List.cons_append, List.nil_append, Nat.reduceSub, List.replicate_succ, List.replicate_zero, v_seq, v_if, v_tof, v_op, v_un, v_var, v_c, v_ret, v_nx, v_asg, v_and, v_or, v_not, v_nil, v_cons, v_tup, v_lst, v_frz, v_cb, v_cn, v_cp, v_ife, v_par, v_for, v_tru, List.getElem?_cons_zero, List.getElem?_cons_succ, List.set_cons_zero, List.set_cons_succ, k_var, k_op, k_op2, k_un, k_some, k_tof, k_asgN, k_ret, k_seqR, k_seqN, k_cons, k_cons2, k_cb, k_cn, k_cp, k_frz, k_par, k_par2, k_forV, k_truB, k_truT, k_not, k_orF, k_andT, k_andF, k_orT, k_ifT, k_ifF, k_ifeT, k_ifeF, i_ge, i_sub, i_neg, i_eq, i_ne, in_pr, nin_pr, pl_0, pl_1, pl_2, pr_0, pr_1, R.bind, k_tup, k_lst, List.length_cons, List.length_nil, Nat.reduceAdd, Nat.reduceLeDiff, decide_true, decide_false, Bool.not_true, Bool.not_false, Bool.true_and, Bool.false_and, Bool.and_true, Bool.and_false, Bool.or_true, Bool.or_false, if_true, if_false, Bool.false_eq_true, wipeE, tup_lst, v_yes, len_tup, i_lt, i_gt, i_add, k_asgT3, k_asgP, Bool.false_or, Bool.true_or, v_rg1, v_rg2, k_rg1, k_rg2, k_rg2b, v_it, k_itL, k_itT, v_lrg, k_lrg, v_ct, k_ct, v_new, k_new, v_app, k_app, k_app1, k_app2, k_push, v_exp, k_exp, e2, ap_lnext h hk]
            exact ⟨_, _, rfl, _, _, rfl, fun j hj => next_in hj, rfl⟩
      obtain ⟨o, x, rfl, ho, rfl⟩ := hI
      simp only [runF, List.map_cons, List.map_nil, List.cons_append, List.nil_append, Nat.reduceSub, List.replicate_succ, List.replicate_zero, v_seq, v_if, v_tof, v_op, v_un, v_var, v_c, v_ret, v_nx, v_asg, v_and, v_or, v_not, v_nil, v_cons, v_tup, v_lst, v_frz, v_cb, v_cn, v_cp, v_ife, v_par, v_for, v_tru, List.getElem?_cons_zero, List.getElem?_cons_succ, List.set_cons_zero, List.set_cons_succ, k_var, k_op, k_op2, k_un, k_some, k_tof, k_asgN, k_ret, k_seqR, k_seqN, k_cons, k_cons2, k_cb, k_cn, k_cp, k_frz, k_par, k_par2, k_forV, k_truB, k_truT, k_not, k_orF, k_andT, k_andF, k_orT, k_ifT, k_ifF, k_ifeT, k_ifeF, i_ge, i_sub, i_neg, i_eq, i_ne, in_pr, nin_pr, pl_0, pl_1, pl_2, pr_0, pr_1, R.bind, k_tup, k_lst, List.length_cons, List.length_nil, Nat.reduceAdd, Nat.reduceLeDiff, decide_true, decide_false, Bool.not_true, Bool.not_false, Bool.true_and, Bool.false_and, Bool.and_true, Bool.and_false, Bool.or_true, Bool.or_false, if_true, if_false, Bool.false_eq_true, wipeE, tup_lst, v_yes, len_tup, i_lt, i_gt, i_add, k_asgT3, k_asgP, Bool.false_or, Bool.true_or, v_rg1, v_rg2, k_rg1, k_rg2, k_rg2b, v_it, k_itL, k_itT, v_lrg, k_lrg, v_ct, k_ct, v_new, k_new, v_app, k_app, k_app1, k_app2, k_push, v_exp, k_exp, eq_optZ]
      cases e1 : decide (o = some a) with
      | true =>
        simp only [runF, List.map_cons, List.map_nil, List.cons_append, List.nil_append, Nat.reduceSub, List.replicate_succ, List.replicate_zero, v_seq, v_if, v_tof, v_op, v_un, v_var, v_c, v_ret, v_nx, v_asg, v_and, v_or, v_not, v_nil, v_cons, v_tup, v_lst, v_frz, v_cb, v_cn, v_cp, v_ife, v_par, v_for, v_tru, List.getElem?_cons_zero, List.getElem?_cons_succ, List.set_cons_zero, List.set_cons_succ, k_var, k_op, k_op2, k_un, k_some, k_tof, k_asgN, k_ret, k_seqR, k_seqN, k_cons, k_cons2, k_cb, k_cn, k_cp, k_frz, k_par, k_par2, k_forV, k_truB, k_truT, k_not, k_orF, k_andT, k_andF, k_orT, k_ifT, k_ifF, k_ifeT, k_ifeF, i_ge, i_sub, i_neg, i_eq, i_ne, in_pr, nin_pr, pl_0, pl_1, pl_2, pr_0, pr_1, R.bind, k_tup, k_lst, List.length_cons, List.length_nil, Nat.reduceAdd, Nat.reduceLeDiff, decide_true, decide_false, Bool.not_true, Bool.not_false, Bool.true_and, Bool.false_and, Bool.and_true, Bool.and_false, Bool.or_true, Bool.or_false, if_true, if_false, Bool.false_eq_true, wipeE, tup_lst, v_yes, len_tup, i_lt, i_gt, i_add, k_asgT3, k_asgP, Bool.false_or, Bool.true_or, v_rg1, v_rg2, k_rg1, k_rg2, k_rg2b, v_it, k_itL, k_itT, v_lrg, k_lrg, v_ct, k_ct, v_new, k_new, v_app, k_app, k_app1, k_app2, k_push, v_exp, k_exp]
        exact .inr ⟨_, _, _, rfl, a, ha, rfl⟩
      | false =>
        simp only [runF, List.map_cons, List.map_nil, List.cons_append, List.nil_append, Nat.reduceSub, List.replicate_succ, List.replicate_zero, v_seq, v_if, v_tof, v_op, v_un, v_var, v_c, v_ret, v_nx, v_asg, v_and, v_or, v_not, v_nil, v_cons, v_tup, v_lst, v_frz, v_cb, v_cn, v_cp, v_ife, v_par, v_for, v_tru, List.getElem?_cons_zero, List.getElem?_cons_succ, List.set_cons_zero, List.set_cons_succ, k_var, k_op, k_op2, k_un, k_some, k_tof, k_asgN, k_ret, k_seqR, k_seqN, k_cons, k_cons2, k_cb, k_cn, k_cp, k_frz, k_par, k_par2, k_forV, k_truB, k_truT, k_not, k_orF, k_andT, k_andF, k_orT, k_ifT, k_ifF, k_ifeT, k_ifeF, i_ge, i_sub, i_neg, i_eq, i_ne, in_pr, nin_pr, pl_0, pl_1, pl_2, pr_0, pr_1, R.bind, k_tup, k_lst, List.length_cons, List.length_nil, Nat.reduceAdd, Nat.reduceLeDiff, decide_true, decide_false, Bool.not_true, Bool.not_false, Bool.true_and, Bool.false_and, Bool.and_true, Bool.and_false, Bool.or_true, Bool.or_false, if_true, if_false, Bool.false_eq_true, wipeE, tup_lst, v_yes, len_tup, i_lt, i_gt, i_add, k_asgT3, k_asgP, Bool.false_or, Bool.true_or, v_rg1, v_rg2, k_rg1, k_rg2, k_rg2b, v_it, k_itL, k_itT, v_lrg, k_lrg, v_ct, k_ct, v_new, k_new, v_app, k_app, k_app1, k_app2, k_push, v_exp, k_exp]
        exact .inl ⟨_, _, rfl, _, _, _, rfl, rfl⟩) with ⟨e', s', hI, rfl⟩ | ⟨d, e', s', ⟨a, ha, rfl⟩, rfl⟩
    · obtain ⟨x, y, z, rfl, rfl⟩ := hI
      simp only [runF, List.map_cons, List.map_nil, List.cons_append, List.nil_append, Nat.reduceSub, List.replicate_succ, List.replicate_zero, v_seq, v_if, v_tof, v_op, v_un, v_var, v_c, v_ret, v_nx, v_asg, v_and, v_or, v_not, v_nil, v_cons, v_tup, v_lst, v_frz, v_cb, v_cn, v_cp, v_ife, v_par, v_for, v_tru, List.getElem?_cons_zero, List.getElem?_cons_succ, List.set_cons_zero, List.set_cons_succ, k_var, k_op, k_op2, k_un, k_some, k_tof, k_asgN, k_ret, k_seqR, k_seqN, k_cons, k_cons2, k_cb, k_cn, k_cp, k_frz, k_par, k_par2, k_forV, k_truB, k_truT, k_not, k_orF, k_andT, k_andF, k_orT, k_ifT, k_ifF, k_ifeT, k_ifeF, i_ge, i_sub, i_neg, i_eq, i_ne, in_pr, nin_pr, pl_0, pl_1, pl_2, pr_0, pr_1, R.bind, k_tup, k_lst, List.length_cons, List.length_nil, Nat.reduceAdd, Nat.reduceLeDiff, decide_true, decide_false, Bool.not_true, Bool.not_false, Bool.true_and, Bool.false_and, Bool.and_true, Bool.and_false, Bool.or_true, Bool.or_false, if_true, if_false, Bool.false_eq_true, wipeE, tup_lst, v_yes, len_tup, i_lt, i_gt, i_add, k_asgT3, k_asgP, Bool.false_or, Bool.true_or, v_rg1, v_rg2, k_rg1, k_rg2, k_rg2b, v_it, k_itL, k_itT, v_lrg, k_lrg, v_ct, k_ct, v_new, k_new, v_app, k_app, k_app1, k_app2, k_push, v_exp, k_exp]
      exact ⟨none, _, (by intro a ha; cases ha), rfl⟩
    · simp only [runF, List.map_cons, List.map_nil, List.cons_append, List.nil_append, Nat.reduceSub, List.replicate_succ, List.replicate_zero, v_seq, v_if, v_tof, v_op, v_un, v_var, v_c, v_ret, v_nx, v_asg, v_and, v_or, v_not, v_nil, v_cons, v_tup, v_lst, v_frz, v_cb, v_cn, v_cp, v_ife, v_par, v_for, v_tru, List.getElem?_cons_zero, List.getElem?_cons_succ, List.set_cons_zero, List.set_cons_succ, k_var, k_op, k_op2, k_un, k_some, k_tof, k_asgN, k_ret, k_seqR, k_seqN, k_cons, k_cons2, k_cb, k_cn, k_cp, k_frz, k_par, k_par2, k_forV, k_truB, k_truT, k_not, k_orF, k_andT, k_andF, k_orT, k_ifT, k_ifF, k_ifeT, k_ifeF, i_ge, i_sub, i_neg, i_eq, i_ne, in_pr, nin_pr, pl_0, pl_1, pl_2, pr_0, pr_1, R.bind, k_tup, k_lst, List.length_cons, List.length_nil, Nat.reduceAdd, Nat.reduceLeDiff, decide_true, decide_false, Bool.not_true, Bool.not_false, Bool.true_and, Bool.false_and, Bool.and_true, Bool.and_false, Bool.or_true, Bool.or_false, if_true, if_false, Bool.false_eq_true, wipeE, tup_lst, v_yes, len_tup, i_lt, i_gt, i_add, k_asgT3, k_asgP, Bool.false_or, Bool.true_or, v_rg1, v_rg2, k_rg1, k_rg2, k_rg2b, v_it, k_itL, k_itT, v_lrg, k_lrg, v_ct, k_ct, v_new, k_new, v_app, k_app, k_app1, k_app2, k_push, v_exp, k_exp]
      exact ⟨some a, _, (by intro k hk; cases hk; exact ha), rfl⟩
  obtain ⟨o, st, ho, e⟩ := run
  exact ⟨o, ho, app_ok (purs_pl rfl) e out_optZ⟩
theorem ap_ended' {P : Pl} (h : Gentle P) : ∃ Q, Gentle Q ∧ Q.n = P.n ∧ appP f__law_ended [plD P] = some (plD Q) := by
  have s := h.small
  have run : ∃ Q st, Gentle Q ∧ Q.n = P.n ∧ f__law_ended [plD P] [] = .ok (plD Q) st := by
    simp only [f__law_ended, b__law_ended, runF, List.map_cons, List.map_nil, List.cons_append, List.nil_append, Nat.reduceSub, List.replicate_succ, List.replicate_zero, v_seq, v_if, v_tof, v_op, v_un, v_var, v_c, v_ret, v_nx, v_asg, v_and, v_or, v_not, v_nil, v_cons, v_tup, v_lst, v_frz, v_cb, v_cn, v_cp, v_ife, v_par, v_for, v_tru, List.getElem?_cons_zero, List.getElem?_cons_succ, List.set_cons_zero, List.set_cons_succ, k_var, k_op, k_op2, k_un, k_some, k_tof, k_asgN, k_ret, k_seqR, k_seqN, k_cons, k_cons2, k_cb, k_cn, k_cp, k_frz, k_par, k_par2, k_forV, k_truB, k_truT, k_not, k_orF, k_andT, k_andF, k_orT, k_ifT, k_ifF, k_ifeT, k_ifeF, i_ge, i_sub, i_neg, i_eq, i_ne, in_pr, nin_pr, pl_0, pl_1, pl_2, pr_0, pr_1, R.bind, k_tup, k_lst, List.length_cons, List.length_nil, Nat.reduceAdd, Nat.reduceLeDiff, decide_true, decide_false, Bool.not_true, Bool.not_false, Bool.true_and, Bool.false_and, Bool.and_true, Bool.and_false, Bool.or_true, Bool.or_false, if_true, if_false, Bool.false_eq_true, wipeE, tup_lst, v_yes, len_tup, i_lt, i_gt, i_add, k_asgT3, k_asgP, Bool.false_or, Bool.true_or, v_rg1, v_rg2, k_rg1, k_rg2, k_rg2b, v_it, k_itL, k_itT, v_lrg, k_lrg, v_ct, k_ct, v_new, k_new, v_app, k_app, k_app1, k_app2, k_push, v_exp, k_exp, rg_rows s]
    generalize hf : forVals _ _ _ _ _ = r
    obtain ⟨e', s', hI, rfl⟩ := for_ints (fun v s => ∃ Q x y, v = [some (plD Q), x, y] ∧ Gentle Q ∧ Q.n = P.n ∧ s = []) hf ⟨_, _, _, rfl, h, rfl, rfl⟩ fun x hx e s1 hI => by
      obtain ⟨Q, x', y', rfl, hQ, hn, rfl⟩ := hI
      obtain ⟨o, ho, e1⟩ := ap_round hQ
      simp only [runF, List.map_cons, List.map_nil, List.cons_append, List.nil_append, Nat.reduceSub, List.replicate_succ, List.replicate_zero, v_seq, v_if, v_tof, v_op, v_un, v_var, v_c, v_ret, v_nx, v_asg, v_and, v_or, v_not, v_nil, v_cons, v_tup, v_lst, v_frz, v_cb, v_cn, v_cp, v_ife, v_par, v_for, v_tru, List.getElem?_cons_zero, List.getElem?_cons_succ, List.set_cons_zero, List.set_cons_succ, k_var, k_op, k_op2, k_un, k_some, k_tof, k_asgN, k_ret, k_seqR, k_seqN, k_cons, k_cons2, k_cb, k_cn, k_cp, k_frz, k_par, k_par2, k_forV, k_truB, k_truT, k_not, k_orF, k_andT, k_andF, k_orT, k_ifT, k_ifF, k_ifeT, k_ifeF, i_ge, i_sub, i_neg, i_eq, i_ne, in_pr, nin_pr, pl_0, pl_1, pl_2, pr_0, pr_1, R.bind, k_tup, k_lst, List.length_cons, List.length_nil, Nat.reduceAdd, Nat.reduceLeDiff, decide_true, decide_false, Bool.not_true, Bool.not_false, Bool.true_and, Bool.false_and, Bool.and_true, Bool.and_false, Bool.or_true, Bool.or_false, if_true, if_false, Bool.false_eq_true, wipeE, tup_lst, v_yes, len_tup, i_lt, i_gt, i_add, k_asgT3, k_asgP, Bool.false_or, Bool.true_or, v_rg1, v_rg2, k_rg1, k_rg2, k_rg2b, v_it, k_itL, k_itT, v_lrg, k_lrg, v_ct, k_ct, v_new, k_new, v_app, k_app, k_app1, k_app2, k_push, v_exp, k_exp, e1, notN_Z]
      cases o with
      | none =>
        simp only [runF, List.map_cons, List.map_nil, List.cons_append, List.nil_append, Nat.reduceSub, List.replicate_succ, List.replicate_zero, v_seq, v_if, v_tof, v_op, v_un, v_var, v_c, v_ret, v_nx, v_asg, v_and, v_or, v_not, v_nil, v_cons, v_tup, v_lst, v_frz, v_cb, v_cn, v_cp, v_ife, v_par, v_for, v_tru, List.getElem?_cons_zero, List.getElem?_cons_succ, List.set_cons_zero, List.set_cons_succ, k_var, k_op, k_op2, k_un, k_some, k_tof, k_asgN, k_ret, k_seqR, k_seqN, k_cons, k_cons2, k_cb, k_cn, k_cp, k_frz, k_par, k_par2, k_forV, k_truB, k_truT, k_not, k_orF, k_andT, k_andF, k_orT, k_ifT, k_ifF, k_ifeT, k_ifeF, i_ge, i_sub, i_neg, i_eq, i_ne, in_pr, nin_pr, pl_0, pl_1, pl_2, pr_0, pr_1, R.bind, k_tup, k_lst, List.length_cons, List.length_nil, Nat.reduceAdd, Nat.reduceLeDiff, decide_true, decide_false, Bool.not_true, Bool.not_false, Bool.true_and, Bool.false_and, Bool.and_true, Bool.and_false, Bool.or_true, Bool.or_false, if_true, if_false, Bool.false_eq_true, wipeE, tup_lst, v_yes, len_tup, i_lt, i_gt, i_add, k_asgT3, k_asgP, Bool.false_or, Bool.true_or, v_rg1, v_rg2, k_rg1, k_rg2, k_rg2b, v_it, k_itL, k_itT, v_lrg, k_lrg, v_ct, k_ct, v_new, k_new, v_app, k_app, k_app1, k_app2, k_push, v_exp, k_exp, Option.isSome_none]
        exact ⟨_, _, rfl, Q, _, _, rfl, hQ, hn, rfl⟩
      | some a =>
        have e2 : optZ (some a) = .int a := rfl
        simp only [runF, List.map_cons, List.map_nil, List.cons_append, List.nil_append, Nat.reduceSub, List.replicate_succ, List.replicate_zero, v_seq, v_if, v_tof, v_op, v_un, v_var, v_c, v_ret, v_nx, v_asg, v_and, v_or, v_not, v_nil, v_cons, v_tup, v_lst, v_frz, v_cb, v_cn, v_cp, v_ife, v_par, v_for, v_tru, List.getElem?_cons_zero, List.getElem?_cons_succ, List.set_cons_zero, List.set_cons_succ, k_var, k_op, k_op2, k_un, k_some, k_tof, k_asgN, k_ret, k_seqR, k_seqN, k_cons, k_cons2, k_cb, k_cn, k_cp, k_frz, k_par, k_par2, k_forV, k_truB, k_truT, k_not, k_orF, k_andT, k_andF, k_orT, k_ifT, k_ifF, k_ifeT, k_ifeF, i_ge, i_sub, i_neg, i_eq, i_ne, in_pr, nin_pr, pl_0, pl_1, pl_2, pr_0, pr_1, R.bind, k_tup, k_lst, List.length_cons, List.length_nil, Nat.reduceAdd, Nat.reduceLeDiff, decide_true, decide_false, Bool.not_true, Bool.not_false, Bool.true_and, Bool.false_and, Bool.and_true, Bool.and_false, Bool.or_true, Bool.or_false, if_true, if_false, Bool.false_eq_true, wipeE, tup_lst, v_yes, len_tup, i_lt, i_gt, i_add, k_asgT3, k_asgP, Bool.false_or, Bool.true_or, v_rg1, v_rg2, k_rg1, k_rg2, k_rg2b, v_it, k_itL, k_itT, v_lrg, k_lrg, v_ct, k_ct, v_new, k_new, v_app, k_app, k_app1, k_app2, k_push, v_exp, k_exp, Option.isSome_some, e2, ap_without hQ.small]
        exact ⟨_, _, rfl, _, _, _, rfl, without_gentle hQ (ho a rfl), hn, rfl⟩
    obtain ⟨Q, x, y, rfl, hQ, hn, rfl⟩ := hI
    simp only [runF, List.map_cons, List.map_nil, List.cons_append, List.nil_append, Nat.reduceSub, List.replicate_succ, List.replicate_zero, v_seq, v_if, v_tof, v_op, v_un, v_var, v_c, v_ret, v_nx, v_asg, v_and, v_or, v_not, v_nil, v_cons, v_tup, v_lst, v_frz, v_cb, v_cn, v_cp, v_ife, v_par, v_for, v_tru, List.getElem?_cons_zero, List.getElem?_cons_succ, List.set_cons_zero, List.set_cons_succ, k_var, k_op, k_op2, k_un, k_some, k_tof, k_asgN, k_ret, k_seqR, k_seqN, k_cons, k_cons2, k_cb, k_cn, k_cp, k_frz, k_par, k_par2, k_forV, k_truB, k_truT, k_not, k_orF, k_andT, k_andF, k_orT, k_ifT, k_ifF, k_ifeT, k_ifeF, i_ge, i_sub, i_neg, i_eq, i_ne, in_pr, nin_pr, pl_0, pl_1, pl_2, pr_0, pr_1, R.bind, k_tup, k_lst, List.length_cons, List.length_nil, Nat.reduceAdd, Nat.reduceLeDiff, decide_true, decide_false, Bool.not_true, Bool.not_false, Bool.true_and, Bool.false_and, Bool.and_true, Bool.and_false, Bool.or_true, Bool.or_false, if_true, if_false, Bool.false_eq_true, wipeE, tup_lst, v_yes, len_tup, i_lt, i_gt, i_add, k_asgT3, k_asgP, Bool.false_or, Bool.true_or, v_rg1, v_rg2, k_rg1, k_rg2, k_rg2b, v_it, k_itL, k_itT, v_lrg, k_lrg, v_ct, k_ct, v_new, k_new, v_app, k_app, k_app1, k_app2, k_push, v_exp, k_exp]
    exact ⟨Q, _, hQ, hn, rfl⟩
  obtain ⟨Q, st, hQ, hn, e⟩ := run
  exact ⟨Q, hQ, hn, app_ok (purs_pl rfl) e (by
    show (if pur (plD Q) = true then some (plD Q) else none) = _
    rw [pur_pl, if_pos rfl])⟩
end FK

set_option Elab.async false
set_option linter.all false
set_option maxRecDepth 100000
namespace FK
open DL
def kCat (o : Option Cell) (ys : List D) (st : Store) : R (List D) := match o with
  | some (.lst xs) => if sOk (xs.length + ys.length) then .ok (xs ++ ys) st else .no
  | _ => .no
def kNadd2 (r : R D) (a : D) : R (List D) := r.bind fun b st2 => match deref st2 a, deref st2 b with
  | .lst xs, .lst ys => if sOk (xs.length + ys.length) then .ok (xs ++ ys) st2 else .no
  | _, _ => .no
def kNadd (r : R D) (g : Ev) (env : Ent) : R (List D) := r.bind fun a st1 => kNadd2 (g env st1) a
section
variable {f g : Ev} {env : Ent} {st : Store} {a c d : D} {j : Nat} {xs ys ds : List D}
theorem v_nadd : nAdd f g env st = kNadd (f env st) g env := rfl
theorem k_nadd : kNadd (.ok a st) g env = kNadd2 (g env st) a := rfl
theorem k_nadd2 : kNadd2 (.ok (.lst ys) st) (.ref j) = kCat st[j]? ys st := by
  unfold kNadd2
  have e : deref st (.ref j) = match st[j]? with | some (.lst ds) => .lst ds | _ => .ref j := rfl
  show (match deref st (.ref j), deref st (.lst ys) with | .lst xs, .lst ys => if sOk (xs.length + ys.length) = true then R.ok (xs ++ ys) st else .no | _, _ => .no) = _
  rw [e]
  cases st[j]? with
  | none => rfl
  | some c => cases c <;> rfl
theorem k_cat : kCat (some (.lst xs)) ys st = if sOk (xs.length + ys.length) = true then .ok (xs ++ ys) st else .no := rfl
theorem len_l0 : opLen st [.lst []] = some (.int 0) := rfl
theorem len_l1 : opLen st [.lst [a]] = some (.int 1) := rfl
theorem len_l2 : opLen st [.lst [a, c]] = some (.int 2) := rfl
theorem ix_second : opIx st (.lst (c :: d :: ds)) (.int 1) = some d := ix_items (xs := c :: d :: ds) rfl (by decide) rfl
end
section
variable {n : Nat} {ms : List Int} {b : Int} {st : Store}
theorem purC_prs {ps : List (Int × Int)} : purC (.lst (ps.map prD)) = true := purs_pr ps
theorem map_app {ps qs : List (Int × Int)} : (ps ++ qs).map prD = ps.map prD ++ qs.map prD := List.map_append
structure NoughtI (n : Nat) (ms : List Int) (b : Int) (st : Store) (size : Int) (rows : List (Int × Int)) (d : D) (pre : List Int) (v : Ent) (s : Store) : Prop where
  ex : ∃ (j : Nat) (acc : List (Int × Int)) (x4 x5 x6 x7 x8 x9 : Option D), v = [some (.ref n), some (.int size), some d, some (.ref j), x4, x5, x6, x7, x8, x9] ∧ Acc rows pre acc ∧ s[j]? = some (.lst (acc.map prD)) ∧ st.length ≤ j ∧ Kp n st s ∧ Sto n ms (b + pre.length) s
theorem nought_none {pre : List Int} {x : Int} {size : Int} {rows : List (Int × Int)} {d : D} {j : Nat} {acc : List (Int × Int)} {s : Store} {w : Int} {x4 x5 x6 x7 x8 x9 : Option D} (hA : Acc rows pre acc) (hm : mid (insL rows x) (outsL rows x) w = []) (hj : s[j]? = some (.lst (acc.map prD))) (hl : st.length ≤ j) (hK : Kp n st s) (hS : Sto n ms (b + pre.length + 1) s) :
    NoughtI n ms b st size rows d (pre ++ [x]) [some (.ref n), some (.int size), some d, some (.ref j), x4, x5, x6, x7, x8, x9] s := by
  have := hA.snoc x w
  rw [hm, List.append_nil] at this
  exact ⟨j, acc, _, _, _, _, _, _, rfl, this, hj, hl, hK, hS.mono (by simp; omega)⟩
theorem nought_push {pre : List Int} {x : Int} {size : Int} {rows : List (Int × Int)} {d : D} {j : Nat} {acc : List (Int × Int)} {s : Store} {w : Int} {p : Int × Int} {x4 x5 x6 x7 x8 x9 : Option D} (hA : Acc rows pre acc) (hn : n < st.length) (hm : mid (insL rows x) (outsL rows x) w = [p]) (hj : s[j]? = some (.lst (acc.map prD))) (hl : st.length ≤ j) (hK : Kp n st s) (hS : Sto n ms (b + pre.length + 1) s) :
    NoughtI n ms b st size rows d (pre ++ [x]) [some (.ref n), some (.int size), some d, some (.ref j), x4, x5, x6, x7, x8, x9] (s.set j (.lst (acc.map prD ++ [.tup [.int p.1, .int p.2]]))) := by
  have := hA.snoc x w
  rw [hm] at this
  have e : acc.map prD ++ [.tup [.int p.1, .int p.2]] = (acc ++ [p]).map prD := by rw [map_app]; rfl
  rw [e]
  exact ⟨j, _, _, _, _, _, _, _, rfl, this, List.getElem?_set_self (List.getElem?_eq_some_iff.mp hj).1, hl, hK.put hl, (hS.put purC_prs (by omega)).mono (by simp; omega)⟩
theorem nought_new {pre : List Int} {x : Int} {size : Int} {rows : List (Int × Int)} {d : D} {j : Nat} {acc : List (Int × Int)} {s : Store} {w : Int} {p q : Int × Int} {x4 x5 x6 x7 x8 x9 : Option D} (hA : Acc rows pre acc) (hn : n < st.length) (hm : mid (insL rows x) (outsL rows x) w = [p, q]) (hj : s[j]? = some (.lst (acc.map prD))) (hl : st.length ≤ j) (hK : Kp n st s) (hS : Sto n ms (b + pre.length + 1) s) :
    NoughtI n ms b st size rows d (pre ++ [x]) [some (.ref n), some (.int size), some d, some (.ref s.length), x4, x5, x6, x7, x8, x9] (s ++ [.lst (acc.map prD ++ [.tup [.int p.1, .int p.2], .tup [.int q.1, .int q.2]])]) := by
  have := hA.snoc x w
  rw [hm] at this
  have e : acc.map prD ++ [.tup [.int p.1, .int p.2], .tup [.int q.1, .int q.2]] = (acc ++ [p, q]).map prD := by rw [map_app]; rfl
  rw [e]
  have hjl := (List.getElem?_eq_some_iff.mp hj).1
  exact ⟨s.length, _, _, _, _, _, _, _, rfl, this, List.getElem?_concat_length, by omega, hK.trans .new, (hS.new purC_prs).mono (by simp; omega)⟩
theorem Sto.noughts (h : Sto n ms b st) (hm : ms ≠ []) {size : Int} {rows : List (Int × Int)} {d : D} (s1 : 1 ≤ size) (s2 : size ≤ 100) (hR : Rws size rows) (hd : ∀ st', Kp n st st' → items st' d = some (rows.map prD)) (hb : b + size < 1000000000000) :
    ∃ (Q : Pl) (st' : Store), appT f__law_with_noughts [.ref n, .int size, d] st = .ok (plD Q) st' ∧ Gentle Q ∧ Q.n = size ∧ Tk n ms (b + size) st st' := by
  have rs : rgOk 0 size = true := rgOk_small (by omega) (by omega) (by omega) (by omega)
  have hrl := hR.len
  have rr : rgOk 0 (rows.length : Nat) = true := rgOk_small (by omega) (by omega) (by omega) (by omega)
  have rlen : ∀ st', Kp n st st' → opLen st' [d] = some (.int (rows.length : Nat)) := fun st' hk => by
    rw [len_items (hd st' hk), List.length_map]
  have rix : ∀ st', Kp n st st' → ∀ k, 0 ≤ k → k < (rows.length : Int) → opIx st' d (.int k) = some (prD (atR rows k)) := fun st' hk k k0 k1 => ix_items (hd st' hk) k0 (by rw [List.getElem?_map, atR_some k0 k1]; rfl)
  have hn := h.lt
  have run : ∃ (Q : Pl) (st2 : Store), f__law_with_noughts [.ref n, .int size, d] st = .ok (plD Q) st2 ∧ Gentle Q ∧ Q.n = size ∧ Kp n st st2 ∧ Sto n ms (b + size) st2 := by
    simp only [f__law_with_noughts, b__law_with_noughts, runF, List.map_cons, List.map_nil, List.cons_append, List.nil_append, Nat.reduceSub, List.replicate_succ, List.replicate_zero, v_seq, v_if, v_tof, v_op, v_un, v_var, v_c, v_ret, v_nx, v_asg, v_and, v_or, v_not, v_nil, v_cons, v_tup, v_lst, v_frz, v_cb, v_cn, v_cp, v_ife, v_par, v_for, v_tru, List.getElem?_cons_zero, List.getElem?_cons_succ, List.set_cons_zero, List.set_cons_succ, k_var, k_op, k_op2, k_un, k_some, k_tof, k_asgN, k_ret, k_seqR, k_seqN, k_cons, k_cons2, k_cb, k_cn, k_cp, k_frz, k_par, k_par2, k_forV, k_truB, k_truT, k_not, k_orF, k_andT, k_andF, k_orT, k_ifT, k_ifF, k_ifeT, k_ifeF, i_ge, i_sub, i_neg, i_eq, i_ne, in_pr, nin_pr, pl_0, pl_1, pl_2, pr_0, pr_1, R.bind, k_tup, k_lst, List.length_cons, List.length_nil, Nat.reduceAdd, Nat.reduceLeDiff, decide_true, decide_false, Bool.not_true, Bool.not_false, Bool.true_and, Bool.false_and, Bool.and_true, Bool.and_false, Bool.or_true, Bool.or_false, if_true, if_false, Bool.false_eq_true, wipeE, tup_lst, v_yes, len_tup, i_lt, i_gt, i_add, k_asgT3, k_asgP, Bool.false_or, Bool.true_or, v_rg1, v_rg2, k_rg1, k_rg2, k_rg2b, v_it, k_itL, k_itT, v_lrg, k_lrg, v_ct, k_ct, v_new, k_new, v_app, k_app, k_app1, k_app2, k_push, v_exp, k_exp, v_nadd, k_nadd, k_nadd2, k_cat, len_l0, len_l1, len_l2, ix_first, ix_second, Int.reduceEq, Int.reduceSub, eq_self, rs]
    generalize hf : forVals _ _ _ _ _ = r
    obtain ⟨e', s', ⟨j, acc, x4, x5, x6, x7, x8, x9, rfl, hA, hj, hl, hK, hS⟩, rfl⟩ := for_intsD (NoughtI n ms b st size rows d) hf
      ⟨st.length, [], _, _, _, _, _, _, rfl, .nil, List.getElem?_concat_length, Nat.le_refl _, .new, (h.new rfl).mono (by simp)⟩ fun pre x post hx e s hI => by
      obtain ⟨j, acc, x4, x5, x6, x7, x8, x9, rfl, hA, hj, hl, hK, hS⟩ := hI
      have hlen : pre.length + (post.length + 1) = size.toNat := by
        have := congrArg List.length hx
        rw [len_rgL, List.length_append, List.length_cons] at this
        omega
      have hnd : pre.Nodup := by
        have := nd_lt (srt_rgL 0 size)
        rw [hx] at this
        exact (List.nodup_append.mp this).1
      have hal := (acc_ok hR hA hnd).len
      obtain ⟨w, s1, e1, w0, w1, T⟩ := hS.tdraw (by omega) hm (w := 2) (by omega) (by omega)
      have hj1 : s1[j]? = some (.lst (acc.map prD)) := by
        rw [T.k.old j (List.getElem?_eq_some_iff.mp hj).1 (by omega)]
        exact hj
      have k1 : sOk ((acc.map prD).length + 1) = true := sOk_of (by rw [List.length_map]; omega)
      have k2 : sOk ((acc.map prD).length + (0 + 1 + 1)) = true := sOk_of (by rw [List.length_map]; omega)
      simp only [runF, List.map_cons, List.map_nil, List.cons_append, List.nil_append, Nat.reduceSub, List.replicate_succ, List.replicate_zero, v_seq, v_if, v_tof, v_op, v_un, v_var, v_c, v_ret, v_nx, v_asg, v_and, v_or, v_not, v_nil, v_cons, v_tup, v_lst, v_frz, v_cb, v_cn, v_cp, v_ife, v_par, v_for, v_tru, List.getElem?_cons_zero, List.getElem?_cons_succ, List.set_cons_zero, List.set_cons_succ, k_var, k_op, k_op2, k_un, k_some, k_tof, k_asgN, k_ret, k_seqR, k_seqN, k_cons, k_cons2, k_cb, k_cn, k_cp, k_frz, k_par, k_par2, k_forV, k_truB, k_truT, k_not, k_orF, k_andT, k_andF, k_orT, k_ifT, k_ifF, k_ifeT, k_ifeF, i_ge, i_sub, i_neg, i_eq, i_ne, in_pr, nin_pr, pl_0, pl_1, pl_2, pr_0, pr_1, R.bind, k_tup, k_lst, List.length_cons, List.length_nil, Nat.reduceAdd, Nat.reduceLeDiff, decide_true, decide_false, Bool.not_true, Bool.not_false, Bool.true_and, Bool.false_and, Bool.and_true, Bool.and_false, Bool.or_true, Bool.or_false, if_true, if_false, Bool.false_eq_true, wipeE, tup_lst, v_yes, len_tup, i_lt, i_gt, i_add, k_asgT3, k_asgP, Bool.false_or, Bool.true_or, v_rg1, v_rg2, k_rg1, k_rg2, k_rg2b, v_it, k_itL, k_itT, v_lrg, k_lrg, v_ct, k_ct, v_new, k_new, v_app, k_app, k_app1, k_app2, k_push, v_exp, k_exp, v_nadd, k_nadd, k_nadd2, k_cat, len_l0, len_l1, len_l2, ix_first, ix_second, Int.reduceEq, Int.reduceSub, eq_self, rlen s hK, rr]
      rw [lc_ints (xs := rgL 0 rows.length) (c := fun k => decide ((atR rows k).2 = x)) (fv := D.int) (by simp only [runF, List.map_cons, List.map_nil, List.cons_append, List.nil_append, Nat.reduceSub, List.replicate_succ, List.replicate_zero, v_seq, v_if, v_tof, v_op, v_un, v_var, v_c, v_ret, v_nx, v_asg, v_and, v_or, v_not, v_nil, v_cons, v_tup, v_lst, v_frz, v_cb, v_cn, v_cp, v_ife, v_par, v_for, v_tru, List.getElem?_cons_zero, List.getElem?_cons_succ, List.set_cons_zero, List.set_cons_succ, k_var, k_op, k_op2, k_un, k_some, k_tof, k_asgN, k_ret, k_seqR, k_seqN, k_cons, k_cons2, k_cb, k_cn, k_cp, k_frz, k_par, k_par2, k_forV, k_truB, k_truT, k_not, k_orF, k_andT, k_andF, k_orT, k_ifT, k_ifF, k_ifeT, k_ifeF, i_ge, i_sub, i_neg, i_eq, i_ne, in_pr, nin_pr, pl_0, pl_1, pl_2, pr_0, pr_1, R.bind, k_tup, k_lst, List.length_cons, List.length_nil, Nat.reduceAdd, Nat.reduceLeDiff, decide_true, decide_false, Bool.not_true, Bool.not_false, Bool.true_and, Bool.false_and, Bool.and_true, Bool.and_false, Bool.or_true, Bool.or_false, if_true, if_false, Bool.false_eq_true, wipeE, tup_lst, v_yes, len_tup, i_lt, i_gt, i_add, k_asgT3, k_asgP, Bool.false_or, Bool.true_or, v_rg1, v_rg2, k_rg1, k_rg2, k_rg2b, v_it, k_itL, k_itT, v_lrg, k_lrg, v_ct, k_ct, v_new, k_new, v_app, k_app, k_app1, k_app2, k_push, v_exp, k_exp, v_nadd, k_nadd, k_nadd2, k_cat, len_l0, len_l1, len_l2, ix_first, ix_second, Int.reduceEq, Int.reduceSub, eq_self, rlen s hK, rr]) (by rw [len_rgL]; omega) (fun k hk => by
        have hk := mem_rgL.mp hk
        simp only [runF, List.map_cons, List.map_nil, List.cons_append, List.nil_append, Nat.reduceSub, List.replicate_succ, List.replicate_zero, v_seq, v_if, v_tof, v_op, v_un, v_var, v_c, v_ret, v_nx, v_asg, v_and, v_or, v_not, v_nil, v_cons, v_tup, v_lst, v_frz, v_cb, v_cn, v_cp, v_ife, v_par, v_for, v_tru, List.getElem?_cons_zero, List.getElem?_cons_succ, List.set_cons_zero, List.set_cons_succ, k_var, k_op, k_op2, k_un, k_some, k_tof, k_asgN, k_ret, k_seqR, k_seqN, k_cons, k_cons2, k_cb, k_cn, k_cp, k_frz, k_par, k_par2, k_forV, k_truB, k_truT, k_not, k_orF, k_andT, k_andF, k_orT, k_ifT, k_ifF, k_ifeT, k_ifeF, i_ge, i_sub, i_neg, i_eq, i_ne, in_pr, nin_pr, pl_0, pl_1, pl_2, pr_0, pr_1, R.bind, k_tup, k_lst, List.length_cons, List.length_nil, Nat.reduceAdd, Nat.reduceLeDiff, decide_true, decide_false, Bool.not_true, Bool.not_false, Bool.true_and, Bool.false_and, Bool.and_true, Bool.and_false, Bool.or_true, Bool.or_false, if_true, if_false, Bool.false_eq_true, wipeE, tup_lst, v_yes, len_tup, i_lt, i_gt, i_add, k_asgT3, k_asgP, Bool.false_or, Bool.true_or, v_rg1, v_rg2, k_rg1, k_rg2, k_rg2b, v_it, k_itL, k_itT, v_lrg, k_lrg, v_ct, k_ct, v_new, k_new, v_app, k_app, k_app1, k_app2, k_push, v_exp, k_exp, v_nadd, k_nadd, k_nadd2, k_cat, len_l0, len_l1, len_l2, ix_first, ix_second, Int.reduceEq, Int.reduceSub, eq_self, rix s hK k hk.1 hk.2]
        exact ⟨trivial, fun _ => trivial⟩)]
      simp only [runF, List.map_cons, List.map_nil, List.cons_append, List.nil_append, Nat.reduceSub, List.replicate_succ, List.replicate_zero, v_seq, v_if, v_tof, v_op, v_un, v_var, v_c, v_ret, v_nx, v_asg, v_and, v_or, v_not, v_nil, v_cons, v_tup, v_lst, v_frz, v_cb, v_cn, v_cp, v_ife, v_par, v_for, v_tru, List.getElem?_cons_zero, List.getElem?_cons_succ, List.set_cons_zero, List.set_cons_succ, k_var, k_op, k_op2, k_un, k_some, k_tof, k_asgN, k_ret, k_seqR, k_seqN, k_cons, k_cons2, k_cb, k_cn, k_cp, k_frz, k_par, k_par2, k_forV, k_truB, k_truT, k_not, k_orF, k_andT, k_andF, k_orT, k_ifT, k_ifF, k_ifeT, k_ifeF, i_ge, i_sub, i_neg, i_eq, i_ne, in_pr, nin_pr, pl_0, pl_1, pl_2, pr_0, pr_1, R.bind, k_tup, k_lst, List.length_cons, List.length_nil, Nat.reduceAdd, Nat.reduceLeDiff, decide_true, decide_false, Bool.not_true, Bool.not_false, Bool.true_and, Bool.false_and, Bool.and_true, Bool.and_false, Bool.or_true, Bool.or_false, if_true, if_false, Bool.false_eq_true, wipeE, tup_lst, v_yes, len_tup, i_lt, i_gt, i_add, k_asgT3, k_asgP, Bool.false_or, Bool.true_or, v_rg1, v_rg2, k_rg1, k_rg2, k_rg2b, v_it, k_itL, k_itT, v_lrg, k_lrg, v_ct, k_ct, v_new, k_new, v_app, k_app, k_app1, k_app2, k_push, v_exp, k_exp, v_nadd, k_nadd, k_nadd2, k_cat, len_l0, len_l1, len_l2, ix_first, ix_second, Int.reduceEq, Int.reduceSub, eq_self, rlen s hK, rr]
      rw [lc_ints (xs := rgL 0 rows.length) (c := fun k => decide ((atR rows k).1 = x)) (fv := D.int) (by simp only [runF, List.map_cons, List.map_nil, List.cons_append, List.nil_append, Nat.reduceSub, List.replicate_succ, List.replicate_zero, v_seq, v_if, v_tof, v_op, v_un, v_var, v_c, v_ret, v_nx, v_asg, v_and, v_or, v_not, v_nil, v_cons, v_tup, v_lst, v_frz, v_cb, v_cn, v_cp, v_ife, v_par, v_for, v_tru, List.getElem?_cons_zero, List.getElem?_cons_succ, List.set_cons_zero, List.set_cons_succ, k_var, k_op, k_op2, k_un, k_some, k_tof, k_asgN, k_ret, k_seqR, k_seqN, k_cons, k_cons2, k_cb, k_cn, k_cp, k_frz, k_par, k_par2, k_forV, k_truB, k_truT, k_not, k_orF, k_andT, k_andF, k_orT, k_ifT, k_ifF, k_ifeT, k_ifeF, i_ge, i_sub, i_neg, i_eq, i_ne, in_pr, nin_pr, pl_0, pl_1, pl_2, pr_0, pr_1, R.bind, k_tup, k_lst, List.length_cons, List.length_nil, Nat.reduceAdd, Nat.reduceLeDiff, decide_true, decide_false, Bool.not_true, Bool.not_false, Bool.true_and, Bool.false_and, Bool.and_true, Bool.and_false, Bool.or_true, Bool.or_false, if_true, if_false, Bool.false_eq_true, wipeE, tup_lst, v_yes, len_tup, i_lt, i_gt, i_add, k_asgT3, k_asgP, Bool.false_or, Bool.true_or, v_rg1, v_rg2, k_rg1, k_rg2, k_rg2b, v_it, k_itL, k_itT, v_lrg, k_lrg, v_ct, k_ct, v_new, k_new, v_app, k_app, k_app1, k_app2, k_push, v_exp, k_exp, v_nadd, k_nadd, k_nadd2, k_cat, len_l0, len_l1, len_l2, ix_first, ix_second, Int.reduceEq, Int.reduceSub, eq_self, rlen s hK, rr]) (by rw [len_rgL]; omega) (fun k hk => by
        have hk := mem_rgL.mp hk
        simp only [runF, List.map_cons, List.map_nil, List.cons_append, List.nil_append, Nat.reduceSub, List.replicate_succ, List.replicate_zero, v_seq, v_if, v_tof, v_op, v_un, v_var, v_c, v_ret, v_nx, v_asg, v_and, v_or, v_not, v_nil, v_cons, v_tup, v_lst, v_frz, v_cb, v_cn, v_cp, v_ife, v_par, v_for, v_tru, List.getElem?_cons_zero, List.getElem?_cons_succ, List.set_cons_zero, List.set_cons_succ, k_var, k_op, k_op2, k_un, k_some, k_tof, k_asgN, k_ret, k_seqR, k_seqN, k_cons, k_cons2, k_cb, k_cn, k_cp, k_frz, k_par, k_par2, k_forV, k_truB, k_truT, k_not, k_orF, k_andT, k_andF, k_orT, k_ifT, k_ifF, k_ifeT, k_ifeF, i_ge, i_sub, i_neg, i_eq, i_ne, in_pr, nin_pr, pl_0, pl_1, pl_2, pr_0, pr_1, R.bind, k_tup, k_lst, List.length_cons, List.length_nil, Nat.reduceAdd, Nat.reduceLeDiff, decide_true, decide_false, Bool.not_true, Bool.not_false, Bool.true_and, Bool.false_and, Bool.and_true, Bool.and_false, Bool.or_true, Bool.or_false, if_true, if_false, Bool.false_eq_true, wipeE, tup_lst, v_yes, len_tup, i_lt, i_gt, i_add, k_asgT3, k_asgP, Bool.false_or, Bool.true_or, v_rg1, v_rg2, k_rg1, k_rg2, k_rg2b, v_it, k_itL, k_itT, v_lrg, k_lrg, v_ct, k_ct, v_new, k_new, v_app, k_app, k_app1, k_app2, k_push, v_exp, k_exp, v_nadd, k_nadd, k_nadd2, k_cat, len_l0, len_l1, len_l2, ix_first, ix_second, Int.reduceEq, Int.reduceSub, eq_self, rix s hK k hk.1 hk.2]
        exact ⟨trivial, fun _ => trivial⟩)]
      have ei : (rgL 0 rows.length).filter (fun k => decide ((atR rows k).2 = x)) = insL rows x := rfl
      have eo : (rgL 0 rows.length).filter (fun k => decide ((atR rows k).1 = x)) = outsL rows x := rfl
      rw [ei, eo]
      have fN := fun (y4 y5 y6 y7 y8 y9 : Option D) h => nought_none (x := x) (w := w) (size := size) (d := d) (x4 := y4) (x5 := y5) (x6 := y6) (x7 := y7) (x8 := y8) (x9 := y9) hA h hj1 hl (hK.trans T.k) T.s
      have fP := fun (p : Int × Int) (y4 y5 y6 y7 y8 y9 : Option D) h => nought_push (p := p) (x := x) (w := w) (size := size) (d := d) (x4 := y4) (x5 := y5) (x6 := y6) (x7 := y7) (x8 := y8) (x9 := y9) hA hn h hj1 hl (hK.trans T.k) T.s
      have fD := fun (p q : Int × Int) (y4 y5 y6 y7 y8 y9 : Option D) h => nought_new (p := p) (q := q) (x := x) (w := w) (size := size) (d := d) (x4 := y4) (x5 := y5) (x6 := y6) (x7 := y7) (x8 := y8) (x9 := y9) hA hn h hj1 hl (hK.trans T.k) T.s
      have hw : w = 0 ∨ w = 1 := by omega
      rcases len2 (len_ins hR x) with hi | ⟨i1, hi⟩ | ⟨i1, i2, hi⟩ <;> rcases len2 (len_outs hR x) with ho | ⟨o1, ho⟩ | ⟨o1, o2, ho⟩ <;> rcases hw with rfl | rfl <;> rw [hi, ho] at fN fP fD <;> simp only [runF, List.map_cons, List.map_nil, List.cons_append, List.nil_append, Nat.reduceSub, List.replicate_succ, List.replicate_zero, v_seq, v_if, v_tof, v_op, v_un, v_var, v_c, v_ret, v_nx, v_asg, v_and, v_or, v_not, v_nil, v_cons, v_tup, v_lst, v_frz, v_cb, v_cn, v_cp, v_ife, v_par, v_for, v_tru, List.getElem?_cons_zero, List.getElem?_cons_succ, List.set_cons_zero, List.set_cons_succ, k_var, k_op, k_op2, k_un, k_some, k_tof, k_asgN, k_ret, k_seqR, k_seqN, k_cons, k_cons2, k_cb, k_cn, k_cp, k_frz, k_par, k_par2, k_forV, k_truB, k_truT, k_not, k_orF, k_andT, k_andF, k_orT, k_ifT, k_ifF, k_ifeT, k_ifeF, i_ge, i_sub, i_neg, i_eq, i_ne, in_pr, nin_pr, pl_0, pl_1, pl_2, pr_0, pr_1, R.bind, k_tup, k_lst, List.length_cons, List.length_nil, Nat.reduceAdd, Nat.reduceLeDiff, decide_true, decide_false, Bool.not_true, Bool.not_false, Bool.true_and, Bool.false_and, Bool.and_true, Bool.and_false, Bool.or_true, Bool.or_false, if_true, if_false, Bool.false_eq_true, wipeE, tup_lst, v_yes, len_tup, i_lt, i_gt, i_add, k_asgT3, k_asgP, Bool.false_or, Bool.true_or, v_rg1, v_rg2, k_rg1, k_rg2, k_rg2b, v_it, k_itL, k_itT, v_lrg, k_lrg, v_ct, k_ct, v_new, k_new, v_app, k_app, k_app1, k_app2, k_push, v_exp, k_exp, v_nadd, k_nadd, k_nadd2, k_cat, len_l0, len_l1, len_l2, ix_first, ix_second, Int.reduceEq, Int.reduceSub, eq_self, hi, ho, e1, hj1, k1, k2]
      all_goals first
        | exact ⟨_, _, rfl, fN _ _ _ _ _ _ rfl⟩
        | exact ⟨_, _, rfl, fP _ _ _ _ _ _ _ rfl⟩
        | exact ⟨_, _, rfl, fD _ _ _ _ _ _ _ _ rfl⟩
    have hal := (acc_ok hR hA (nd_lt (srt_rgL 0 size))).len
    rw [len_rgL] at hal
    have so := sort_of (items_ref hj) (by omega)
    have gp : Gentle ⟨size, rows, sortP acc⟩ := gentle_noughts (P := ⟨size, rows, sortP acc⟩) s1 s2 hR hA (sort_perm _) (sort_srt _)
    obtain ⟨Q, hQ, hn', e⟩ := ap_ended' gp
    have e2 : appP f__law_ended [.tup [.int size, .tup (rows.map prD), .tup ((sortP acc).map prD)]] = some (plD Q) := e
    simp only [runF, List.map_cons, List.map_nil, List.cons_append, List.nil_append, Nat.reduceSub, List.replicate_succ, List.replicate_zero, v_seq, v_if, v_tof, v_op, v_un, v_var, v_c, v_ret, v_nx, v_asg, v_and, v_or, v_not, v_nil, v_cons, v_tup, v_lst, v_frz, v_cb, v_cn, v_cp, v_ife, v_par, v_for, v_tru, List.getElem?_cons_zero, List.getElem?_cons_succ, List.set_cons_zero, List.set_cons_succ, k_var, k_op, k_op2, k_un, k_some, k_tof, k_asgN, k_ret, k_seqR, k_seqN, k_cons, k_cons2, k_cb, k_cn, k_cp, k_frz, k_par, k_par2, k_forV, k_truB, k_truT, k_not, k_orF, k_andT, k_andF, k_orT, k_ifT, k_ifF, k_ifeT, k_ifeF, i_ge, i_sub, i_neg, i_eq, i_ne, in_pr, nin_pr, pl_0, pl_1, pl_2, pr_0, pr_1, R.bind, k_tup, k_lst, List.length_cons, List.length_nil, Nat.reduceAdd, Nat.reduceLeDiff, decide_true, decide_false, Bool.not_true, Bool.not_false, Bool.true_and, Bool.false_and, Bool.and_true, Bool.and_false, Bool.or_true, Bool.or_false, if_true, if_false, Bool.false_eq_true, wipeE, tup_lst, v_yes, len_tup, i_lt, i_gt, i_add, k_asgT3, k_asgP, Bool.false_or, Bool.true_or, v_rg1, v_rg2, k_rg1, k_rg2, k_rg2b, v_it, k_itL, k_itT, v_lrg, k_lrg, v_ct, k_ct, v_new, k_new, v_app, k_app, k_app1, k_app2, k_push, v_exp, k_exp, v_nadd, k_nadd, k_nadd2, k_cat, len_l0, len_l1, len_l2, ix_first, ix_second, Int.reduceEq, Int.reduceSub, eq_self, tup_items (hd s' hK), so, e2]
    refine ⟨Q, s', rfl, hQ, hn', hK, hS.mono ?_⟩
    rw [len_rgL]
    omega
  obtain ⟨Q, st2, e, hQ, hn', hK, hS⟩ := run
  obtain ⟨st3, e3, T3⟩ := appT_ok (d' := plD Q) h e hK hS (by
    show (if pur (plD Q) = true then some (plD Q) else none) = _
    rw [pur_pl, if_pos rfl])
  exact ⟨Q, st3, e3, hQ, hn', T3⟩
end
end FK

set_option Elab.async false
set_option linter.all false
set_option maxRecDepth 100000
namespace FK
open DL
/-! ### comprehensions over a cell, and such that draw -/
theorem lc_cellV {T : TgD} {p : EvB} {f : Ev} {env : Ent} {st : Store} {j : Nat} {ds : List D} (hj : st[j]? = some (.lst ds)) {pb : D → Bool} {fv : D → D} (h : ∀ d ∈ ds, ∃ e1, T d env = some e1 ∧ p e1 st = .ok (pb d) st ∧ (pb d = true → f e1 st = .ok (fv d) st)) :
    ∀ (k fuel i : Nat), k + i = ds.length → k + 1 ≤ fuel → lcCell j T p f env fuel i st = .ok (((ds.drop i).filter pb).map fv) st := by
  have hg : (Src.cell j).get st = some ds := by
    show (match st[j]? with | some (.lst xs) => some xs | _ => none) = _
    rw [hj]
  intro k
  induction k with
  | zero =>
    intro fuel i hi hf
    match fuel, hf with
    | fuel + 1, _ =>
      show (match (Src.cell j).get st with | none => R.no | some ds => match ds[i]? with | none => R.ok [] st | some d => _) = _
      rw [hg]
      have : ds[i]? = none := List.getElem?_eq_none (by omega)
      show (match ds[i]? with | none => R.ok [] st | some d => _) = _
      rw [this, List.drop_eq_nil_of_le (by omega)]
      rfl
  | succ k ih =>
    intro fuel i hi hf
    match fuel, hf with
    | fuel + 1, hf =>
      have hlt : i < ds.length := by omega
      have hd : ds[i]? = some ds[i] := List.getElem?_eq_getElem hlt
      obtain ⟨e1, hT, hp, hfv⟩ := h ds[i] (List.getElem_mem hlt)
      have ih' := ih fuel (i + 1) (by omega) (by omega)
      have e0 : lcTurn T p f ds[i] env st = .ok (if pb ds[i] then some (fv ds[i]) else none) st := by
        show (match T ds[i] env with | none => _ | some env1 => _) = _
        rw [hT]
        show (noEx (p e1 st)).bind _ = _
        rw [hp]
        cases hb : pb ds[i] with
        | false => rfl
        | true =>
          show (noEx (f e1 st)).bind _ = _
          rw [hfv hb]
          rfl
      have st1 : lcCell j T p f env (fuel + 1) i st = (lcTurn T p f ds[i] env st).bind fun o st1 => match o with
          | some y => (lcCell j T p f env fuel (i + 1) st1).bind fun ys st2 => .ok (y :: ys) st2
          | none => lcCell j T p f env fuel (i + 1) st1 := by
        show (match (Src.cell j).get st with | none => R.no | some ds => match ds[i]? with | none => R.ok [] st | some d => (lcTurn T p f d env st).bind fun o st1 => match o with
          | some y => (lcCell j T p f env fuel (i + 1) st1).bind fun ys st2 => .ok (y :: ys) st2
          | none => lcCell j T p f env fuel (i + 1) st1) = _
        rw [hg]
        show (match ds[i]? with | none => R.ok [] st | some d => _) = _
        rw [hd]
      rw [st1, e0, List.drop_eq_getElem_cons hlt, List.filter_cons]
      cases hb : pb ds[i] with
      | false => exact ih'
      | true =>
        show (lcCell j T p f env fuel (i + 1) st).bind _ = _
        rw [ih']
        rfl
theorem lc_cell {it : EvS} {i j : Nat} {p : EvB} {f : Ev} {vs : List Nat} {env : Ent} {st : Store} {ps : List (Int × Int)} {c : Int × Int → Bool} {fv : Int × Int → D} (hi : it env st = .ok (.cell j) st) (hj : st[j]? = some (.lst (ps.map prD))) (hz : ps.length ≤ 16777216)
    (h : ∀ q ∈ ps, p ((wipeE env vs).set i (some (prD q))) st = .ok (c q) st ∧ (c q = true → f ((wipeE env vs).set i (some (prD q))) st = .ok (fv q) st)) :
    nLc it (tgN i) p f vs env st = .ok ((ps.filter c).map fv) st := by
  have hg : (Src.cell j).get st = some (ps.map prD) := by
    show (match st[j]? with | some (.lst xs) => some xs | _ => none) = _
    rw [hj]
  have key := lc_cellV (T := tgN i) (p := p) (f := f) (env := wipeE env vs) hj (pb := fun d => match d with | .tup [.int a, .int b] => c (a, b) | _ => false) (fv := fun d => match d with | .tup [.int a, .int b] => fv (a, b) | _ => .non) (fun d hd => by
    obtain ⟨x, hx, rfl⟩ := List.mem_map.mp hd
    exact ⟨_, rfl, (h x hx).1, (h x hx).2⟩) (ps.map prD).length ((ps.map prD).length + 1) 0 rfl (Nat.le_refl _)
  rw [List.drop_zero, List.filter_map, List.map_map] at key
  unfold nLc
  rw [hi]
  have em : lcMost (.cell j) st = (ps.map prD).length + 1 := by
    show (match (Src.cell j).get st with | some ds => ds.length + 1 | none => 0) = _
    rw [hg]
  show (match lcCell j (tgN i) p f (wipeE env vs) (lcMost (.cell j) st) 0 st with | R.ok ds st2 => (if sOk ds.length = true then R.ok ds st2 else R.no) | _ => R.no) = _
  rw [em, key]
  show (if sOk _ = true then _ else _) = _
  rw [if_pos]
  · rfl
  · refine sOk_of ?_
    rw [List.length_map]
    exact Nat.le_trans (List.length_filter_le ..) hz
theorem lc_run {it : EvS} {i : Nat} {p : EvB} {f : Ev} {vs : List Nat} {env : Ent} {st : Store} {xs : List Int} (Inv : List Int → List D → Store → Prop) (hi : it env st = .ok (.vals (xs.map D.int)) st) (hz : xs.length ≤ 16777216) (h0 : Inv [] [] st)
    (h : ∀ pre x post ds s, xs = pre ++ x :: post → Inv pre ds s → ∃ (o : Option D) (s2 : Store), lcTurn (tgN i) p f (.int x) (wipeE env vs) s = .ok o s2 ∧ Inv (pre ++ [x]) (ds ++ o.toList) s2) :
    ∃ ds s2, nLc it (tgN i) p f vs env st = .ok ds s2 ∧ Inv xs ds s2 := by
  have gen : ∀ (ys pre : List Int) (ds : List D) (s : Store), xs = pre ++ ys → Inv pre ds s → ∃ es s2, lcVals (tgN i) p f (wipeE env vs) (ys.map D.int) s = .ok es s2 ∧ Inv xs (ds ++ es) s2 ∧ es.length ≤ ys.length := by
    intro ys
    induction ys with
    | nil =>
      intro pre ds s hx hI
      rw [List.append_nil] at hx
      subst hx
      exact ⟨[], s, rfl, by rw [List.append_nil]; exact hI, Nat.le_refl _⟩
    | cons y ys ih =>
      intro pre ds s hx hI
      obtain ⟨o, s2, h1, h2⟩ := h pre y ys ds s hx hI
      obtain ⟨es, s3, h3, h4, h5⟩ := ih (pre ++ [y]) (ds ++ o.toList) s2 (by rw [List.append_assoc]; exact hx) h2
      have step : lcVals (tgN i) p f (wipeE env vs) ((y :: ys).map D.int) s = (lcTurn (tgN i) p f (.int y) (wipeE env vs) s).bind fun o st1 => match o with
        | some y => (lcVals (tgN i) p f (wipeE env vs) (ys.map D.int) st1).bind fun ys st2 => .ok (y :: ys) st2
        | none => lcVals (tgN i) p f (wipeE env vs) (ys.map D.int) st1 := rfl
      rw [step, h1]
      cases o with
      | none =>
        refine ⟨es, s3, h3, ?_, by simp; omega⟩
        have : ds ++ (none : Option D).toList = ds := List.append_nil _
        rw [this] at h4
        exact h4
      | some z =>
        refine ⟨z :: es, s3, ?_, ?_, by simp; omega⟩
        · show (lcVals (tgN i) p f (wipeE env vs) (ys.map D.int) s2).bind _ = _
          rw [h3]
          rfl
        · have : ds ++ (some z).toList ++ es = ds ++ z :: es := by simp
          rw [← this]
          exact h4
  obtain ⟨es, s2, h1, h2, h3⟩ := gen xs [] [] st rfl h0
  refine ⟨es, s2, ?_, h2⟩
  unfold nLc
  rw [hi]
  show (match lcVals (tgN i) p f (wipeE env vs) (xs.map D.int) st with | R.ok ds st2 => (if sOk ds.length = true then R.ok ds st2 else R.no) | _ => R.no) = _
  rw [h1]
  show (if sOk _ = true then _ else _) = _
  rw [if_pos (sOk_of (by omega))]
theorem lcT_yes {i : Nat} {p : EvB} {f : Ev} {d y : D} {env : Ent} {s s1 s2 : Store} (h1 : p (env.set i (some d)) s = .ok true s1) (h2 : f (env.set i (some d)) s1 = .ok y s2) : lcTurn (tgN i) p f d env s = .ok (some y) s2 := by
  show (noEx (p (env.set i (some d)) s)).bind _ = _
  rw [h1]
  show (noEx (f (env.set i (some d)) s1)).bind _ = _
  rw [h2]
  rfl
theorem lcT_no {i : Nat} {p : EvB} {f : Ev} {d : D} {env : Ent} {s s1 : Store} (h1 : p (env.set i (some d)) s = .ok false s1) : lcTurn (tgN i) p f d env s = .ok none s1 := by
  show (noEx (p (env.set i (some d)) s)).bind _ = _
  rw [h1]
  rfl
section
variable {st : Store} {i j : Int} {a c : D} {env : Ent} {m k n : Nat} {xs ys : List D}
theorem mod_i2 : opMod st (.int i) (.int j) = if j = 0 then none else some (.int (i.fmod j)) := rfl
theorem int_i : opInt st [.int i] = some (.int i) := rfl
theorem k_asgP2 : kAsg (.ok (.tup [a, c]) st) (tgT [m, k]) env = .ok (.nx, (env.set m (some a)).set k (some c)) st := rfl
theorem k_nadd3 : kNadd2 (.ok (.lst ys) st) (.lst xs) = if sOk (xs.length + ys.length) = true then .ok (xs ++ ys) st else .no := rfl
theorem add_ref (h : st[n]? = some (Cell.lst xs)) (hs : xs.length + ys.length ≤ 16777216) : opAdd st (.ref n) (.lst ys) = some (.lst (xs ++ ys)) := by
  have e : deref st (.ref n) = .lst xs := by
    show (match st[n]? with | some (.lst ds) => D.lst ds | _ => D.ref n) = _
    rw [h]
  show (match deref st (.ref n), deref st (.lst ys) with | D.lst xs, D.lst ys => if sOk (xs.length + ys.length) = true then some (D.lst (xs ++ ys)) else none | _, _ => none) = _
  rw [e]
  show (if sOk (xs.length + ys.length) = true then some (D.lst (xs ++ ys)) else none) = _
  rw [if_pos (sOk_of hs)]
theorem it_cell {f : Ev} (h : f env st = .ok (.ref n) st) (hc : st[n]? = some (Cell.lst xs)) : iSeq f env st = .ok (.cell n) st := by
  unfold iSeq
  rw [h]
  show R.ofO (match st[n]? with | some (Cell.lst _) => some (Src.cell n) | _ => (none : Option Src)) st = _
  rw [hc]
  rfl
end
section
variable {n : Nat} {ms : List Int} {b : Int} {st : Store}
theorem Sto.free (h : Sto n ms b st) (hm : ms ≠ []) {size most : Int} (s1 : 1 ≤ size) (s2 : size ≤ 20) (m1 : 1 ≤ most) (m2 : most ≤ 60) (hb : b + 10000 < 1000000000000) :
    ∃ (Q : Pl) (st' : Store), appT f__law_free_plan [.ref n, .int size, .int most] st = .ok (plD Q) st' ∧ Gentle Q ∧ Q.n = size ∧ Tk n ms (b + 1000) st st' := by
  have hn := h.lt
  have run : ∃ (Q : Pl) (st2 : Store), f__law_free_plan [.ref n, .int size, .int most] st = .ok (plD Q) st2 ∧ Gentle Q ∧ Q.n = size ∧ Kp n st st2 ∧ Sto n ms (b + 1000) st2 := by
    obtain ⟨v0, sa, e0, v00, v01, T0⟩ := (h.new (c := .lst []) rfl).tdraw (by omega) hm (w := most) m1 (by omega)
    have rs : rgOk 0 (size - 1 + v0) = true := rgOk_small (by omega) (by omega) (by omega) (by omega)
    simp only [f__law_free_plan, b__law_free_plan, runF, List.map_cons, List.map_nil, List.cons_append, List.nil_append, Nat.reduceSub, List.replicate_succ, List.replicate_zero, v_seq, v_if, v_tof, v_op, v_un, v_var, v_c, v_ret, v_nx, v_asg, v_and, v_or, v_not, v_nil, v_cons, v_tup, v_lst, v_frz, v_cb, v_cn, v_cp, v_ife, v_par, v_for, v_tru, List.getElem?_cons_zero, List.getElem?_cons_succ, List.set_cons_zero, List.set_cons_succ, k_var, k_op, k_op2, k_un, k_some, k_tof, k_asgN, k_ret, k_seqR, k_seqN, k_cons, k_cons2, k_cb, k_cn, k_cp, k_frz, k_par, k_par2, k_forV, k_truB, k_truT, k_not, k_orF, k_andT, k_andF, k_orT, k_ifT, k_ifF, k_ifeT, k_ifeF, i_ge, i_sub, i_neg, i_eq, i_ne, in_pr, nin_pr, pl_0, pl_1, pl_2, pr_0, pr_1, R.bind, k_tup, k_lst, List.length_cons, List.length_nil, Nat.reduceAdd, Nat.reduceLeDiff, decide_true, decide_false, Bool.not_true, Bool.not_false, Bool.true_and, Bool.false_and, Bool.and_true, Bool.and_false, Bool.or_true, Bool.or_false, if_true, if_false, Bool.false_eq_true, wipeE, tup_lst, v_yes, len_tup, i_lt, i_gt, i_add, k_asgT3, k_asgP, Bool.false_or, Bool.true_or, v_rg1, v_rg2, k_rg1, k_rg2, k_rg2b, v_it, k_itL, k_itT, v_lrg, k_lrg, v_ct, k_ct, v_new, k_new, v_app, k_app, k_app1, k_app2, k_push, v_exp, k_exp, v_nadd, k_nadd, k_nadd2, k_cat, len_l0, len_l1, len_l2, ix_first, ix_second, Int.reduceEq, Int.reduceSub, eq_self, mod_i2, int_i, k_asgP2, k_nadd3, add_ref, k_ifeT, k_ifeF, v_rg1, e0, rs]
    generalize hf : forVals _ _ _ _ _ = r
    obtain ⟨e', s', hI, rfl⟩ := for_intsD (fun pre v s => ∃ (rows : List (Int × Int)) (x4 x5 x6 x7 x8 x9 : Option D), v = [some (.ref n), some (.int size), some (.int most), some (.ref st.length), x4, x5, x6, x7, x8, x9] ∧ Rws size rows ∧ rows.length ≤ pre.length ∧ s[st.length]? = some (.lst (rows.map prD)) ∧ Kp n st s ∧ Sto n ms (b + 1 + 3 * pre.length) s) hf
      ⟨[], _, _, _, _, _, _, rfl, rws_nil _, Nat.le_refl _, by rw [T0.k.old _ (by simp) (by omega), List.getElem?_concat_length]; rfl, Kp.new.trans T0.k, T0.s.mono (by simp)⟩ fun pre x post hx e s hI => by
      obtain ⟨rows, x4, x5, x6, x7, x8, x9, rfl, hR, hrl, hj, hK, hS⟩ := hI
      have hlen : pre.length + (post.length + 1) ≤ 79 := by
        have := congrArg List.length hx
        rw [len_rgL, List.length_append, List.length_cons] at this
        omega
      obtain ⟨a, sb, e1, a0, a1, T1⟩ := hS.tdraw (by omega) hm (w := size) s1 (by omega)
      obtain ⟨c, sc, e2, c0, c1, T2⟩ := T1.s.tdraw (by omega) hm (w := size) s1 (by omega)
      obtain ⟨u, sd, e3, u0, u1, T3⟩ := T2.s.tdraw (by omega) hm (w := 3) (by omega) (by omega)
      have key : ∃ (bb : Int) (s2 : Store), 0 ≤ bb ∧ bb < size ∧ Kp n s s2 ∧ s2.length = s.length ∧ Sto n ms (b + 1 + 3 * (pre.length + 1 : Nat)) s2 ∧ ∀ (y4 y7 y8 y9 : Option D), kAsg (kIfE (kAnd (R.ok (decide (a = c)) sc) (tOf (eOp opGt (eCallT f__law_draw (aCons (eVar 0) (aCons (eC (.int 3)) aNil))) (eC (.int 0)))) [some (.ref n), some (.int size), some (.int most), some (.ref st.length), y4, some (.int a), some (.int c), y7, y8, y9])
          (eOp opMod (eCallB opInt (aCons (eOp opAdd (eVar 5) (eC (.int 1))) aNil)) (eVar 1)) (eVar 6) [some (.ref n), some (.int size), some (.int most), some (.ref st.length), y4, some (.int a), some (.int c), y7, y8, y9]) (tgN 6) [some (.ref n), some (.int size), some (.int most), some (.ref st.length), y4, some (.int a), some (.int c), y7, y8, y9] = .ok (.nx, [some (.ref n), some (.int size), some (.int most), some (.ref st.length), y4, some (.int a), some (.int bb), y7, y8, y9]) s2 := by
        cases q1 : decide (a = c) with
        | false =>
          refine ⟨c, sc, c0, c1, T1.k.trans T2.k, T2.e.trans T1.e, T2.s.mono (by omega), fun _ _ _ _ => ?_⟩
          simp only [runF, List.map_cons, List.map_nil, List.cons_append, List.nil_append, Nat.reduceSub, List.replicate_succ, List.replicate_zero, v_seq, v_if, v_tof, v_op, v_un, v_var, v_c, v_ret, v_nx, v_asg, v_and, v_or, v_not, v_nil, v_cons, v_tup, v_lst, v_frz, v_cb, v_cn, v_cp, v_ife, v_par, v_for, v_tru, List.getElem?_cons_zero, List.getElem?_cons_succ, List.set_cons_zero, List.set_cons_succ, k_var, k_op, k_op2, k_un, k_some, k_tof, k_asgN, k_ret, k_seqR, k_seqN, k_cons, k_cons2, k_cb, k_cn, k_cp, k_frz, k_par, k_par2, k_forV, k_truB, k_truT, k_not, k_orF, k_andT, k_andF, k_orT, k_ifT, k_ifF, k_ifeT, k_ifeF, i_ge, i_sub, i_neg, i_eq, i_ne, in_pr, nin_pr, pl_0, pl_1, pl_2, pr_0, pr_1, R.bind, k_tup, k_lst, List.length_cons, List.length_nil, Nat.reduceAdd, Nat.reduceLeDiff, decide_true, decide_false, Bool.not_true, Bool.not_false, Bool.true_and, Bool.false_and, Bool.and_true, Bool.and_false, Bool.or_true, Bool.or_false, if_true, if_false, Bool.false_eq_true, wipeE, tup_lst, v_yes, len_tup, i_lt, i_gt, i_add, k_asgT3, k_asgP, Bool.false_or, Bool.true_or, v_rg1, v_rg2, k_rg1, k_rg2, k_rg2b, v_it, k_itL, k_itT, v_lrg, k_lrg, v_ct, k_ct, v_new, k_new, v_app, k_app, k_app1, k_app2, k_push, v_exp, k_exp, v_nadd, k_nadd, k_nadd2, k_cat, len_l0, len_l1, len_l2, ix_first, ix_second, Int.reduceEq, Int.reduceSub, eq_self, mod_i2, int_i, k_asgP2, k_nadd3, add_ref, k_ifeT, k_ifeF, v_rg1]
        | true =>
          cases q2 : decide (0 < u) with
          | false =>
            refine ⟨c, sd, c0, c1, (T1.k.trans T2.k).trans T3.k, (T3.e.trans T2.e).trans T1.e, T3.s.mono (by omega), fun _ _ _ _ => ?_⟩
            simp only [runF, List.map_cons, List.map_nil, List.cons_append, List.nil_append, Nat.reduceSub, List.replicate_succ, List.replicate_zero, v_seq, v_if, v_tof, v_op, v_un, v_var, v_c, v_ret, v_nx, v_asg, v_and, v_or, v_not, v_nil, v_cons, v_tup, v_lst, v_frz, v_cb, v_cn, v_cp, v_ife, v_par, v_for, v_tru, List.getElem?_cons_zero, List.getElem?_cons_succ, List.set_cons_zero, List.set_cons_succ, k_var, k_op, k_op2, k_un, k_some, k_tof, k_asgN, k_ret, k_seqR, k_seqN, k_cons, k_cons2, k_cb, k_cn, k_cp, k_frz, k_par, k_par2, k_forV, k_truB, k_truT, k_not, k_orF, k_andT, k_andF, k_orT, k_ifT, k_ifF, k_ifeT, k_ifeF, i_ge, i_sub, i_neg, i_eq, i_ne, in_pr, nin_pr, pl_0, pl_1, pl_2, pr_0, pr_1, R.bind, k_tup, k_lst, List.length_cons, List.length_nil, Nat.reduceAdd, Nat.reduceLeDiff, decide_true, decide_false, Bool.not_true, Bool.not_false, Bool.true_and, Bool.false_and, Bool.and_true, Bool.and_false, Bool.or_true, Bool.or_false, if_true, if_false, Bool.false_eq_true, wipeE, tup_lst, v_yes, len_tup, i_lt, i_gt, i_add, k_asgT3, k_asgP, Bool.false_or, Bool.true_or, v_rg1, v_rg2, k_rg1, k_rg2, k_rg2b, v_it, k_itL, k_itT, v_lrg, k_lrg, v_ct, k_ct, v_new, k_new, v_app, k_app, k_app1, k_app2, k_push, v_exp, k_exp, v_nadd, k_nadd, k_nadd2, k_cat, len_l0, len_l1, len_l2, ix_first, ix_second, Int.reduceEq, Int.reduceSub, eq_self, mod_i2, int_i, k_asgP2, k_nadd3, add_ref, k_ifeT, k_ifeF, v_rg1, e3, q2]
          | true =>
            have z : ¬ size = 0 := by omega
            refine ⟨(a + 1).fmod size, sd, (fmod_r (by omega)).1, (fmod_r (by omega)).2, (T1.k.trans T2.k).trans T3.k, (T3.e.trans T2.e).trans T1.e, T3.s.mono (by omega), fun _ _ _ _ => ?_⟩
            simp only [runF, List.map_cons, List.map_nil, List.cons_append, List.nil_append, Nat.reduceSub, List.replicate_succ, List.replicate_zero, v_seq, v_if, v_tof, v_op, v_un, v_var, v_c, v_ret, v_nx, v_asg, v_and, v_or, v_not, v_nil, v_cons, v_tup, v_lst, v_frz, v_cb, v_cn, v_cp, v_ife, v_par, v_for, v_tru, List.getElem?_cons_zero, List.getElem?_cons_succ, List.set_cons_zero, List.set_cons_succ, k_var, k_op, k_op2, k_un, k_some, k_tof, k_asgN, k_ret, k_seqR, k_seqN, k_cons, k_cons2, k_cb, k_cn, k_cp, k_frz, k_par, k_par2, k_forV, k_truB, k_truT, k_not, k_orF, k_andT, k_andF, k_orT, k_ifT, k_ifF, k_ifeT, k_ifeF, i_ge, i_sub, i_neg, i_eq, i_ne, in_pr, nin_pr, pl_0, pl_1, pl_2, pr_0, pr_1, R.bind, k_tup, k_lst, List.length_cons, List.length_nil, Nat.reduceAdd, Nat.reduceLeDiff, decide_true, decide_false, Bool.not_true, Bool.not_false, Bool.true_and, Bool.false_and, Bool.and_true, Bool.and_false, Bool.or_true, Bool.or_false, if_true, if_false, Bool.false_eq_true, wipeE, tup_lst, v_yes, len_tup, i_lt, i_gt, i_add, k_asgT3, k_asgP, Bool.false_or, Bool.true_or, v_rg1, v_rg2, k_rg1, k_rg2, k_rg2b, v_it, k_itL, k_itT, v_lrg, k_lrg, v_ct, k_ct, v_new, k_new, v_app, k_app, k_app1, k_app2, k_push, v_exp, k_exp, v_nadd, k_nadd, k_nadd2, k_cat, len_l0, len_l1, len_l2, ix_first, ix_second, Int.reduceEq, Int.reduceSub, eq_self, mod_i2, int_i, k_asgP2, k_nadd3, add_ref, k_ifeT, k_ifeF, v_rg1, e3, q2, z]
      obtain ⟨bb, s2, b0, b1, K2, L2', S2, e4⟩ := key
      have hj2 : s2[st.length]? = some (.lst (rows.map prD)) := by
        rw [K2.old _ (List.getElem?_eq_some_iff.mp hj).1 (by omega)]
        exact hj
      simp only [runF, List.map_cons, List.map_nil, List.cons_append, List.nil_append, Nat.reduceSub, List.replicate_succ, List.replicate_zero, v_seq, v_if, v_tof, v_op, v_un, v_var, v_c, v_ret, v_nx, v_asg, v_and, v_or, v_not, v_nil, v_cons, v_tup, v_lst, v_frz, v_cb, v_cn, v_cp, v_ife, v_par, v_for, v_tru, List.getElem?_cons_zero, List.getElem?_cons_succ, List.set_cons_zero, List.set_cons_succ, k_var, k_op, k_op2, k_un, k_some, k_tof, k_asgN, k_ret, k_seqR, k_seqN, k_cons, k_cons2, k_cb, k_cn, k_cp, k_frz, k_par, k_par2, k_forV, k_truB, k_truT, k_not, k_orF, k_andT, k_andF, k_orT, k_ifT, k_ifF, k_ifeT, k_ifeF, i_ge, i_sub, i_neg, i_eq, i_ne, in_pr, nin_pr, pl_0, pl_1, pl_2, pr_0, pr_1, R.bind, k_tup, k_lst, List.length_cons, List.length_nil, Nat.reduceAdd, Nat.reduceLeDiff, decide_true, decide_false, Bool.not_true, Bool.not_false, Bool.true_and, Bool.false_and, Bool.and_true, Bool.and_false, Bool.or_true, Bool.or_false, if_true, if_false, Bool.false_eq_true, wipeE, tup_lst, v_yes, len_tup, i_lt, i_gt, i_add, k_asgT3, k_asgP, Bool.false_or, Bool.true_or, v_rg1, v_rg2, k_rg1, k_rg2, k_rg2b, v_it, k_itL, k_itT, v_lrg, k_lrg, v_ct, k_ct, v_new, k_new, v_app, k_app, k_app1, k_app2, k_push, v_exp, k_exp, v_nadd, k_nadd, k_nadd2, k_cat, len_l0, len_l1, len_l2, ix_first, ix_second, Int.reduceEq, Int.reduceSub, eq_self, mod_i2, int_i, k_asgP2, k_nadd3, add_ref, k_ifeT, k_ifeF, v_rg1, e1, e2, e4]
      rw [lc_cell (ps := rows) (c := fun r => decide (r.1 = a)) (fv := prD) (it_cell rfl hj2) hj2 (by omega) (fun q _ => by
        simp only [runF, List.map_cons, List.map_nil, List.cons_append, List.nil_append, Nat.reduceSub, List.replicate_succ, List.replicate_zero, v_seq, v_if, v_tof, v_op, v_un, v_var, v_c, v_ret, v_nx, v_asg, v_and, v_or, v_not, v_nil, v_cons, v_tup, v_lst, v_frz, v_cb, v_cn, v_cp, v_ife, v_par, v_for, v_tru, List.getElem?_cons_zero, List.getElem?_cons_succ, List.set_cons_zero, List.set_cons_succ, k_var, k_op, k_op2, k_un, k_some, k_tof, k_asgN, k_ret, k_seqR, k_seqN, k_cons, k_cons2, k_cb, k_cn, k_cp, k_frz, k_par, k_par2, k_forV, k_truB, k_truT, k_not, k_orF, k_andT, k_andF, k_orT, k_ifT, k_ifF, k_ifeT, k_ifeF, i_ge, i_sub, i_neg, i_eq, i_ne, in_pr, nin_pr, pl_0, pl_1, pl_2, pr_0, pr_1, R.bind, k_tup, k_lst, List.length_cons, List.length_nil, Nat.reduceAdd, Nat.reduceLeDiff, decide_true, decide_false, Bool.not_true, Bool.not_false, Bool.true_and, Bool.false_and, Bool.and_true, Bool.and_false, Bool.or_true, Bool.or_false, if_true, if_false, Bool.false_eq_true, wipeE, tup_lst, v_yes, len_tup, i_lt, i_gt, i_add, k_asgT3, k_asgP, Bool.false_or, Bool.true_or, v_rg1, v_rg2, k_rg1, k_rg2, k_rg2b, v_it, k_itL, k_itT, v_lrg, k_lrg, v_ct, k_ct, v_new, k_new, v_app, k_app, k_app1, k_app2, k_push, v_exp, k_exp, v_nadd, k_nadd, k_nadd2, k_cat, len_l0, len_l1, len_l2, ix_first, ix_second, Int.reduceEq, Int.reduceSub, eq_self, mod_i2, int_i, k_asgP2, k_nadd3, add_ref, k_ifeT, k_ifeF, v_rg1]
        exact ⟨trivial, fun _ => trivial⟩)]
      simp only [runF, List.map_cons, List.map_nil, List.cons_append, List.nil_append, Nat.reduceSub, List.replicate_succ, List.replicate_zero, v_seq, v_if, v_tof, v_op, v_un, v_var, v_c, v_ret, v_nx, v_asg, v_and, v_or, v_not, v_nil, v_cons, v_tup, v_lst, v_frz, v_cb, v_cn, v_cp, v_ife, v_par, v_for, v_tru, List.getElem?_cons_zero, List.getElem?_cons_succ, List.set_cons_zero, List.set_cons_succ, k_var, k_op, k_op2, k_un, k_some, k_tof, k_asgN, k_ret, k_seqR, k_seqN, k_cons, k_cons2, k_cb, k_cn, k_cp, k_frz, k_par, k_par2, k_forV, k_truB, k_truT, k_not, k_orF, k_andT, k_andF, k_orT, k_ifT, k_ifF, k_ifeT, k_ifeF, i_ge, i_sub, i_neg, i_eq, i_ne, in_pr, nin_pr, pl_0, pl_1, pl_2, pr_0, pr_1, R.bind, k_tup, k_lst, List.length_cons, List.length_nil, Nat.reduceAdd, Nat.reduceLeDiff, decide_true, decide_false, Bool.not_true, Bool.not_false, Bool.true_and, Bool.false_and, Bool.and_true, Bool.and_false, Bool.or_true, Bool.or_false, if_true, if_false, Bool.false_eq_true, wipeE, tup_lst, v_yes, len_tup, i_lt, i_gt, i_add, k_asgT3, k_asgP, Bool.false_or, Bool.true_or, v_rg1, v_rg2, k_rg1, k_rg2, k_rg2b, v_it, k_itL, k_itT, v_lrg, k_lrg, v_ct, k_ct, v_new, k_new, v_app, k_app, k_app1, k_app2, k_push, v_exp, k_exp, v_nadd, k_nadd, k_nadd2, k_cat, len_l0, len_l1, len_l2, ix_first, ix_second, Int.reduceEq, Int.reduceSub, eq_self, mod_i2, int_i, k_asgP2, k_nadd3, add_ref, k_ifeT, k_ifeF, v_rg1]
      rw [lc_cell (ps := rows) (c := fun r => decide (r.2 = bb)) (fv := prD) (it_cell rfl hj2) hj2 (by omega) (fun q _ => by
        simp only [runF, List.map_cons, List.map_nil, List.cons_append, List.nil_append, Nat.reduceSub, List.replicate_succ, List.replicate_zero, v_seq, v_if, v_tof, v_op, v_un, v_var, v_c, v_ret, v_nx, v_asg, v_and, v_or, v_not, v_nil, v_cons, v_tup, v_lst, v_frz, v_cb, v_cn, v_cp, v_ife, v_par, v_for, v_tru, List.getElem?_cons_zero, List.getElem?_cons_succ, List.set_cons_zero, List.set_cons_succ, k_var, k_op, k_op2, k_un, k_some, k_tof, k_asgN, k_ret, k_seqR, k_seqN, k_cons, k_cons2, k_cb, k_cn, k_cp, k_frz, k_par, k_par2, k_forV, k_truB, k_truT, k_not, k_orF, k_andT, k_andF, k_orT, k_ifT, k_ifF, k_ifeT, k_ifeF, i_ge, i_sub, i_neg, i_eq, i_ne, in_pr, nin_pr, pl_0, pl_1, pl_2, pr_0, pr_1, R.bind, k_tup, k_lst, List.length_cons, List.length_nil, Nat.reduceAdd, Nat.reduceLeDiff, decide_true, decide_false, Bool.not_true, Bool.not_false, Bool.true_and, Bool.false_and, Bool.and_true, Bool.and_false, Bool.or_true, Bool.or_false, if_true, if_false, Bool.false_eq_true, wipeE, tup_lst, v_yes, len_tup, i_lt, i_gt, i_add, k_asgT3, k_asgP, Bool.false_or, Bool.true_or, v_rg1, v_rg2, k_rg1, k_rg2, k_rg2b, v_it, k_itL, k_itT, v_lrg, k_lrg, v_ct, k_ct, v_new, k_new, v_app, k_app, k_app1, k_app2, k_push, v_exp, k_exp, v_nadd, k_nadd, k_nadd2, k_cat, len_l0, len_l1, len_l2, ix_first, ix_second, Int.reduceEq, Int.reduceSub, eq_self, mod_i2, int_i, k_asgP2, k_nadd3, add_ref, k_ifeT, k_ifeF, v_rg1]
        exact ⟨trivial, fun _ => trivial⟩)]
      have ll : ∀ (f : Int × Int → Bool), opLen s2 [.lst ((rows.filter f).map prD)] = some (.int ((rows.filter f).length : Nat)) := fun f => by
        rw [len_items (xs := (rows.filter f).map prD) rfl, List.length_map]
      have hsk : sOk ((rows.map prD).length + 1) = true := sOk_of (by rw [List.length_map]; omega)
      simp only [runF, List.map_cons, List.map_nil, List.cons_append, List.nil_append, Nat.reduceSub, List.replicate_succ, List.replicate_zero, v_seq, v_if, v_tof, v_op, v_un, v_var, v_c, v_ret, v_nx, v_asg, v_and, v_or, v_not, v_nil, v_cons, v_tup, v_lst, v_frz, v_cb, v_cn, v_cp, v_ife, v_par, v_for, v_tru, List.getElem?_cons_zero, List.getElem?_cons_succ, List.set_cons_zero, List.set_cons_succ, k_var, k_op, k_op2, k_un, k_some, k_tof, k_asgN, k_ret, k_seqR, k_seqN, k_cons, k_cons2, k_cb, k_cn, k_cp, k_frz, k_par, k_par2, k_forV, k_truB, k_truT, k_not, k_orF, k_andT, k_andF, k_orT, k_ifT, k_ifF, k_ifeT, k_ifeF, i_ge, i_sub, i_neg, i_eq, i_ne, in_pr, nin_pr, pl_0, pl_1, pl_2, pr_0, pr_1, R.bind, k_tup, k_lst, List.length_cons, List.length_nil, Nat.reduceAdd, Nat.reduceLeDiff, decide_true, decide_false, Bool.not_true, Bool.not_false, Bool.true_and, Bool.false_and, Bool.and_true, Bool.and_false, Bool.or_true, Bool.or_false, if_true, if_false, Bool.false_eq_true, wipeE, tup_lst, v_yes, len_tup, i_lt, i_gt, i_add, k_asgT3, k_asgP, Bool.false_or, Bool.true_or, v_rg1, v_rg2, k_rg1, k_rg2, k_rg2b, v_it, k_itL, k_itT, v_lrg, k_lrg, v_ct, k_ct, v_new, k_new, v_app, k_app, k_app1, k_app2, k_push, v_exp, k_exp, v_nadd, k_nadd, k_nadd2, k_cat, len_l0, len_l1, len_l2, ix_first, ix_second, Int.reduceEq, Int.reduceSub, eq_self, mod_i2, int_i, k_asgP2, k_nadd3, add_ref, k_ifeT, k_ifeF, v_rg1, ll]
      cases q1 : decide (((rows.filter fun r => decide (r.1 = a)).length : Int) < 2) with
      | false =>
        simp only [runF, List.map_cons, List.map_nil, List.cons_append, List.nil_append, Nat.reduceSub, List.replicate_succ, List.replicate_zero, v_seq, v_if, v_tof, v_op, v_un, v_var, v_c, v_ret, v_nx, v_asg, v_and, v_or, v_not, v_nil, v_cons, v_tup, v_lst, v_frz, v_cb, v_cn, v_cp, v_ife, v_par, v_for, v_tru, List.getElem?_cons_zero, List.getElem?_cons_succ, List.set_cons_zero, List.set_cons_succ, k_var, k_op, k_op2, k_un, k_some, k_tof, k_asgN, k_ret, k_seqR, k_seqN, k_cons, k_cons2, k_cb, k_cn, k_cp, k_frz, k_par, k_par2, k_forV, k_truB, k_truT, k_not, k_orF, k_andT, k_andF, k_orT, k_ifT, k_ifF, k_ifeT, k_ifeF, i_ge, i_sub, i_neg, i_eq, i_ne, in_pr, nin_pr, pl_0, pl_1, pl_2, pr_0, pr_1, R.bind, k_tup, k_lst, List.length_cons, List.length_nil, Nat.reduceAdd, Nat.reduceLeDiff, decide_true, decide_false, Bool.not_true, Bool.not_false, Bool.true_and, Bool.false_and, Bool.and_true, Bool.and_false, Bool.or_true, Bool.or_false, if_true, if_false, Bool.false_eq_true, wipeE, tup_lst, v_yes, len_tup, i_lt, i_gt, i_add, k_asgT3, k_asgP, Bool.false_or, Bool.true_or, v_rg1, v_rg2, k_rg1, k_rg2, k_rg2b, v_it, k_itL, k_itT, v_lrg, k_lrg, v_ct, k_ct, v_new, k_new, v_app, k_app, k_app1, k_app2, k_push, v_exp, k_exp, v_nadd, k_nadd, k_nadd2, k_cat, len_l0, len_l1, len_l2, ix_first, ix_second, Int.reduceEq, Int.reduceSub, eq_self, mod_i2, int_i, k_asgP2, k_nadd3, add_ref, k_ifeT, k_ifeF, v_rg1]
        refine ⟨_, _, rfl, rows, _, _, _, _, _, _, rfl, hR, by simp; omega, hj2, hK.trans K2, ?_⟩
        rw [List.length_append]
        exact S2
      | true =>
        cases q2 : decide (((rows.filter fun r => decide (r.2 = bb)).length : Int) < 2) with
        | false =>
          simp only [runF, List.map_cons, List.map_nil, List.cons_append, List.nil_append, Nat.reduceSub, List.replicate_succ, List.replicate_zero, v_seq, v_if, v_tof, v_op, v_un, v_var, v_c, v_ret, v_nx, v_asg, v_and, v_or, v_not, v_nil, v_cons, v_tup, v_lst, v_frz, v_cb, v_cn, v_cp, v_ife, v_par, v_for, v_tru, List.getElem?_cons_zero, List.getElem?_cons_succ, List.set_cons_zero, List.set_cons_succ, k_var, k_op, k_op2, k_un, k_some, k_tof, k_asgN, k_ret, k_seqR, k_seqN, k_cons, k_cons2, k_cb, k_cn, k_cp, k_frz, k_par, k_par2, k_forV, k_truB, k_truT, k_not, k_orF, k_andT, k_andF, k_orT, k_ifT, k_ifF, k_ifeT, k_ifeF, i_ge, i_sub, i_neg, i_eq, i_ne, in_pr, nin_pr, pl_0, pl_1, pl_2, pr_0, pr_1, R.bind, k_tup, k_lst, List.length_cons, List.length_nil, Nat.reduceAdd, Nat.reduceLeDiff, decide_true, decide_false, Bool.not_true, Bool.not_false, Bool.true_and, Bool.false_and, Bool.and_true, Bool.and_false, Bool.or_true, Bool.or_false, if_true, if_false, Bool.false_eq_true, wipeE, tup_lst, v_yes, len_tup, i_lt, i_gt, i_add, k_asgT3, k_asgP, Bool.false_or, Bool.true_or, v_rg1, v_rg2, k_rg1, k_rg2, k_rg2b, v_it, k_itL, k_itT, v_lrg, k_lrg, v_ct, k_ct, v_new, k_new, v_app, k_app, k_app1, k_app2, k_push, v_exp, k_exp, v_nadd, k_nadd, k_nadd2, k_cat, len_l0, len_l1, len_l2, ix_first, ix_second, Int.reduceEq, Int.reduceSub, eq_self, mod_i2, int_i, k_asgP2, k_nadd3, add_ref, k_ifeT, k_ifeF, v_rg1, ll, q2]
          refine ⟨_, _, rfl, rows, _, _, _, _, _, _, rfl, hR, by simp; omega, hj2, hK.trans K2, ?_⟩
          rw [List.length_append]
          exact S2
        | true =>
          simp only [runF, List.map_cons, List.map_nil, List.cons_append, List.nil_append, Nat.reduceSub, List.replicate_succ, List.replicate_zero, v_seq, v_if, v_tof, v_op, v_un, v_var, v_c, v_ret, v_nx, v_asg, v_and, v_or, v_not, v_nil, v_cons, v_tup, v_lst, v_frz, v_cb, v_cn, v_cp, v_ife, v_par, v_for, v_tru, List.getElem?_cons_zero, List.getElem?_cons_succ, List.set_cons_zero, List.set_cons_succ, k_var, k_op, k_op2, k_un, k_some, k_tof, k_asgN, k_ret, k_seqR, k_seqN, k_cons, k_cons2, k_cb, k_cn, k_cp, k_frz, k_par, k_par2, k_forV, k_truB, k_truT, k_not, k_orF, k_andT, k_andF, k_orT, k_ifT, k_ifF, k_ifeT, k_ifeF, i_ge, i_sub, i_neg, i_eq, i_ne, in_pr, nin_pr, pl_0, pl_1, pl_2, pr_0, pr_1, R.bind, k_tup, k_lst, List.length_cons, List.length_nil, Nat.reduceAdd, Nat.reduceLeDiff, decide_true, decide_false, Bool.not_true, Bool.not_false, Bool.true_and, Bool.false_and, Bool.and_true, Bool.and_false, Bool.or_true, Bool.or_false, if_true, if_false, Bool.false_eq_true, wipeE, tup_lst, v_yes, len_tup, i_lt, i_gt, i_add, k_asgT3, k_asgP, Bool.false_or, Bool.true_or, v_rg1, v_rg2, k_rg1, k_rg2, k_rg2b, v_it, k_itL, k_itT, v_lrg, k_lrg, v_ct, k_ct, v_new, k_new, v_app, k_app, k_app1, k_app2, k_push, v_exp, k_exp, v_nadd, k_nadd, k_nadd2, k_cat, len_l0, len_l1, len_l2, ix_first, ix_second, Int.reduceEq, Int.reduceSub, eq_self, mod_i2, int_i, k_asgP2, k_nadd3, add_ref, k_ifeT, k_ifeF, v_rg1, ll, q2, hj2, hsk]
          simp only [decide_eq_true_eq] at q1 q2
          refine ⟨_, _, rfl, rows ++ [(a, bb)], _, _, _, _, _, _, rfl, rws_snoc hR (by omega) a0 a1 b0 b1 (by omega) (by omega), by simp; omega, ?_, (hK.trans K2).put (Nat.le_refl _), ?_⟩
          · rw [List.getElem?_set_self (List.getElem?_eq_some_iff.mp hj2).1, map_app]
            rfl
          · rw [List.length_append]
            refine S2.put ?_ (by omega)
            have := purC_prs (ps := rows ++ [(a, bb)])
            rw [map_app] at this
            exact this
    obtain ⟨rows, x4, x5, x6, x7, x8, x9, rfl, hR, hrl, hj, hK, hS⟩ := hI
    rw [len_rgL] at hS
    have hjl := (List.getElem?_eq_some_iff.mp hj).1
    obtain ⟨Q, s3, e3, hQ, hn3, T3⟩ := hS.noughts hm s1 (by omega) hR (d := .ref st.length) (fun st' hk => items_ref (by rw [hk.old _ hjl (by omega)]; exact hj)) (by omega)
    simp only [runF, List.map_cons, List.map_nil, List.cons_append, List.nil_append, Nat.reduceSub, List.replicate_succ, List.replicate_zero, v_seq, v_if, v_tof, v_op, v_un, v_var, v_c, v_ret, v_nx, v_asg, v_and, v_or, v_not, v_nil, v_cons, v_tup, v_lst, v_frz, v_cb, v_cn, v_cp, v_ife, v_par, v_for, v_tru, List.getElem?_cons_zero, List.getElem?_cons_succ, List.set_cons_zero, List.set_cons_succ, k_var, k_op, k_op2, k_un, k_some, k_tof, k_asgN, k_ret, k_seqR, k_seqN, k_cons, k_cons2, k_cb, k_cn, k_cp, k_frz, k_par, k_par2, k_forV, k_truB, k_truT, k_not, k_orF, k_andT, k_andF, k_orT, k_ifT, k_ifF, k_ifeT, k_ifeF, i_ge, i_sub, i_neg, i_eq, i_ne, in_pr, nin_pr, pl_0, pl_1, pl_2, pr_0, pr_1, R.bind, k_tup, k_lst, List.length_cons, List.length_nil, Nat.reduceAdd, Nat.reduceLeDiff, decide_true, decide_false, Bool.not_true, Bool.not_false, Bool.true_and, Bool.false_and, Bool.and_true, Bool.and_false, Bool.or_true, Bool.or_false, if_true, if_false, Bool.false_eq_true, wipeE, tup_lst, v_yes, len_tup, i_lt, i_gt, i_add, k_asgT3, k_asgP, Bool.false_or, Bool.true_or, v_rg1, v_rg2, k_rg1, k_rg2, k_rg2b, v_it, k_itL, k_itT, v_lrg, k_lrg, v_ct, k_ct, v_new, k_new, v_app, k_app, k_app1, k_app2, k_push, v_exp, k_exp, v_nadd, k_nadd, k_nadd2, k_cat, len_l0, len_l1, len_l2, ix_first, ix_second, Int.reduceEq, Int.reduceSub, eq_self, mod_i2, int_i, k_asgP2, k_nadd3, add_ref, k_ifeT, k_ifeF, v_rg1, e3]
    exact ⟨Q, s3, rfl, hQ, hn3, hK.trans T3.k, T3.s.mono (by omega)⟩
  obtain ⟨Q, st2, e, hQ, hn', hK, hS⟩ := run
  obtain ⟨st3, e3, T3⟩ := appT_ok (d' := plD Q) h e hK hS (by
    show (if pur (plD Q) = true then some (plD Q) else none) = _
    rw [pur_pl, if_pos rfl])
  exact ⟨Q, st3, e3, hQ, hn', T3⟩
end
end FK

set_option Elab.async false
set_option linter.all false
set_option maxRecDepth 100000
namespace FK
open DL
/-- rows made one by one, two at an even place -/
structure Steps (n k : Int) (rows : List (Int × Int)) : Prop where
  r : Rws n rows
  len : (rows.length : Int) ≤ 2 * k
  top : ∀ a : Int, 0 ≤ a → a < rows.length → (atR rows a).1 ≤ k ∧ (atR rows a).2 ≤ k
  b1 : (rows.filter fun r => decide (r.1 = k)).length ≤ 1
  e1 : (rows.filter fun r => decide (r.2 = k)).length ≤ 1
theorem filter_app {rows : List (Int × Int)} {r : Int × Int} {f : Int × Int → Bool} : ((rows ++ [r]).filter f).length = (rows.filter f).length + (if f r then 1 else 0) := by
  rw [List.filter_append, List.length_append]
  cases h : f r with
  | true => rw [List.filter_cons_of_pos h]; rfl
  | false => rw [List.filter_cons_of_neg (by rw [h]; exact Bool.false_ne_true)]; rfl
theorem filter_none {rows : List (Int × Int)} {f : Int × Int → Bool} (h : ∀ a : Int, 0 ≤ a → a < rows.length → f (atR rows a) = false) : (rows.filter f).length = 0 := by
  rw [List.length_eq_zero_iff, List.filter_eq_nil_iff]
  intro r hr
  obtain ⟨a, a0, a1, rfl⟩ := mem_atR hr
  rw [h a a0 a1]
  exact Bool.false_ne_true
theorem top_app {rows : List (Int × Int)} {r : Int × Int} {k : Int} (h : ∀ a : Int, 0 ≤ a → a < rows.length → (atR rows a).1 ≤ k ∧ (atR rows a).2 ≤ k) (hr : r.1 ≤ k ∧ r.2 ≤ k) : ∀ a : Int, 0 ≤ a → a < (rows ++ [r]).length → (atR (rows ++ [r]) a).1 ≤ k ∧ (atR (rows ++ [r]) a).2 ≤ k := fun a a0 a1 => by
  rw [List.length_append] at a1
  simp at a1
  by_cases e : a < rows.length
  · rw [atR_app1 a0 e]
    exact h a a0 e
  · have : a = rows.length := by omega
    subst this
    rw [atR_app2]
    exact hr
theorem steps_one {n k : Int} {rows : List (Int × Int)} (h : Steps n k rows) (k0 : 0 ≤ k) (k1 : k + 1 < n) (hn : n ≤ 50) : Rws n (rows ++ [(k, k + 1)]) ∧ Steps n (k + 1) (rows ++ [(k, k + 1)]) ∧ Steps n (k + 1) (rows ++ [(k, k + 1)] ++ [(k + 1, k)]) := by
  have hl := h.len
  have hb := h.b1
  have he := h.e1
  have z1 : (rows.filter fun r => decide (r.1 = k + 1)).length = 0 := filter_none fun a a0 a1 => by
    have := h.top a a0 a1
    simp
    omega
  have z2 : (rows.filter fun r => decide (r.2 = k + 1)).length = 0 := filter_none fun a a0 a1 => by
    have := h.top a a0 a1
    simp
    omega
  have R1 : Rws n (rows ++ [(k, k + 1)]) := rws_snoc h.r (by omega) k0 (by omega) (by omega) k1 (by omega) (by omega)
  have T1 := top_app (r := (k, k + 1)) (k := k + 1) (fun a a0 a1 => by have := h.top a a0 a1; omega) (by simp; omega)
  have f1 : ((rows ++ [(k, k + 1)]).filter fun r => decide (r.1 = k + 1)).length = 0 := by
    rw [filter_app, z1]
    simp
    omega
  have f2 : ((rows ++ [(k, k + 1)]).filter fun r => decide (r.2 = k + 1)).length = 1 := by
    rw [filter_app, z2]
    simp
  have f3 : ((rows ++ [(k, k + 1)]).filter fun r => decide (r.2 = k)).length ≤ 1 := by
    rw [filter_app]
    have : decide (k + 1 = k) = false := by simp; omega
    simp [this]
    omega
  have L1 : (((rows ++ [(k, k + 1)]).length : Nat) : Int) ≤ 2 * (k + 1) - 1 := by simp; omega
  refine ⟨R1, ⟨R1, by omega, T1, by omega, by omega⟩, ?_⟩
  have R2 : Rws n (rows ++ [(k, k + 1)] ++ [(k + 1, k)]) := rws_snoc R1 (by omega) (by omega) k1 k0 (by omega) (by omega) (by omega)
  refine ⟨R2, ?_, top_app T1 (by simp; omega), ?_, ?_⟩
  · rw [List.length_append]
    simp
    omega
  · rw [filter_app, f1]
    simp
  · rw [filter_app, f2]
    have : decide (k = k + 1) = false := by simp; omega
    simp [this]
theorem emod_fmod {a n : Int} (hn : 0 < n) : a.fmod n = a % n := Int.fmod_eq_emod_of_nonneg a (by omega)
theorem rows_tab {P : Int → Int × Int} {xs : List Int} : (xs.map fun k => prD (P k)) = (xs.map P).map prD := by rw [List.map_map]; rfl
theorem nd_tab {f : Int → Int × Int} {m : Int} (h : ∀ a b : Int, 0 ≤ a → a < m → 0 ≤ b → b < m → f a = f b → a = b) : ((rgL 0 m).map f).Nodup := nd_map (nd_lt (srt_rgL 0 m)) fun x hx y hy e => by
  have hx := mem_rgL.mp hx
  have hy := mem_rgL.mp hy
  exact h x y hx.1 hx.2 hy.1 hy.2 e
theorem round_gentle {size : Int} (s1 : 1 ≤ size) (s2 : size ≤ 20) : Gentle ⟨size, (rgL 0 size).map fun k => (k, (k + 1).fmod size), sortP ((rgL 0 size).map fun k => (k, (k + 1).fmod size))⟩ := by
  have hl : (((rgL 0 size).map fun k => (k, (k + 1).fmod size)).length : Int) = size := by
    rw [List.length_map, len_rgL]
    omega
  have nd : (sortP ((rgL 0 size).map fun k => (k, (k + 1).fmod size))).Nodup := (sort_perm _).nodup_iff.mpr (nd_tab fun a b _ _ _ _ e => congrArg (·.1) e)
  refine gentle_round s1 (by show size ≤ 100; omega) hl (fun a a0 a1 => ?_) (fun a b => ?_) (nd_srt nd (sort_srt _)) ?_
  · show (atR ((rgL 0 size).map fun k => (k, (k + 1).fmod size)) a).1 = a ∧ (atR ((rgL 0 size).map fun k => (k, (k + 1).fmod size)) a).2 = _
    rw [atR_tab a0 a1]
    exact ⟨rfl, emod_fmod (by omega)⟩
  · show (a, b) ∈ sortP _ ↔ 0 ≤ a ∧ a < size ∧ b = (a + 1) % size
    rw [(sort_perm _).mem_iff, List.mem_map]
    constructor
    · rintro ⟨k, hk, e⟩
      have hk := mem_rgL.mp hk
      cases e
      exact ⟨hk.1, hk.2, emod_fmod (by omega)⟩
    · rintro ⟨a0, a1, rfl⟩
      exact ⟨a, mem_rgL.mpr ⟨a0, a1⟩, by rw [emod_fmod (by omega)]⟩
  · show (sortP _).length ≤ 1000
    rw [(sort_perm _).length_eq]
    omega
theorem loop_gentle {size : Int} (s1 : 1 ≤ size) (s2 : size ≤ 20) {ks : List Int} (hk : ∀ k ∈ ks, 0 ≤ k ∧ k < size - 2) (nk : ks.Nodup) (lk : ks.length ≤ 100) : Gentle ⟨size, ((rgL 0 (size - 1)).map fun k => (k, k + 1)) ++ [(size - 1, size - 1)], sortP ([(size - 1, size - 1)] ++ ks.map fun k => (k, k + 1))⟩ := by
  have hl0 : (((rgL 0 (size - 1)).map fun k => (k, k + 1)).length : Int) = size - 1 := by
    rw [List.length_map, len_rgL]
    omega
  have nd : (sortP ([(size - 1, size - 1)] ++ ks.map fun k => (k, k + 1))).Nodup := (sort_perm _).nodup_iff.mpr (by
    rw [List.singleton_append, List.nodup_cons]
    refine ⟨fun hm => ?_, nd_map nk fun x _ y _ e => congrArg (·.1) e⟩
    obtain ⟨k, h1, h2⟩ := List.mem_map.mp hm
    have := hk k h1
    have e : k = size - 1 := congrArg (·.1) h2
    omega)
  have mem : ∀ a b : Int, (a, b) ∈ sortP ([(size - 1, size - 1)] ++ ks.map fun k => (k, k + 1)) ↔ (a = size - 1 ∧ b = size - 1) ∨ (a ∈ ks ∧ b = a + 1) := fun a b => by
    rw [(sort_perm _).mem_iff, List.singleton_append, List.mem_cons, List.mem_map]
    constructor
    · rintro (e | ⟨k, h1, e⟩)
      · cases e
        exact .inl ⟨rfl, rfl⟩
      · cases e
        exact .inr ⟨h1, rfl⟩
    · rintro (⟨rfl, rfl⟩ | ⟨h1, rfl⟩)
      · exact .inl rfl
      · exact .inr ⟨a, h1, rfl⟩
  refine gentle_loop s1 (by show size ≤ 100; omega) ?_ (fun a a0 a1 => ?_) ?_ (fun a b hab => ?_) ((mem _ _).mpr (.inl ⟨rfl, rfl⟩)) (nd_srt nd (sort_srt _)) ?_
  · show (((((rgL 0 (size - 1)).map fun k => (k, k + 1)) ++ [(size - 1, size - 1)]).length : Nat) : Int) = size
    rw [List.length_append]
    simp only [List.length_cons, List.length_nil]
    omega
  · have a1 : a < size - 1 := a1
    show (atR (((rgL 0 (size - 1)).map fun k => (k, k + 1)) ++ [(size - 1, size - 1)]) a).1 = a ∧ (atR (((rgL 0 (size - 1)).map fun k => (k, k + 1)) ++ [(size - 1, size - 1)]) a).2 = a + 1
    rw [atR_app1 a0 (by omega), atR_tab a0 a1]
    exact ⟨rfl, rfl⟩
  · have := atR_app2 (rows := (rgL 0 (size - 1)).map fun k => (k, k + 1)) (r := (size - 1, size - 1))
    rw [hl0] at this
    show (atR (((rgL 0 (size - 1)).map fun k => (k, k + 1)) ++ [(size - 1, size - 1)]) (size - 1)).1 = size - 1 ∧ (atR (((rgL 0 (size - 1)).map fun k => (k, k + 1)) ++ [(size - 1, size - 1)]) (size - 1)).2 = size - 1
    rw [this]
    exact ⟨rfl, rfl⟩
  · rcases (mem a b).mp hab with q | q
    · exact .inl q
    · have := hk a q.1
      exact .inr ⟨this.1, this.2, q.2⟩
  · show (sortP _).length ≤ 1000
    rw [(sort_perm _).length_eq]
    simp
    omega
end FK

set_option Elab.async false
set_option linter.all false
set_option maxRecDepth 100000
namespace FK
open DL
section
variable {n : Nat} {ms : List Int} {b : Int} {st : Store}
theorem Sto.newP {ps : List (Int × Int)} (h : Sto n ms b st) : Sto n ms b (st ++ [.lst (ps.map prD)]) := h.new purC_prs
/-- rows in a new cell, then noughts -/
theorem Sto.nref (h : Sto n ms b st) (hm : ms ≠ []) {size : Int} {rows : List (Int × Int)} (s1 : 1 ≤ size) (s2 : size ≤ 100) (hR : Rws size rows) (hb : b + size < 1000000000000) :
    ∃ (Q : Pl) (st' : Store), appT f__law_with_noughts [.ref n, .int size, .ref st.length] (st ++ [.lst (rows.map prD)]) = .ok (plD Q) st' ∧ Gentle Q ∧ Q.n = size ∧ Kp n st st' ∧ Sto n ms (b + size) st' := by
  have hn := h.lt
  obtain ⟨Q, st', e, hQ, hn', T⟩ := (h.newP (ps := rows)).noughts hm s1 s2 hR (d := .ref st.length) (fun st' hk => items_ref (by rw [hk.old _ (by simp) (by omega), List.getElem?_concat_length])) hb
  exact ⟨Q, st', e, hQ, hn', Kp.new.trans T.k, T.s⟩
theorem known_end {st2 : Store} {size : Int} {Q : Pl} {r : R D} (h : Sto n ms b st) (hr : f__law_known_plan [.ref n, .int size] st = r) (e : r = .ok (plD Q) st2) (hQ : Gentle Q) (hn : Q.n = size) (hK : Kp n st st2) (hS : Sto n ms (b + 200) st2) : ∃ (Q : Pl) (st' : Store), appT f__law_known_plan [.ref n, .int size] st = .ok (plD Q) st' ∧ Gentle Q ∧ Q.n = size ∧ Tk n ms (b + 200) st st' := by
  obtain ⟨st3, e3, T3⟩ := appT_ok (d' := plD Q) h (hr.trans e) hK hS (by
    show (if pur (plD Q) = true then some (plD Q) else none) = _
    rw [pur_pl, if_pos rfl])
  exact ⟨Q, st3, e3, hQ, hn, T3⟩
theorem Sto.known (h : Sto n ms b st) (hm : ms ≠ []) {size : Int} (s1 : 1 ≤ size) (s2 : size ≤ 20) (hb : b + 10000 < 1000000000000) :
    ∃ (Q : Pl) (st' : Store), appT f__law_known_plan [.ref n, .int size] st = .ok (plD Q) st' ∧ Gentle Q ∧ Q.n = size ∧ Tk n ms (b + 200) st st' := by
  have hn := h.lt
  obtain ⟨w, sa, e0, w0, w1, T0⟩ := h.tdraw (by omega) hm (w := 5) (by omega) (by omega)
  have rs : rgOk 0 size = true := rgOk_small (by omega) (by omega) (by omega) (by omega)
  have rs1 : rgOk 0 (size - 1) = true := rgOk_small (by omega) (by omega) (by omega) (by omega)
  have rs2 : rgOk 0 (size - 2) = true := rgOk_small (by omega) (by omega) (by omega) (by omega)
  have l0 : (rgL 0 size).length ≤ 16777216 := by rw [len_rgL]; omega
  have l1 : (rgL 0 (size - 1)).length ≤ 16777216 := by rw [len_rgL]; omega
  have l2 : (rgL 0 (size - 2)).length ≤ 16777216 := by rw [len_rgL]; omega
  have z : ¬ size = 0 := by omega
  have hw : w = 0 ∨ w = 1 ∨ w = 2 ∨ w = 3 ∨ w = 4 := by omega
  generalize hr : f__law_known_plan [.ref n, .int size] st = r
  have hr0 := hr
  rcases hw with rfl | rfl | rfl | rfl | rfl
  · simp only [f__law_known_plan, b__law_known_plan, runF, List.map_cons, List.map_nil, List.cons_append, List.nil_append, Nat.reduceSub, List.replicate_succ, List.replicate_zero, v_seq, v_if, v_tof, v_op, v_un, v_var, v_c, v_ret, v_nx, v_asg, v_and, v_or, v_not, v_nil, v_cons, v_tup, v_lst, v_frz, v_cb, v_cn, v_cp, v_ife, v_par, v_for, v_tru, List.getElem?_cons_zero, List.getElem?_cons_succ, List.set_cons_zero, List.set_cons_succ, k_var, k_op, k_op2, k_un, k_some, k_tof, k_asgN, k_ret, k_seqR, k_seqN, k_cons, k_cons2, k_cb, k_cn, k_cp, k_frz, k_par, k_par2, k_forV, k_truB, k_truT, k_not, k_orF, k_andT, k_andF, k_orT, k_ifT, k_ifF, k_ifeT, k_ifeF, i_ge, i_sub, i_neg, i_eq, i_ne, in_pr, nin_pr, pl_0, pl_1, pl_2, pr_0, pr_1, R.bind, k_tup, k_lst, List.length_cons, List.length_nil, Nat.reduceAdd, Nat.reduceLeDiff, decide_true, decide_false, Bool.not_true, Bool.not_false, Bool.true_and, Bool.false_and, Bool.and_true, Bool.and_false, Bool.or_true, Bool.or_false, if_true, if_false, Bool.false_eq_true, wipeE, tup_lst, v_yes, len_tup, i_lt, i_gt, i_add, k_asgT3, k_asgP, Bool.false_or, Bool.true_or, v_rg1, v_rg2, k_rg1, k_rg2, k_rg2b, v_it, k_itL, k_itT, v_lrg, k_lrg, v_ct, k_ct, v_new, k_new, v_app, k_app, k_app1, k_app2, k_push, v_exp, k_exp, v_nadd, k_nadd, k_nadd2, k_cat, len_l0, len_l1, len_l2, ix_first, ix_second, Int.reduceEq, Int.reduceSub, eq_self, mod_i2, int_i, k_asgP2, k_nadd3, add_ref, k_ifeT, k_ifeF, v_rg1, e0, rs1] at hr
    obtain ⟨ds, sb, e1, ts, hts, hlen, hK1, hS1⟩ := lc_run (it := iRg1 (eOp opSub (eVar 1) (eC (.int 1)))) (i := 5) (p := tYesD) (f := eCallT f__law_draw (aCons (eVar 0) (aCons (eC (.int 2)) aNil))) (vs := [5]) (env := [some (.ref n), some (.int size), some (.int 0), none, none, none, none]) (st := sa) (xs := rgL 0 (size - 1))
      (fun pre ds s => ∃ ts : List Int, ds = ts.map D.int ∧ ts.length = pre.length ∧ Kp n sa s ∧ Sto n ms (b + 1 + pre.length) s) (by simp only [runF, List.map_cons, List.map_nil, List.cons_append, List.nil_append, Nat.reduceSub, List.replicate_succ, List.replicate_zero, v_seq, v_if, v_tof, v_op, v_un, v_var, v_c, v_ret, v_nx, v_asg, v_and, v_or, v_not, v_nil, v_cons, v_tup, v_lst, v_frz, v_cb, v_cn, v_cp, v_ife, v_par, v_for, v_tru, List.getElem?_cons_zero, List.getElem?_cons_succ, List.set_cons_zero, List.set_cons_succ, k_var, k_op, k_op2, k_un, k_some, k_tof, k_asgN, k_ret, k_seqR, k_seqN, k_cons, k_cons2, k_cb, k_cn, k_cp, k_frz, k_par, k_par2, k_forV, k_truB, k_truT, k_not, k_orF, k_andT, k_andF, k_orT, k_ifT, k_ifF, k_ifeT, k_ifeF, i_ge, i_sub, i_neg, i_eq, i_ne, in_pr, nin_pr, pl_0, pl_1, pl_2, pr_0, pr_1, R.bind, k_tup, k_lst, List.length_cons, List.length_nil, Nat.reduceAdd, Nat.reduceLeDiff, decide_true, decide_false, Bool.not_true, Bool.not_false, Bool.true_and, Bool.false_and, Bool.and_true, Bool.and_false, Bool.or_true, Bool.or_false, if_true, if_false, Bool.false_eq_true, wipeE, tup_lst, v_yes, len_tup, i_lt, i_gt, i_add, k_asgT3, k_asgP, Bool.false_or, Bool.true_or, v_rg1, v_rg2, k_rg1, k_rg2, k_rg2b, v_it, k_itL, k_itT, v_lrg, k_lrg, v_ct, k_ct, v_new, k_new, v_app, k_app, k_app1, k_app2, k_push, v_exp, k_exp, v_nadd, k_nadd, k_nadd2, k_cat, len_l0, len_l1, len_l2, ix_first, ix_second, Int.reduceEq, Int.reduceSub, eq_self, mod_i2, int_i, k_asgP2, k_nadd3, add_ref, k_ifeT, k_ifeF, v_rg1, rs1]) l1 ⟨[], rfl, rfl, .refl, T0.s.mono (by simp)⟩ fun pre x post ds s hx hI => by
      obtain ⟨ts, rfl, hl, hK, hS⟩ := hI
      have hlen : pre.length + (post.length + 1) ≤ 20 := by
        have := congrArg List.length hx
        rw [len_rgL, List.length_append, List.length_cons] at this
        omega
      obtain ⟨v, s2, e2, v0, v1, T⟩ := hS.tdraw (by omega) hm (w := 2) (by omega) (by omega)
      refine ⟨some (.int v), s2, lcT_yes (s1 := s) (y := .int v) rfl (by simp only [runF, List.map_cons, List.map_nil, List.cons_append, List.nil_append, Nat.reduceSub, List.replicate_succ, List.replicate_zero, v_seq, v_if, v_tof, v_op, v_un, v_var, v_c, v_ret, v_nx, v_asg, v_and, v_or, v_not, v_nil, v_cons, v_tup, v_lst, v_frz, v_cb, v_cn, v_cp, v_ife, v_par, v_for, v_tru, List.getElem?_cons_zero, List.getElem?_cons_succ, List.set_cons_zero, List.set_cons_succ, k_var, k_op, k_op2, k_un, k_some, k_tof, k_asgN, k_ret, k_seqR, k_seqN, k_cons, k_cons2, k_cb, k_cn, k_cp, k_frz, k_par, k_par2, k_forV, k_truB, k_truT, k_not, k_orF, k_andT, k_andF, k_orT, k_ifT, k_ifF, k_ifeT, k_ifeF, i_ge, i_sub, i_neg, i_eq, i_ne, in_pr, nin_pr, pl_0, pl_1, pl_2, pr_0, pr_1, R.bind, k_tup, k_lst, List.length_cons, List.length_nil, Nat.reduceAdd, Nat.reduceLeDiff, decide_true, decide_false, Bool.not_true, Bool.not_false, Bool.true_and, Bool.false_and, Bool.and_true, Bool.and_false, Bool.or_true, Bool.or_false, if_true, if_false, Bool.false_eq_true, wipeE, tup_lst, v_yes, len_tup, i_lt, i_gt, i_add, k_asgT3, k_asgP, Bool.false_or, Bool.true_or, v_rg1, v_rg2, k_rg1, k_rg2, k_rg2b, v_it, k_itL, k_itT, v_lrg, k_lrg, v_ct, k_ct, v_new, k_new, v_app, k_app, k_app1, k_app2, k_push, v_exp, k_exp, v_nadd, k_nadd, k_nadd2, k_cat, len_l0, len_l1, len_l2, ix_first, ix_second, Int.reduceEq, Int.reduceSub, eq_self, mod_i2, int_i, k_asgP2, k_nadd3, add_ref, k_ifeT, k_ifeF, v_rg1, e2]), ts ++ [v], ?_, by simp [hl], hK.trans T.k, T.s.mono (by simp; omega)⟩
      rw [List.map_append]
      rfl
    subst hts
    rw [e1] at hr
    simp only [runF, List.map_cons, List.map_nil, List.cons_append, List.nil_append, Nat.reduceSub, List.replicate_succ, List.replicate_zero, v_seq, v_if, v_tof, v_op, v_un, v_var, v_c, v_ret, v_nx, v_asg, v_and, v_or, v_not, v_nil, v_cons, v_tup, v_lst, v_frz, v_cb, v_cn, v_cp, v_ife, v_par, v_for, v_tru, List.getElem?_cons_zero, List.getElem?_cons_succ, List.set_cons_zero, List.set_cons_succ, k_var, k_op, k_op2, k_un, k_some, k_tof, k_asgN, k_ret, k_seqR, k_seqN, k_cons, k_cons2, k_cb, k_cn, k_cp, k_frz, k_par, k_par2, k_forV, k_truB, k_truT, k_not, k_orF, k_andT, k_andF, k_orT, k_ifT, k_ifF, k_ifeT, k_ifeF, i_ge, i_sub, i_neg, i_eq, i_ne, in_pr, nin_pr, pl_0, pl_1, pl_2, pr_0, pr_1, R.bind, k_tup, k_lst, List.length_cons, List.length_nil, Nat.reduceAdd, Nat.reduceLeDiff, decide_true, decide_false, Bool.not_true, Bool.not_false, Bool.true_and, Bool.false_and, Bool.and_true, Bool.and_false, Bool.or_true, Bool.or_false, if_true, if_false, Bool.false_eq_true, wipeE, tup_lst, v_yes, len_tup, i_lt, i_gt, i_add, k_asgT3, k_asgP, Bool.false_or, Bool.true_or, v_rg1, v_rg2, k_rg1, k_rg2, k_rg2b, v_it, k_itL, k_itT, v_lrg, k_lrg, v_ct, k_ct, v_new, k_new, v_app, k_app, k_app1, k_app2, k_push, v_exp, k_exp, v_nadd, k_nadd, k_nadd2, k_cat, len_l0, len_l1, len_l2, ix_first, ix_second, Int.reduceEq, Int.reduceSub, eq_self, mod_i2, int_i, k_asgP2, k_nadd3, add_ref, k_ifeT, k_ifeF, v_rg1] at hr
    rw [lc_ints (xs := rgL 0 (size - 1)) (c := fun _ => true) (fv := fun k => prD (if decide (ixI ts k = 0) = true then (k, k + 1) else (k + 1, k))) (by simp only [runF, List.map_cons, List.map_nil, List.cons_append, List.nil_append, Nat.reduceSub, List.replicate_succ, List.replicate_zero, v_seq, v_if, v_tof, v_op, v_un, v_var, v_c, v_ret, v_nx, v_asg, v_and, v_or, v_not, v_nil, v_cons, v_tup, v_lst, v_frz, v_cb, v_cn, v_cp, v_ife, v_par, v_for, v_tru, List.getElem?_cons_zero, List.getElem?_cons_succ, List.set_cons_zero, List.set_cons_succ, k_var, k_op, k_op2, k_un, k_some, k_tof, k_asgN, k_ret, k_seqR, k_seqN, k_cons, k_cons2, k_cb, k_cn, k_cp, k_frz, k_par, k_par2, k_forV, k_truB, k_truT, k_not, k_orF, k_andT, k_andF, k_orT, k_ifT, k_ifF, k_ifeT, k_ifeF, i_ge, i_sub, i_neg, i_eq, i_ne, in_pr, nin_pr, pl_0, pl_1, pl_2, pr_0, pr_1, R.bind, k_tup, k_lst, List.length_cons, List.length_nil, Nat.reduceAdd, Nat.reduceLeDiff, decide_true, decide_false, Bool.not_true, Bool.not_false, Bool.true_and, Bool.false_and, Bool.and_true, Bool.and_false, Bool.or_true, Bool.or_false, if_true, if_false, Bool.false_eq_true, wipeE, tup_lst, v_yes, len_tup, i_lt, i_gt, i_add, k_asgT3, k_asgP, Bool.false_or, Bool.true_or, v_rg1, v_rg2, k_rg1, k_rg2, k_rg2b, v_it, k_itL, k_itT, v_lrg, k_lrg, v_ct, k_ct, v_new, k_new, v_app, k_app, k_app1, k_app2, k_push, v_exp, k_exp, v_nadd, k_nadd, k_nadd2, k_cat, len_l0, len_l1, len_l2, ix_first, ix_second, Int.reduceEq, Int.reduceSub, eq_self, mod_i2, int_i, k_asgP2, k_nadd3, add_ref, k_ifeT, k_ifeF, v_rg1, rs1]) l1 (fun x hx => by
      have hx := mem_rgL.mp hx
      rw [len_rgL] at hlen
      have ix : ∀ s, opIx s (.lst (ts.map D.int)) (.int x) = some (.int (ixI ts x)) := fun s => ix_items (xs := ts.map D.int) rfl hx.1 (by rw [List.getElem?_map, ixI_some hx.1 (by omega)]; rfl)
      cases q : decide (ixI ts x = 0) <;> simp only [runF, List.map_cons, List.map_nil, List.cons_append, List.nil_append, Nat.reduceSub, List.replicate_succ, List.replicate_zero, v_seq, v_if, v_tof, v_op, v_un, v_var, v_c, v_ret, v_nx, v_asg, v_and, v_or, v_not, v_nil, v_cons, v_tup, v_lst, v_frz, v_cb, v_cn, v_cp, v_ife, v_par, v_for, v_tru, List.getElem?_cons_zero, List.getElem?_cons_succ, List.set_cons_zero, List.set_cons_succ, k_var, k_op, k_op2, k_un, k_some, k_tof, k_asgN, k_ret, k_seqR, k_seqN, k_cons, k_cons2, k_cb, k_cn, k_cp, k_frz, k_par, k_par2, k_forV, k_truB, k_truT, k_not, k_orF, k_andT, k_andF, k_orT, k_ifT, k_ifF, k_ifeT, k_ifeF, i_ge, i_sub, i_neg, i_eq, i_ne, in_pr, nin_pr, pl_0, pl_1, pl_2, pr_0, pr_1, R.bind, k_tup, k_lst, List.length_cons, List.length_nil, Nat.reduceAdd, Nat.reduceLeDiff, decide_true, decide_false, Bool.not_true, Bool.not_false, Bool.true_and, Bool.false_and, Bool.and_true, Bool.and_false, Bool.or_true, Bool.or_false, if_true, if_false, Bool.false_eq_true, wipeE, tup_lst, v_yes, len_tup, i_lt, i_gt, i_add, k_asgT3, k_asgP, Bool.false_or, Bool.true_or, v_rg1, v_rg2, k_rg1, k_rg2, k_rg2b, v_it, k_itL, k_itT, v_lrg, k_lrg, v_ct, k_ct, v_new, k_new, v_app, k_app, k_app1, k_app2, k_push, v_exp, k_exp, v_nadd, k_nadd, k_nadd2, k_cat, len_l0, len_l1, len_l2, ix_first, ix_second, Int.reduceEq, Int.reduceSub, eq_self, mod_i2, int_i, k_asgP2, k_nadd3, add_ref, k_ifeT, k_ifeF, v_rg1, ix, q] <;> exact ⟨trivial, fun _ => rfl⟩)] at hr
    have hn' : n < sb.length := by have := hK1.len; have := T0.e; omega
    have hS1' : Sto n ms (b + 1 + (rgL 0 (size - 1)).length) sb := hS1
    obtain ⟨Q, st', e3, hQ, hQn, hK3, hS3⟩ := hS1'.nref hm s1 (by omega) (rows := (rgL 0 (size - 1)).map fun k => if decide (ixI ts k = 0) = true then (k, k + 1) else (k + 1, k)) (rws_line s1 (by omega) (by rw [List.length_map, len_rgL]; omega) fun a a0 a1 => by
      rw [List.length_map, len_rgL] at a1
      rw [atR_tab a0 (by omega)]
      cases decide (ixI ts a = 0)
      · exact .inr ⟨rfl, rfl⟩
      · exact .inl ⟨rfl, rfl⟩) (by rw [len_rgL]; omega)
    rw [fil_true, rows_tab] at hr
    simp only [runF, List.map_cons, List.map_nil, List.cons_append, List.nil_append, Nat.reduceSub, List.replicate_succ, List.replicate_zero, v_seq, v_if, v_tof, v_op, v_un, v_var, v_c, v_ret, v_nx, v_asg, v_and, v_or, v_not, v_nil, v_cons, v_tup, v_lst, v_frz, v_cb, v_cn, v_cp, v_ife, v_par, v_for, v_tru, List.getElem?_cons_zero, List.getElem?_cons_succ, List.set_cons_zero, List.set_cons_succ, k_var, k_op, k_op2, k_un, k_some, k_tof, k_asgN, k_ret, k_seqR, k_seqN, k_cons, k_cons2, k_cb, k_cn, k_cp, k_frz, k_par, k_par2, k_forV, k_truB, k_truT, k_not, k_orF, k_andT, k_andF, k_orT, k_ifT, k_ifF, k_ifeT, k_ifeF, i_ge, i_sub, i_neg, i_eq, i_ne, in_pr, nin_pr, pl_0, pl_1, pl_2, pr_0, pr_1, R.bind, k_tup, k_lst, List.length_cons, List.length_nil, Nat.reduceAdd, Nat.reduceLeDiff, decide_true, decide_false, Bool.not_true, Bool.not_false, Bool.true_and, Bool.false_and, Bool.and_true, Bool.and_false, Bool.or_true, Bool.or_false, if_true, if_false, Bool.false_eq_true, wipeE, tup_lst, v_yes, len_tup, i_lt, i_gt, i_add, k_asgT3, k_asgP, Bool.false_or, Bool.true_or, v_rg1, v_rg2, k_rg1, k_rg2, k_rg2b, v_it, k_itL, k_itT, v_lrg, k_lrg, v_ct, k_ct, v_new, k_new, v_app, k_app, k_app1, k_app2, k_push, v_exp, k_exp, v_nadd, k_nadd, k_nadd2, k_cat, len_l0, len_l1, len_l2, ix_first, ix_second, Int.reduceEq, Int.reduceSub, eq_self, mod_i2, int_i, k_asgP2, k_nadd3, add_ref, k_ifeT, k_ifeF, v_rg1, e3] at hr
    exact known_end h hr0 hr.symm hQ hQn ((T0.k.trans hK1).trans hK3) (hS3.mono (by rw [len_rgL]; omega))
  · simp only [f__law_known_plan, b__law_known_plan, runF, List.map_cons, List.map_nil, List.cons_append, List.nil_append, Nat.reduceSub, List.replicate_succ, List.replicate_zero, v_seq, v_if, v_tof, v_op, v_un, v_var, v_c, v_ret, v_nx, v_asg, v_and, v_or, v_not, v_nil, v_cons, v_tup, v_lst, v_frz, v_cb, v_cn, v_cp, v_ife, v_par, v_for, v_tru, List.getElem?_cons_zero, List.getElem?_cons_succ, List.set_cons_zero, List.set_cons_succ, k_var, k_op, k_op2, k_un, k_some, k_tof, k_asgN, k_ret, k_seqR, k_seqN, k_cons, k_cons2, k_cb, k_cn, k_cp, k_frz, k_par, k_par2, k_forV, k_truB, k_truT, k_not, k_orF, k_andT, k_andF, k_orT, k_ifT, k_ifF, k_ifeT, k_ifeF, i_ge, i_sub, i_neg, i_eq, i_ne, in_pr, nin_pr, pl_0, pl_1, pl_2, pr_0, pr_1, R.bind, k_tup, k_lst, List.length_cons, List.length_nil, Nat.reduceAdd, Nat.reduceLeDiff, decide_true, decide_false, Bool.not_true, Bool.not_false, Bool.true_and, Bool.false_and, Bool.and_true, Bool.and_false, Bool.or_true, Bool.or_false, if_true, if_false, Bool.false_eq_true, wipeE, tup_lst, v_yes, len_tup, i_lt, i_gt, i_add, k_asgT3, k_asgP, Bool.false_or, Bool.true_or, v_rg1, v_rg2, k_rg1, k_rg2, k_rg2b, v_it, k_itL, k_itT, v_lrg, k_lrg, v_ct, k_ct, v_new, k_new, v_app, k_app, k_app1, k_app2, k_push, v_exp, k_exp, v_nadd, k_nadd, k_nadd2, k_cat, len_l0, len_l1, len_l2, ix_first, ix_second, Int.reduceEq, Int.reduceSub, eq_self, mod_i2, int_i, k_asgP2, k_nadd3, add_ref, k_ifeT, k_ifeF, v_rg1, e0, rs] at hr
    rw [lc_ints (xs := rgL 0 size) (c := fun _ => true) (fv := fun k => prD (k, (k + 1).fmod size)) (by simp only [runF, List.map_cons, List.map_nil, List.cons_append, List.nil_append, Nat.reduceSub, List.replicate_succ, List.replicate_zero, v_seq, v_if, v_tof, v_op, v_un, v_var, v_c, v_ret, v_nx, v_asg, v_and, v_or, v_not, v_nil, v_cons, v_tup, v_lst, v_frz, v_cb, v_cn, v_cp, v_ife, v_par, v_for, v_tru, List.getElem?_cons_zero, List.getElem?_cons_succ, List.set_cons_zero, List.set_cons_succ, k_var, k_op, k_op2, k_un, k_some, k_tof, k_asgN, k_ret, k_seqR, k_seqN, k_cons, k_cons2, k_cb, k_cn, k_cp, k_frz, k_par, k_par2, k_forV, k_truB, k_truT, k_not, k_orF, k_andT, k_andF, k_orT, k_ifT, k_ifF, k_ifeT, k_ifeF, i_ge, i_sub, i_neg, i_eq, i_ne, in_pr, nin_pr, pl_0, pl_1, pl_2, pr_0, pr_1, R.bind, k_tup, k_lst, List.length_cons, List.length_nil, Nat.reduceAdd, Nat.reduceLeDiff, decide_true, decide_false, Bool.not_true, Bool.not_false, Bool.true_and, Bool.false_and, Bool.and_true, Bool.and_false, Bool.or_true, Bool.or_false, if_true, if_false, Bool.false_eq_true, wipeE, tup_lst, v_yes, len_tup, i_lt, i_gt, i_add, k_asgT3, k_asgP, Bool.false_or, Bool.true_or, v_rg1, v_rg2, k_rg1, k_rg2, k_rg2b, v_it, k_itL, k_itT, v_lrg, k_lrg, v_ct, k_ct, v_new, k_new, v_app, k_app, k_app1, k_app2, k_push, v_exp, k_exp, v_nadd, k_nadd, k_nadd2, k_cat, len_l0, len_l1, len_l2, ix_first, ix_second, Int.reduceEq, Int.reduceSub, eq_self, mod_i2, int_i, k_asgP2, k_nadd3, add_ref, k_ifeT, k_ifeF, v_rg1, rs]) l0 (fun x hx => by
      simp only [runF, List.map_cons, List.map_nil, List.cons_append, List.nil_append, Nat.reduceSub, List.replicate_succ, List.replicate_zero, v_seq, v_if, v_tof, v_op, v_un, v_var, v_c, v_ret, v_nx, v_asg, v_and, v_or, v_not, v_nil, v_cons, v_tup, v_lst, v_frz, v_cb, v_cn, v_cp, v_ife, v_par, v_for, v_tru, List.getElem?_cons_zero, List.getElem?_cons_succ, List.set_cons_zero, List.set_cons_succ, k_var, k_op, k_op2, k_un, k_some, k_tof, k_asgN, k_ret, k_seqR, k_seqN, k_cons, k_cons2, k_cb, k_cn, k_cp, k_frz, k_par, k_par2, k_forV, k_truB, k_truT, k_not, k_orF, k_andT, k_andF, k_orT, k_ifT, k_ifF, k_ifeT, k_ifeF, i_ge, i_sub, i_neg, i_eq, i_ne, in_pr, nin_pr, pl_0, pl_1, pl_2, pr_0, pr_1, R.bind, k_tup, k_lst, List.length_cons, List.length_nil, Nat.reduceAdd, Nat.reduceLeDiff, decide_true, decide_false, Bool.not_true, Bool.not_false, Bool.true_and, Bool.false_and, Bool.and_true, Bool.and_false, Bool.or_true, Bool.or_false, if_true, if_false, Bool.false_eq_true, wipeE, tup_lst, v_yes, len_tup, i_lt, i_gt, i_add, k_asgT3, k_asgP, Bool.false_or, Bool.true_or, v_rg1, v_rg2, k_rg1, k_rg2, k_rg2b, v_it, k_itL, k_itT, v_lrg, k_lrg, v_ct, k_ct, v_new, k_new, v_app, k_app, k_app1, k_app2, k_push, v_exp, k_exp, v_nadd, k_nadd, k_nadd2, k_cat, len_l0, len_l1, len_l2, ix_first, ix_second, Int.reduceEq, Int.reduceSub, eq_self, mod_i2, int_i, k_asgP2, k_nadd3, add_ref, k_ifeT, k_ifeF, v_rg1, z]
      exact ⟨trivial, fun _ => rfl⟩)] at hr
    rw [fil_true, rows_tab] at hr
    have tu : opTuple (sa ++ [.lst (((rgL 0 size).map fun k => (k, (k + 1).fmod size)).map prD)]) [.ref sa.length] = some (.tup (((rgL 0 size).map fun k => (k, (k + 1).fmod size)).map prD)) := tup_items (items_ref List.getElem?_concat_length)
    simp only [runF, List.map_cons, List.map_nil, List.cons_append, List.nil_append, Nat.reduceSub, List.replicate_succ, List.replicate_zero, v_seq, v_if, v_tof, v_op, v_un, v_var, v_c, v_ret, v_nx, v_asg, v_and, v_or, v_not, v_nil, v_cons, v_tup, v_lst, v_frz, v_cb, v_cn, v_cp, v_ife, v_par, v_for, v_tru, List.getElem?_cons_zero, List.getElem?_cons_succ, List.set_cons_zero, List.set_cons_succ, k_var, k_op, k_op2, k_un, k_some, k_tof, k_asgN, k_ret, k_seqR, k_seqN, k_cons, k_cons2, k_cb, k_cn, k_cp, k_frz, k_par, k_par2, k_forV, k_truB, k_truT, k_not, k_orF, k_andT, k_andF, k_orT, k_ifT, k_ifF, k_ifeT, k_ifeF, i_ge, i_sub, i_neg, i_eq, i_ne, in_pr, nin_pr, pl_0, pl_1, pl_2, pr_0, pr_1, R.bind, k_tup, k_lst, List.length_cons, List.length_nil, Nat.reduceAdd, Nat.reduceLeDiff, decide_true, decide_false, Bool.not_true, Bool.not_false, Bool.true_and, Bool.false_and, Bool.and_true, Bool.and_false, Bool.or_true, Bool.or_false, if_true, if_false, Bool.false_eq_true, wipeE, tup_lst, v_yes, len_tup, i_lt, i_gt, i_add, k_asgT3, k_asgP, Bool.false_or, Bool.true_or, v_rg1, v_rg2, k_rg1, k_rg2, k_rg2b, v_it, k_itL, k_itT, v_lrg, k_lrg, v_ct, k_ct, v_new, k_new, v_app, k_app, k_app1, k_app2, k_push, v_exp, k_exp, v_nadd, k_nadd, k_nadd2, k_cat, len_l0, len_l1, len_l2, ix_first, ix_second, Int.reduceEq, Int.reduceSub, eq_self, mod_i2, int_i, k_asgP2, k_nadd3, add_ref, k_ifeT, k_ifeF, v_rg1, rs, tu] at hr
    rw [lc_ints (xs := rgL 0 size) (c := fun _ => true) (fv := fun k => prD (k, (k + 1).fmod size)) (by simp only [runF, List.map_cons, List.map_nil, List.cons_append, List.nil_append, Nat.reduceSub, List.replicate_succ, List.replicate_zero, v_seq, v_if, v_tof, v_op, v_un, v_var, v_c, v_ret, v_nx, v_asg, v_and, v_or, v_not, v_nil, v_cons, v_tup, v_lst, v_frz, v_cb, v_cn, v_cp, v_ife, v_par, v_for, v_tru, List.getElem?_cons_zero, List.getElem?_cons_succ, List.set_cons_zero, List.set_cons_succ, k_var, k_op, k_op2, k_un, k_some, k_tof, k_asgN, k_ret, k_seqR, k_seqN, k_cons, k_cons2, k_cb, k_cn, k_cp, k_frz, k_par, k_par2, k_forV, k_truB, k_truT, k_not, k_orF, k_andT, k_andF, k_orT, k_ifT, k_ifF, k_ifeT, k_ifeF, i_ge, i_sub, i_neg, i_eq, i_ne, in_pr, nin_pr, pl_0, pl_1, pl_2, pr_0, pr_1, R.bind, k_tup, k_lst, List.length_cons, List.length_nil, Nat.reduceAdd, Nat.reduceLeDiff, decide_true, decide_false, Bool.not_true, Bool.not_false, Bool.true_and, Bool.false_and, Bool.and_true, Bool.and_false, Bool.or_true, Bool.or_false, if_true, if_false, Bool.false_eq_true, wipeE, tup_lst, v_yes, len_tup, i_lt, i_gt, i_add, k_asgT3, k_asgP, Bool.false_or, Bool.true_or, v_rg1, v_rg2, k_rg1, k_rg2, k_rg2b, v_it, k_itL, k_itT, v_lrg, k_lrg, v_ct, k_ct, v_new, k_new, v_app, k_app, k_app1, k_app2, k_push, v_exp, k_exp, v_nadd, k_nadd, k_nadd2, k_cat, len_l0, len_l1, len_l2, ix_first, ix_second, Int.reduceEq, Int.reduceSub, eq_self, mod_i2, int_i, k_asgP2, k_nadd3, add_ref, k_ifeT, k_ifeF, v_rg1, rs]) l0 (fun x hx => by
      simp only [runF, List.map_cons, List.map_nil, List.cons_append, List.nil_append, Nat.reduceSub, List.replicate_succ, List.replicate_zero, v_seq, v_if, v_tof, v_op, v_un, v_var, v_c, v_ret, v_nx, v_asg, v_and, v_or, v_not, v_nil, v_cons, v_tup, v_lst, v_frz, v_cb, v_cn, v_cp, v_ife, v_par, v_for, v_tru, List.getElem?_cons_zero, List.getElem?_cons_succ, List.set_cons_zero, List.set_cons_succ, k_var, k_op, k_op2, k_un, k_some, k_tof, k_asgN, k_ret, k_seqR, k_seqN, k_cons, k_cons2, k_cb, k_cn, k_cp, k_frz, k_par, k_par2, k_forV, k_truB, k_truT, k_not, k_orF, k_andT, k_andF, k_orT, k_ifT, k_ifF, k_ifeT, k_ifeF, i_ge, i_sub, i_neg, i_eq, i_ne, in_pr, nin_pr, pl_0, pl_1, pl_2, pr_0, pr_1, R.bind, k_tup, k_lst, List.length_cons, List.length_nil, Nat.reduceAdd, Nat.reduceLeDiff, decide_true, decide_false, Bool.not_true, Bool.not_false, Bool.true_and, Bool.false_and, Bool.and_true, Bool.and_false, Bool.or_true, Bool.or_false, if_true, if_false, Bool.false_eq_true, wipeE, tup_lst, v_yes, len_tup, i_lt, i_gt, i_add, k_asgT3, k_asgP, Bool.false_or, Bool.true_or, v_rg1, v_rg2, k_rg1, k_rg2, k_rg2b, v_it, k_itL, k_itT, v_lrg, k_lrg, v_ct, k_ct, v_new, k_new, v_app, k_app, k_app1, k_app2, k_push, v_exp, k_exp, v_nadd, k_nadd, k_nadd2, k_cat, len_l0, len_l1, len_l2, ix_first, ix_second, Int.reduceEq, Int.reduceSub, eq_self, mod_i2, int_i, k_asgP2, k_nadd3, add_ref, k_ifeT, k_ifeF, v_rg1, z]
      exact ⟨trivial, fun _ => rfl⟩)] at hr
    rw [fil_true, rows_tab] at hr
    have so : ∀ s, opSortB s [.lst (((rgL 0 size).map fun k => (k, (k + 1).fmod size)).map prD)] = some ((sortP ((rgL 0 size).map fun k => (k, (k + 1).fmod size))).map prD) := fun s => sort_lst (by rw [List.length_map]; exact l0)
    simp only [runF, List.map_cons, List.map_nil, List.cons_append, List.nil_append, Nat.reduceSub, List.replicate_succ, List.replicate_zero, v_seq, v_if, v_tof, v_op, v_un, v_var, v_c, v_ret, v_nx, v_asg, v_and, v_or, v_not, v_nil, v_cons, v_tup, v_lst, v_frz, v_cb, v_cn, v_cp, v_ife, v_par, v_for, v_tru, List.getElem?_cons_zero, List.getElem?_cons_succ, List.set_cons_zero, List.set_cons_succ, k_var, k_op, k_op2, k_un, k_some, k_tof, k_asgN, k_ret, k_seqR, k_seqN, k_cons, k_cons2, k_cb, k_cn, k_cp, k_frz, k_par, k_par2, k_forV, k_truB, k_truT, k_not, k_orF, k_andT, k_andF, k_orT, k_ifT, k_ifF, k_ifeT, k_ifeF, i_ge, i_sub, i_neg, i_eq, i_ne, in_pr, nin_pr, pl_0, pl_1, pl_2, pr_0, pr_1, R.bind, k_tup, k_lst, List.length_cons, List.length_nil, Nat.reduceAdd, Nat.reduceLeDiff, decide_true, decide_false, Bool.not_true, Bool.not_false, Bool.true_and, Bool.false_and, Bool.and_true, Bool.and_false, Bool.or_true, Bool.or_false, if_true, if_false, Bool.false_eq_true, wipeE, tup_lst, v_yes, len_tup, i_lt, i_gt, i_add, k_asgT3, k_asgP, Bool.false_or, Bool.true_or, v_rg1, v_rg2, k_rg1, k_rg2, k_rg2b, v_it, k_itL, k_itT, v_lrg, k_lrg, v_ct, k_ct, v_new, k_new, v_app, k_app, k_app1, k_app2, k_push, v_exp, k_exp, v_nadd, k_nadd, k_nadd2, k_cat, len_l0, len_l1, len_l2, ix_first, ix_second, Int.reduceEq, Int.reduceSub, eq_self, mod_i2, int_i, k_asgP2, k_nadd3, add_ref, k_ifeT, k_ifeF, v_rg1, so] at hr
    exact known_end (Q := ⟨size, (rgL 0 size).map fun k => (k, (k + 1).fmod size), sortP ((rgL 0 size).map fun k => (k, (k + 1).fmod size))⟩) h hr0 hr.symm (round_gentle s1 s2) rfl (T0.k.trans .new) (T0.s.newP.mono (by omega))
  · simp only [f__law_known_plan, b__law_known_plan, runF, List.map_cons, List.map_nil, List.cons_append, List.nil_append, Nat.reduceSub, List.replicate_succ, List.replicate_zero, v_seq, v_if, v_tof, v_op, v_un, v_var, v_c, v_ret, v_nx, v_asg, v_and, v_or, v_not, v_nil, v_cons, v_tup, v_lst, v_frz, v_cb, v_cn, v_cp, v_ife, v_par, v_for, v_tru, List.getElem?_cons_zero, List.getElem?_cons_succ, List.set_cons_zero, List.set_cons_succ, k_var, k_op, k_op2, k_un, k_some, k_tof, k_asgN, k_ret, k_seqR, k_seqN, k_cons, k_cons2, k_cb, k_cn, k_cp, k_frz, k_par, k_par2, k_forV, k_truB, k_truT, k_not, k_orF, k_andT, k_andF, k_orT, k_ifT, k_ifF, k_ifeT, k_ifeF, i_ge, i_sub, i_neg, i_eq, i_ne, in_pr, nin_pr, pl_0, pl_1, pl_2, pr_0, pr_1, R.bind, k_tup, k_lst, List.length_cons, List.length_nil, Nat.reduceAdd, Nat.reduceLeDiff, decide_true, decide_false, Bool.not_true, Bool.not_false, Bool.true_and, Bool.false_and, Bool.and_true, Bool.and_false, Bool.or_true, Bool.or_false, if_true, if_false, Bool.false_eq_true, wipeE, tup_lst, v_yes, len_tup, i_lt, i_gt, i_add, k_asgT3, k_asgP, Bool.false_or, Bool.true_or, v_rg1, v_rg2, k_rg1, k_rg2, k_rg2b, v_it, k_itL, k_itT, v_lrg, k_lrg, v_ct, k_ct, v_new, k_new, v_app, k_app, k_app1, k_app2, k_push, v_exp, k_exp, v_nadd, k_nadd, k_nadd2, k_cat, len_l0, len_l1, len_l2, ix_first, ix_second, Int.reduceEq, Int.reduceSub, eq_self, mod_i2, int_i, k_asgP2, k_nadd3, add_ref, k_ifeT, k_ifeF, v_rg1, e0, rs1] at hr
    rw [lc_ints (xs := rgL 0 (size - 1)) (c := fun _ => true) (fv := fun k => prD (k, k + 1)) (by simp only [runF, List.map_cons, List.map_nil, List.cons_append, List.nil_append, Nat.reduceSub, List.replicate_succ, List.replicate_zero, v_seq, v_if, v_tof, v_op, v_un, v_var, v_c, v_ret, v_nx, v_asg, v_and, v_or, v_not, v_nil, v_cons, v_tup, v_lst, v_frz, v_cb, v_cn, v_cp, v_ife, v_par, v_for, v_tru, List.getElem?_cons_zero, List.getElem?_cons_succ, List.set_cons_zero, List.set_cons_succ, k_var, k_op, k_op2, k_un, k_some, k_tof, k_asgN, k_ret, k_seqR, k_seqN, k_cons, k_cons2, k_cb, k_cn, k_cp, k_frz, k_par, k_par2, k_forV, k_truB, k_truT, k_not, k_orF, k_andT, k_andF, k_orT, k_ifT, k_ifF, k_ifeT, k_ifeF, i_ge, i_sub, i_neg, i_eq, i_ne, in_pr, nin_pr, pl_0, pl_1, pl_2, pr_0, pr_1, R.bind, k_tup, k_lst, List.length_cons, List.length_nil, Nat.reduceAdd, Nat.reduceLeDiff, decide_true, decide_false, Bool.not_true, Bool.not_false, Bool.true_and, Bool.false_and, Bool.and_true, Bool.and_false, Bool.or_true, Bool.or_false, if_true, if_false, Bool.false_eq_true, wipeE, tup_lst, v_yes, len_tup, i_lt, i_gt, i_add, k_asgT3, k_asgP, Bool.false_or, Bool.true_or, v_rg1, v_rg2, k_rg1, k_rg2, k_rg2b, v_it, k_itL, k_itT, v_lrg, k_lrg, v_ct, k_ct, v_new, k_new, v_app, k_app, k_app1, k_app2, k_push, v_exp, k_exp, v_nadd, k_nadd, k_nadd2, k_cat, len_l0, len_l1, len_l2, ix_first, ix_second, Int.reduceEq, Int.reduceSub, eq_self, mod_i2, int_i, k_asgP2, k_nadd3, add_ref, k_ifeT, k_ifeF, v_rg1, rs1]) l1 (fun x hx => by
      simp only [runF, List.map_cons, List.map_nil, List.cons_append, List.nil_append, Nat.reduceSub, List.replicate_succ, List.replicate_zero, v_seq, v_if, v_tof, v_op, v_un, v_var, v_c, v_ret, v_nx, v_asg, v_and, v_or, v_not, v_nil, v_cons, v_tup, v_lst, v_frz, v_cb, v_cn, v_cp, v_ife, v_par, v_for, v_tru, List.getElem?_cons_zero, List.getElem?_cons_succ, List.set_cons_zero, List.set_cons_succ, k_var, k_op, k_op2, k_un, k_some, k_tof, k_asgN, k_ret, k_seqR, k_seqN, k_cons, k_cons2, k_cb, k_cn, k_cp, k_frz, k_par, k_par2, k_forV, k_truB, k_truT, k_not, k_orF, k_andT, k_andF, k_orT, k_ifT, k_ifF, k_ifeT, k_ifeF, i_ge, i_sub, i_neg, i_eq, i_ne, in_pr, nin_pr, pl_0, pl_1, pl_2, pr_0, pr_1, R.bind, k_tup, k_lst, List.length_cons, List.length_nil, Nat.reduceAdd, Nat.reduceLeDiff, decide_true, decide_false, Bool.not_true, Bool.not_false, Bool.true_and, Bool.false_and, Bool.and_true, Bool.and_false, Bool.or_true, Bool.or_false, if_true, if_false, Bool.false_eq_true, wipeE, tup_lst, v_yes, len_tup, i_lt, i_gt, i_add, k_asgT3, k_asgP, Bool.false_or, Bool.true_or, v_rg1, v_rg2, k_rg1, k_rg2, k_rg2b, v_it, k_itL, k_itT, v_lrg, k_lrg, v_ct, k_ct, v_new, k_new, v_app, k_app, k_app1, k_app2, k_push, v_exp, k_exp, v_nadd, k_nadd, k_nadd2, k_cat, len_l0, len_l1, len_l2, ix_first, ix_second, Int.reduceEq, Int.reduceSub, eq_self, mod_i2, int_i, k_asgP2, k_nadd3, add_ref, k_ifeT, k_ifeF, v_rg1]
      exact ⟨trivial, fun _ => rfl⟩)] at hr
    rw [fil_true, rows_tab] at hr
    have hl0 : (((rgL 0 (size - 1)).map fun k => (k, k + 1)).length : Int) = size - 1 := by rw [List.length_map, len_rgL]; omega
    cases q : decide (1 < size) with
    | true =>
      have q' : 1 < size := of_decide_eq_true q
      have ad := add_ref (st := sa ++ [.lst (((rgL 0 (size - 1)).map fun k => (k, k + 1)).map prD)]) (n := sa.length) (ys := [D.tup [.int 0, .int 1]]) List.getElem?_concat_length (by simp only [List.length_map, List.length_cons, List.length_nil, len_rgL]; omega)
      simp only [runF, List.map_cons, List.map_nil, List.cons_append, List.nil_append, Nat.reduceSub, List.replicate_succ, List.replicate_zero, v_seq, v_if, v_tof, v_op, v_un, v_var, v_c, v_ret, v_nx, v_asg, v_and, v_or, v_not, v_nil, v_cons, v_tup, v_lst, v_frz, v_cb, v_cn, v_cp, v_ife, v_par, v_for, v_tru, List.getElem?_cons_zero, List.getElem?_cons_succ, List.set_cons_zero, List.set_cons_succ, k_var, k_op, k_op2, k_un, k_some, k_tof, k_asgN, k_ret, k_seqR, k_seqN, k_cons, k_cons2, k_cb, k_cn, k_cp, k_frz, k_par, k_par2, k_forV, k_truB, k_truT, k_not, k_orF, k_andT, k_andF, k_orT, k_ifT, k_ifF, k_ifeT, k_ifeF, i_ge, i_sub, i_neg, i_eq, i_ne, in_pr, nin_pr, pl_0, pl_1, pl_2, pr_0, pr_1, R.bind, k_tup, k_lst, List.length_cons, List.length_nil, Nat.reduceAdd, Nat.reduceLeDiff, decide_true, decide_false, Bool.not_true, Bool.not_false, Bool.true_and, Bool.false_and, Bool.and_true, Bool.and_false, Bool.or_true, Bool.or_false, if_true, if_false, Bool.false_eq_true, wipeE, tup_lst, v_yes, len_tup, i_lt, i_gt, i_add, k_asgT3, k_asgP, Bool.false_or, Bool.true_or, v_rg1, v_rg2, k_rg1, k_rg2, k_rg2b, v_it, k_itL, k_itT, v_lrg, k_lrg, v_ct, k_ct, v_new, k_new, v_app, k_app, k_app1, k_app2, k_push, v_exp, k_exp, v_nadd, k_nadd, k_nadd2, k_cat, len_l0, len_l1, len_l2, ix_first, ix_second, Int.reduceEq, Int.reduceSub, eq_self, mod_i2, int_i, k_asgP2, k_nadd3, add_ref, k_ifeT, k_ifeF, v_rg1, q, ad] at hr
      have e2 : ((rgL 0 (size - 1)).map fun k => (k, k + 1)).map prD ++ [D.tup [.int 0, .int 1]] = (((rgL 0 (size - 1)).map fun k => (k, k + 1)) ++ [(0, 1)]).map prD := by rw [map_app]; rfl
      rw [e2] at hr
      obtain ⟨Q, st', e3, hQ, hQn, T3⟩ := (T0.s.newP (ps := (rgL 0 (size - 1)).map fun k => (k, k + 1))).noughts hm s1 (by omega) (rows := ((rgL 0 (size - 1)).map fun k => (k, k + 1)) ++ [(0, 1)]) (rws_side s1 (by omega) (by rw [if_pos q', List.length_append]; simp only [List.length_cons, List.length_nil]; omega) (fun a a0 a1 => by
          rw [atR_app1 a0 (by omega), atR_tab a0 a1]
          exact ⟨rfl, rfl⟩) (fun _ => by
          have := atR_app2 (rows := (rgL 0 (size - 1)).map fun k => (k, k + 1)) (r := ((0 : Int), (1 : Int)))
          rw [hl0] at this
          rw [this]
          exact ⟨rfl, rfl⟩)) (d := .lst ((((rgL 0 (size - 1)).map fun k => (k, k + 1)) ++ [(0, 1)]).map prD)) (fun st' hk => rfl) (by omega)
      simp only [runF, List.map_cons, List.map_nil, List.cons_append, List.nil_append, Nat.reduceSub, List.replicate_succ, List.replicate_zero, v_seq, v_if, v_tof, v_op, v_un, v_var, v_c, v_ret, v_nx, v_asg, v_and, v_or, v_not, v_nil, v_cons, v_tup, v_lst, v_frz, v_cb, v_cn, v_cp, v_ife, v_par, v_for, v_tru, List.getElem?_cons_zero, List.getElem?_cons_succ, List.set_cons_zero, List.set_cons_succ, k_var, k_op, k_op2, k_un, k_some, k_tof, k_asgN, k_ret, k_seqR, k_seqN, k_cons, k_cons2, k_cb, k_cn, k_cp, k_frz, k_par, k_par2, k_forV, k_truB, k_truT, k_not, k_orF, k_andT, k_andF, k_orT, k_ifT, k_ifF, k_ifeT, k_ifeF, i_ge, i_sub, i_neg, i_eq, i_ne, in_pr, nin_pr, pl_0, pl_1, pl_2, pr_0, pr_1, R.bind, k_tup, k_lst, List.length_cons, List.length_nil, Nat.reduceAdd, Nat.reduceLeDiff, decide_true, decide_false, Bool.not_true, Bool.not_false, Bool.true_and, Bool.false_and, Bool.and_true, Bool.and_false, Bool.or_true, Bool.or_false, if_true, if_false, Bool.false_eq_true, wipeE, tup_lst, v_yes, len_tup, i_lt, i_gt, i_add, k_asgT3, k_asgP, Bool.false_or, Bool.true_or, v_rg1, v_rg2, k_rg1, k_rg2, k_rg2b, v_it, k_itL, k_itT, v_lrg, k_lrg, v_ct, k_ct, v_new, k_new, v_app, k_app, k_app1, k_app2, k_push, v_exp, k_exp, v_nadd, k_nadd, k_nadd2, k_cat, len_l0, len_l1, len_l2, ix_first, ix_second, Int.reduceEq, Int.reduceSub, eq_self, mod_i2, int_i, k_asgP2, k_nadd3, add_ref, k_ifeT, k_ifeF, v_rg1, e3] at hr
      exact known_end h hr0 hr.symm hQ hQn ((T0.k.trans .new).trans T3.k) (T3.s.mono (by omega))
    | false =>
      have q' : ¬ 1 < size := of_decide_eq_false q
      have e2 : (rgL 0 (size - 1)).map (fun k => (k, k + 1)) = [] := by
        have : size = 1 := by omega
        subst this
        rfl
      rw [e2] at hr
      have ad := add_ref (st := sa ++ [.lst []]) (n := sa.length) (ys := []) List.getElem?_concat_length (by simp)
      simp only [runF, List.map_cons, List.map_nil, List.cons_append, List.nil_append, Nat.reduceSub, List.replicate_succ, List.replicate_zero, v_seq, v_if, v_tof, v_op, v_un, v_var, v_c, v_ret, v_nx, v_asg, v_and, v_or, v_not, v_nil, v_cons, v_tup, v_lst, v_frz, v_cb, v_cn, v_cp, v_ife, v_par, v_for, v_tru, List.getElem?_cons_zero, List.getElem?_cons_succ, List.set_cons_zero, List.set_cons_succ, k_var, k_op, k_op2, k_un, k_some, k_tof, k_asgN, k_ret, k_seqR, k_seqN, k_cons, k_cons2, k_cb, k_cn, k_cp, k_frz, k_par, k_par2, k_forV, k_truB, k_truT, k_not, k_orF, k_andT, k_andF, k_orT, k_ifT, k_ifF, k_ifeT, k_ifeF, i_ge, i_sub, i_neg, i_eq, i_ne, in_pr, nin_pr, pl_0, pl_1, pl_2, pr_0, pr_1, R.bind, k_tup, k_lst, List.length_cons, List.length_nil, Nat.reduceAdd, Nat.reduceLeDiff, decide_true, decide_false, Bool.not_true, Bool.not_false, Bool.true_and, Bool.false_and, Bool.and_true, Bool.and_false, Bool.or_true, Bool.or_false, if_true, if_false, Bool.false_eq_true, wipeE, tup_lst, v_yes, len_tup, i_lt, i_gt, i_add, k_asgT3, k_asgP, Bool.false_or, Bool.true_or, v_rg1, v_rg2, k_rg1, k_rg2, k_rg2b, v_it, k_itL, k_itT, v_lrg, k_lrg, v_ct, k_ct, v_new, k_new, v_app, k_app, k_app1, k_app2, k_push, v_exp, k_exp, v_nadd, k_nadd, k_nadd2, k_cat, len_l0, len_l1, len_l2, ix_first, ix_second, Int.reduceEq, Int.reduceSub, eq_self, mod_i2, int_i, k_asgP2, k_nadd3, add_ref, k_ifeT, k_ifeF, v_rg1, q, ad] at hr
      obtain ⟨Q, st', e3, hQ, hQn, T3⟩ := (T0.s.newP (ps := [])).noughts hm s1 (by omega) (rows := []) (rws_nil _) (d := .lst []) (fun st' hk => rfl) (by omega)
      simp only [runF, List.map_cons, List.map_nil, List.cons_append, List.nil_append, Nat.reduceSub, List.replicate_succ, List.replicate_zero, v_seq, v_if, v_tof, v_op, v_un, v_var, v_c, v_ret, v_nx, v_asg, v_and, v_or, v_not, v_nil, v_cons, v_tup, v_lst, v_frz, v_cb, v_cn, v_cp, v_ife, v_par, v_for, v_tru, List.getElem?_cons_zero, List.getElem?_cons_succ, List.set_cons_zero, List.set_cons_succ, k_var, k_op, k_op2, k_un, k_some, k_tof, k_asgN, k_ret, k_seqR, k_seqN, k_cons, k_cons2, k_cb, k_cn, k_cp, k_frz, k_par, k_par2, k_forV, k_truB, k_truT, k_not, k_orF, k_andT, k_andF, k_orT, k_ifT, k_ifF, k_ifeT, k_ifeF, i_ge, i_sub, i_neg, i_eq, i_ne, in_pr, nin_pr, pl_0, pl_1, pl_2, pr_0, pr_1, R.bind, k_tup, k_lst, List.length_cons, List.length_nil, Nat.reduceAdd, Nat.reduceLeDiff, decide_true, decide_false, Bool.not_true, Bool.not_false, Bool.true_and, Bool.false_and, Bool.and_true, Bool.and_false, Bool.or_true, Bool.or_false, if_true, if_false, Bool.false_eq_true, wipeE, tup_lst, v_yes, len_tup, i_lt, i_gt, i_add, k_asgT3, k_asgP, Bool.false_or, Bool.true_or, v_rg1, v_rg2, k_rg1, k_rg2, k_rg2b, v_it, k_itL, k_itT, v_lrg, k_lrg, v_ct, k_ct, v_new, k_new, v_app, k_app, k_app1, k_app2, k_push, v_exp, k_exp, v_nadd, k_nadd, k_nadd2, k_cat, len_l0, len_l1, len_l2, ix_first, ix_second, Int.reduceEq, Int.reduceSub, eq_self, mod_i2, int_i, k_asgP2, k_nadd3, add_ref, k_ifeT, k_ifeF, v_rg1] at e3
      simp only [runF, List.map_cons, List.map_nil, List.cons_append, List.nil_append, Nat.reduceSub, List.replicate_succ, List.replicate_zero, v_seq, v_if, v_tof, v_op, v_un, v_var, v_c, v_ret, v_nx, v_asg, v_and, v_or, v_not, v_nil, v_cons, v_tup, v_lst, v_frz, v_cb, v_cn, v_cp, v_ife, v_par, v_for, v_tru, List.getElem?_cons_zero, List.getElem?_cons_succ, List.set_cons_zero, List.set_cons_succ, k_var, k_op, k_op2, k_un, k_some, k_tof, k_asgN, k_ret, k_seqR, k_seqN, k_cons, k_cons2, k_cb, k_cn, k_cp, k_frz, k_par, k_par2, k_forV, k_truB, k_truT, k_not, k_orF, k_andT, k_andF, k_orT, k_ifT, k_ifF, k_ifeT, k_ifeF, i_ge, i_sub, i_neg, i_eq, i_ne, in_pr, nin_pr, pl_0, pl_1, pl_2, pr_0, pr_1, R.bind, k_tup, k_lst, List.length_cons, List.length_nil, Nat.reduceAdd, Nat.reduceLeDiff, decide_true, decide_false, Bool.not_true, Bool.not_false, Bool.true_and, Bool.false_and, Bool.and_true, Bool.and_false, Bool.or_true, Bool.or_false, if_true, if_false, Bool.false_eq_true, wipeE, tup_lst, v_yes, len_tup, i_lt, i_gt, i_add, k_asgT3, k_asgP, Bool.false_or, Bool.true_or, v_rg1, v_rg2, k_rg1, k_rg2, k_rg2b, v_it, k_itL, k_itT, v_lrg, k_lrg, v_ct, k_ct, v_new, k_new, v_app, k_app, k_app1, k_app2, k_push, v_exp, k_exp, v_nadd, k_nadd, k_nadd2, k_cat, len_l0, len_l1, len_l2, ix_first, ix_second, Int.reduceEq, Int.reduceSub, eq_self, mod_i2, int_i, k_asgP2, k_nadd3, add_ref, k_ifeT, k_ifeF, v_rg1, e3] at hr
      exact known_end h hr0 hr.symm hQ hQn ((T0.k.trans .new).trans T3.k) (T3.s.mono (by omega))
  · simp only [f__law_known_plan, b__law_known_plan, runF, List.map_cons, List.map_nil, List.cons_append, List.nil_append, Nat.reduceSub, List.replicate_succ, List.replicate_zero, v_seq, v_if, v_tof, v_op, v_un, v_var, v_c, v_ret, v_nx, v_asg, v_and, v_or, v_not, v_nil, v_cons, v_tup, v_lst, v_frz, v_cb, v_cn, v_cp, v_ife, v_par, v_for, v_tru, List.getElem?_cons_zero, List.getElem?_cons_succ, List.set_cons_zero, List.set_cons_succ, k_var, k_op, k_op2, k_un, k_some, k_tof, k_asgN, k_ret, k_seqR, k_seqN, k_cons, k_cons2, k_cb, k_cn, k_cp, k_frz, k_par, k_par2, k_forV, k_truB, k_truT, k_not, k_orF, k_andT, k_andF, k_orT, k_ifT, k_ifF, k_ifeT, k_ifeF, i_ge, i_sub, i_neg, i_eq, i_ne, in_pr, nin_pr, pl_0, pl_1, pl_2, pr_0, pr_1, R.bind, k_tup, k_lst, List.length_cons, List.length_nil, Nat.reduceAdd, Nat.reduceLeDiff, decide_true, decide_false, Bool.not_true, Bool.not_false, Bool.true_and, Bool.false_and, Bool.and_true, Bool.and_false, Bool.or_true, Bool.or_false, if_true, if_false, Bool.false_eq_true, wipeE, tup_lst, v_yes, len_tup, i_lt, i_gt, i_add, k_asgT3, k_asgP, Bool.false_or, Bool.true_or, v_rg1, v_rg2, k_rg1, k_rg2, k_rg2b, v_it, k_itL, k_itT, v_lrg, k_lrg, v_ct, k_ct, v_new, k_new, v_app, k_app, k_app1, k_app2, k_push, v_exp, k_exp, v_nadd, k_nadd, k_nadd2, k_cat, len_l0, len_l1, len_l2, ix_first, ix_second, Int.reduceEq, Int.reduceSub, eq_self, mod_i2, int_i, k_asgP2, k_nadd3, add_ref, k_ifeT, k_ifeF, v_rg1, e0, rs1] at hr
    generalize hf : forVals _ _ _ _ _ = q at hr
    obtain ⟨e', s', ⟨rows, x5, x6, rfl, hR, hj, hK, hS⟩, rfl⟩ := for_intsD (fun pre v s => ∃ (rows : List (Int × Int)) (x5 x6 : Option D), v = [some (.ref n), some (.int size), some (.int 3), none, some (.ref sa.length), x5, x6] ∧ Steps size pre.length rows ∧ s[sa.length]? = some (.lst (rows.map prD)) ∧ Kp n sa s ∧ Sto n ms (b + 1) s) hf
      ⟨[], _, _, rfl, ⟨rws_nil _, by simp, fun a a0 a1 => by simp at a1; omega, by simp, by simp⟩, List.getElem?_concat_length, .new, T0.s.new rfl⟩ fun pre x post hx e s hI => by
      obtain ⟨rows, x5, x6, rfl, hR, hj, hK, hS⟩ := hI
      have hlen : pre.length + (post.length + 1) = (size - 1).toNat := by
        have := congrArg List.length hx
        rw [len_rgL, List.length_append, List.length_cons] at this
        omega
      have hxk : x = pre.length := by
        have h1 : (rgL 0 (size - 1))[pre.length]? = some x := by rw [hx, List.getElem?_append_right (Nat.le_refl _), Nat.sub_self]; rfl
        unfold rgL at h1
        rw [List.getElem?_map, List.getElem?_range (by omega)] at h1
        have : (0 : Int) + (pre.length : Int) = x := Option.some.inj h1
        omega
      subst hxk
      have S := steps_one (n := size) (k := pre.length) hR (by omega) (by omega) (by omega)
      have hrl := hR.len
      have hjl := (List.getElem?_eq_some_iff.mp hj).1
      have hna : sa.length ≠ n := by have := T0.e; omega
      have k1 : sOk ((rows.map prD).length + 1) = true := sOk_of (by rw [List.length_map]; omega)
      have k2 : sOk ((rows.map prD ++ [D.tup [.int (pre.length : Int), .int ((pre.length : Int) + 1)]]).length + 1) = true := sOk_of (by rw [List.length_append, List.length_map]; simp; omega)
      have hj2 : (s.set sa.length (.lst (rows.map prD ++ [D.tup [.int (pre.length : Int), .int ((pre.length : Int) + 1)]])))[sa.length]? = some (.lst (rows.map prD ++ [D.tup [.int (pre.length : Int), .int ((pre.length : Int) + 1)]])) := List.getElem?_set_self hjl
      have m1 : rows.map prD ++ [D.tup [.int (pre.length : Int), .int ((pre.length : Int) + 1)]] = (rows ++ [((pre.length : Int), (pre.length : Int) + 1)]).map prD := by rw [map_app]; rfl
      have m2 : (rows ++ [((pre.length : Int), (pre.length : Int) + 1)]).map prD ++ [D.tup [.int ((pre.length : Int) + 1), .int (pre.length : Int)]] = (rows ++ [((pre.length : Int), (pre.length : Int) + 1)] ++ [((pre.length : Int) + 1, (pre.length : Int))]).map prD := by rw [map_app (ps := rows ++ _)]; rfl
      have cc : ((pre ++ [(pre.length : Int)]).length : Int) = (pre.length : Int) + 1 := by simp
      have z2 : ¬ (2 : Int) = 0 := by omega
      cases q : decide ((pre.length : Int).fmod 2 = 0) with
      | false =>
        simp only [runF, List.map_cons, List.map_nil, List.cons_append, List.nil_append, Nat.reduceSub, List.replicate_succ, List.replicate_zero, v_seq, v_if, v_tof, v_op, v_un, v_var, v_c, v_ret, v_nx, v_asg, v_and, v_or, v_not, v_nil, v_cons, v_tup, v_lst, v_frz, v_cb, v_cn, v_cp, v_ife, v_par, v_for, v_tru, List.getElem?_cons_zero, List.getElem?_cons_succ, List.set_cons_zero, List.set_cons_succ, k_var, k_op, k_op2, k_un, k_some, k_tof, k_asgN, k_ret, k_seqR, k_seqN, k_cons, k_cons2, k_cb, k_cn, k_cp, k_frz, k_par, k_par2, k_forV, k_truB, k_truT, k_not, k_orF, k_andT, k_andF, k_orT, k_ifT, k_ifF, k_ifeT, k_ifeF, i_ge, i_sub, i_neg, i_eq, i_ne, in_pr, nin_pr, pl_0, pl_1, pl_2, pr_0, pr_1, R.bind, k_tup, k_lst, List.length_cons, List.length_nil, Nat.reduceAdd, Nat.reduceLeDiff, decide_true, decide_false, Bool.not_true, Bool.not_false, Bool.true_and, Bool.false_and, Bool.and_true, Bool.and_false, Bool.or_true, Bool.or_false, if_true, if_false, Bool.false_eq_true, wipeE, tup_lst, v_yes, len_tup, i_lt, i_gt, i_add, k_asgT3, k_asgP, Bool.false_or, Bool.true_or, v_rg1, v_rg2, k_rg1, k_rg2, k_rg2b, v_it, k_itL, k_itT, v_lrg, k_lrg, v_ct, k_ct, v_new, k_new, v_app, k_app, k_app1, k_app2, k_push, v_exp, k_exp, v_nadd, k_nadd, k_nadd2, k_cat, len_l0, len_l1, len_l2, ix_first, ix_second, Int.reduceEq, Int.reduceSub, eq_self, mod_i2, int_i, k_asgP2, k_nadd3, add_ref, k_ifeT, k_ifeF, v_rg1, hj, k1, z2, q]
        refine ⟨_, _, rfl, rows ++ [((pre.length : Int), (pre.length : Int) + 1)], _, _, rfl, ?_, (by rw [m1] at hj2; rw [m1]; exact hj2), hK.put (Nat.le_refl _), hS.put (by rw [m1]; exact purC_prs) hna⟩
        rw [cc]
        exact S.2.1
      | true =>
        simp only [runF, List.map_cons, List.map_nil, List.cons_append, List.nil_append, Nat.reduceSub, List.replicate_succ, List.replicate_zero, v_seq, v_if, v_tof, v_op, v_un, v_var, v_c, v_ret, v_nx, v_asg, v_and, v_or, v_not, v_nil, v_cons, v_tup, v_lst, v_frz, v_cb, v_cn, v_cp, v_ife, v_par, v_for, v_tru, List.getElem?_cons_zero, List.getElem?_cons_succ, List.set_cons_zero, List.set_cons_succ, k_var, k_op, k_op2, k_un, k_some, k_tof, k_asgN, k_ret, k_seqR, k_seqN, k_cons, k_cons2, k_cb, k_cn, k_cp, k_frz, k_par, k_par2, k_forV, k_truB, k_truT, k_not, k_orF, k_andT, k_andF, k_orT, k_ifT, k_ifF, k_ifeT, k_ifeF, i_ge, i_sub, i_neg, i_eq, i_ne, in_pr, nin_pr, pl_0, pl_1, pl_2, pr_0, pr_1, R.bind, k_tup, k_lst, List.length_cons, List.length_nil, Nat.reduceAdd, Nat.reduceLeDiff, decide_true, decide_false, Bool.not_true, Bool.not_false, Bool.true_and, Bool.false_and, Bool.and_true, Bool.and_false, Bool.or_true, Bool.or_false, if_true, if_false, Bool.false_eq_true, wipeE, tup_lst, v_yes, len_tup, i_lt, i_gt, i_add, k_asgT3, k_asgP, Bool.false_or, Bool.true_or, v_rg1, v_rg2, k_rg1, k_rg2, k_rg2b, v_it, k_itL, k_itT, v_lrg, k_lrg, v_ct, k_ct, v_new, k_new, v_app, k_app, k_app1, k_app2, k_push, v_exp, k_exp, v_nadd, k_nadd, k_nadd2, k_cat, len_l0, len_l1, len_l2, ix_first, ix_second, Int.reduceEq, Int.reduceSub, eq_self, mod_i2, int_i, k_asgP2, k_nadd3, add_ref, k_ifeT, k_ifeF, v_rg1, hj, k1, z2, q, hj2, k2, List.set_set]
        refine ⟨_, _, rfl, rows ++ [((pre.length : Int), (pre.length : Int) + 1)] ++ [((pre.length : Int) + 1, (pre.length : Int))], _, _, rfl, ?_, ?_, hK.put (Nat.le_refl _), hS.put (by rw [m1, m2]; exact purC_prs) hna⟩
        · rw [cc]
          exact S.2.2
        · rw [m1, m2]
          exact List.getElem?_set_self hjl
    have hna : sa.length ≠ n := by have := T0.e; omega
    have hjl := (List.getElem?_eq_some_iff.mp hj).1
    obtain ⟨Q, st', e3, hQ, hQn, T3⟩ := hS.noughts hm s1 (by omega) hR.r (d := .ref sa.length) (fun st' hk => items_ref (by rw [hk.old _ hjl hna]; exact hj)) (by omega)
    simp only [runF, List.map_cons, List.map_nil, List.cons_append, List.nil_append, Nat.reduceSub, List.replicate_succ, List.replicate_zero, v_seq, v_if, v_tof, v_op, v_un, v_var, v_c, v_ret, v_nx, v_asg, v_and, v_or, v_not, v_nil, v_cons, v_tup, v_lst, v_frz, v_cb, v_cn, v_cp, v_ife, v_par, v_for, v_tru, List.getElem?_cons_zero, List.getElem?_cons_succ, List.set_cons_zero, List.set_cons_succ, k_var, k_op, k_op2, k_un, k_some, k_tof, k_asgN, k_ret, k_seqR, k_seqN, k_cons, k_cons2, k_cb, k_cn, k_cp, k_frz, k_par, k_par2, k_forV, k_truB, k_truT, k_not, k_orF, k_andT, k_andF, k_orT, k_ifT, k_ifF, k_ifeT, k_ifeF, i_ge, i_sub, i_neg, i_eq, i_ne, in_pr, nin_pr, pl_0, pl_1, pl_2, pr_0, pr_1, R.bind, k_tup, k_lst, List.length_cons, List.length_nil, Nat.reduceAdd, Nat.reduceLeDiff, decide_true, decide_false, Bool.not_true, Bool.not_false, Bool.true_and, Bool.false_and, Bool.and_true, Bool.and_false, Bool.or_true, Bool.or_false, if_true, if_false, Bool.false_eq_true, wipeE, tup_lst, v_yes, len_tup, i_lt, i_gt, i_add, k_asgT3, k_asgP, Bool.false_or, Bool.true_or, v_rg1, v_rg2, k_rg1, k_rg2, k_rg2b, v_it, k_itL, k_itT, v_lrg, k_lrg, v_ct, k_ct, v_new, k_new, v_app, k_app, k_app1, k_app2, k_push, v_exp, k_exp, v_nadd, k_nadd, k_nadd2, k_cat, len_l0, len_l1, len_l2, ix_first, ix_second, Int.reduceEq, Int.reduceSub, eq_self, mod_i2, int_i, k_asgP2, k_nadd3, add_ref, k_ifeT, k_ifeF, v_rg1, e3] at hr
    exact known_end h hr0 hr.symm hQ hQn ((T0.k.trans hK).trans T3.k) (T3.s.mono (by omega))
  · simp only [f__law_known_plan, b__law_known_plan, runF, List.map_cons, List.map_nil, List.cons_append, List.nil_append, Nat.reduceSub, List.replicate_succ, List.replicate_zero, v_seq, v_if, v_tof, v_op, v_un, v_var, v_c, v_ret, v_nx, v_asg, v_and, v_or, v_not, v_nil, v_cons, v_tup, v_lst, v_frz, v_cb, v_cn, v_cp, v_ife, v_par, v_for, v_tru, List.getElem?_cons_zero, List.getElem?_cons_succ, List.set_cons_zero, List.set_cons_succ, k_var, k_op, k_op2, k_un, k_some, k_tof, k_asgN, k_ret, k_seqR, k_seqN, k_cons, k_cons2, k_cb, k_cn, k_cp, k_frz, k_par, k_par2, k_forV, k_truB, k_truT, k_not, k_orF, k_andT, k_andF, k_orT, k_ifT, k_ifF, k_ifeT, k_ifeF, i_ge, i_sub, i_neg, i_eq, i_ne, in_pr, nin_pr, pl_0, pl_1, pl_2, pr_0, pr_1, R.bind, k_tup, k_lst, List.length_cons, List.length_nil, Nat.reduceAdd, Nat.reduceLeDiff, decide_true, decide_false, Bool.not_true, Bool.not_false, Bool.true_and, Bool.false_and, Bool.and_true, Bool.and_false, Bool.or_true, Bool.or_false, if_true, if_false, Bool.false_eq_true, wipeE, tup_lst, v_yes, len_tup, i_lt, i_gt, i_add, k_asgT3, k_asgP, Bool.false_or, Bool.true_or, v_rg1, v_rg2, k_rg1, k_rg2, k_rg2b, v_it, k_itL, k_itT, v_lrg, k_lrg, v_ct, k_ct, v_new, k_new, v_app, k_app, k_app1, k_app2, k_push, v_exp, k_exp, v_nadd, k_nadd, k_nadd2, k_cat, len_l0, len_l1, len_l2, ix_first, ix_second, Int.reduceEq, Int.reduceSub, eq_self, mod_i2, int_i, k_asgP2, k_nadd3, add_ref, k_ifeT, k_ifeF, v_rg1, e0, rs1] at hr
    rw [lc_ints (xs := rgL 0 (size - 1)) (c := fun _ => true) (fv := fun k => prD (k, k + 1)) (by simp only [runF, List.map_cons, List.map_nil, List.cons_append, List.nil_append, Nat.reduceSub, List.replicate_succ, List.replicate_zero, v_seq, v_if, v_tof, v_op, v_un, v_var, v_c, v_ret, v_nx, v_asg, v_and, v_or, v_not, v_nil, v_cons, v_tup, v_lst, v_frz, v_cb, v_cn, v_cp, v_ife, v_par, v_for, v_tru, List.getElem?_cons_zero, List.getElem?_cons_succ, List.set_cons_zero, List.set_cons_succ, k_var, k_op, k_op2, k_un, k_some, k_tof, k_asgN, k_ret, k_seqR, k_seqN, k_cons, k_cons2, k_cb, k_cn, k_cp, k_frz, k_par, k_par2, k_forV, k_truB, k_truT, k_not, k_orF, k_andT, k_andF, k_orT, k_ifT, k_ifF, k_ifeT, k_ifeF, i_ge, i_sub, i_neg, i_eq, i_ne, in_pr, nin_pr, pl_0, pl_1, pl_2, pr_0, pr_1, R.bind, k_tup, k_lst, List.length_cons, List.length_nil, Nat.reduceAdd, Nat.reduceLeDiff, decide_true, decide_false, Bool.not_true, Bool.not_false, Bool.true_and, Bool.false_and, Bool.and_true, Bool.and_false, Bool.or_true, Bool.or_false, if_true, if_false, Bool.false_eq_true, wipeE, tup_lst, v_yes, len_tup, i_lt, i_gt, i_add, k_asgT3, k_asgP, Bool.false_or, Bool.true_or, v_rg1, v_rg2, k_rg1, k_rg2, k_rg2b, v_it, k_itL, k_itT, v_lrg, k_lrg, v_ct, k_ct, v_new, k_new, v_app, k_app, k_app1, k_app2, k_push, v_exp, k_exp, v_nadd, k_nadd, k_nadd2, k_cat, len_l0, len_l1, len_l2, ix_first, ix_second, Int.reduceEq, Int.reduceSub, eq_self, mod_i2, int_i, k_asgP2, k_nadd3, add_ref, k_ifeT, k_ifeF, v_rg1, rs1]) l1 (fun x hx => by
      simp only [runF, List.map_cons, List.map_nil, List.cons_append, List.nil_append, Nat.reduceSub, List.replicate_succ, List.replicate_zero, v_seq, v_if, v_tof, v_op, v_un, v_var, v_c, v_ret, v_nx, v_asg, v_and, v_or, v_not, v_nil, v_cons, v_tup, v_lst, v_frz, v_cb, v_cn, v_cp, v_ife, v_par, v_for, v_tru, List.getElem?_cons_zero, List.getElem?_cons_succ, List.set_cons_zero, List.set_cons_succ, k_var, k_op, k_op2, k_un, k_some, k_tof, k_asgN, k_ret, k_seqR, k_seqN, k_cons, k_cons2, k_cb, k_cn, k_cp, k_frz, k_par, k_par2, k_forV, k_truB, k_truT, k_not, k_orF, k_andT, k_andF, k_orT, k_ifT, k_ifF, k_ifeT, k_ifeF, i_ge, i_sub, i_neg, i_eq, i_ne, in_pr, nin_pr, pl_0, pl_1, pl_2, pr_0, pr_1, R.bind, k_tup, k_lst, List.length_cons, List.length_nil, Nat.reduceAdd, Nat.reduceLeDiff, decide_true, decide_false, Bool.not_true, Bool.not_false, Bool.true_and, Bool.false_and, Bool.and_true, Bool.and_false, Bool.or_true, Bool.or_false, if_true, if_false, Bool.false_eq_true, wipeE, tup_lst, v_yes, len_tup, i_lt, i_gt, i_add, k_asgT3, k_asgP, Bool.false_or, Bool.true_or, v_rg1, v_rg2, k_rg1, k_rg2, k_rg2b, v_it, k_itL, k_itT, v_lrg, k_lrg, v_ct, k_ct, v_new, k_new, v_app, k_app, k_app1, k_app2, k_push, v_exp, k_exp, v_nadd, k_nadd, k_nadd2, k_cat, len_l0, len_l1, len_l2, ix_first, ix_second, Int.reduceEq, Int.reduceSub, eq_self, mod_i2, int_i, k_asgP2, k_nadd3, add_ref, k_ifeT, k_ifeF, v_rg1]
      exact ⟨trivial, fun _ => rfl⟩)] at hr
    rw [fil_true, rows_tab] at hr
    have k1 : sOk ((((rgL 0 (size - 1)).map fun k => (k, k + 1)).map prD).length + (0 + 1)) = true := sOk_of (by simp only [List.length_map, len_rgL]; omega)
    have e2 : ((rgL 0 (size - 1)).map fun k => (k, k + 1)).map prD ++ [D.tup [.int (size - 1), .int (size - 1)]] = (((rgL 0 (size - 1)).map fun k => (k, k + 1)) ++ [(size - 1, size - 1)]).map prD := by rw [map_app]; rfl
    simp only [runF, List.map_cons, List.map_nil, List.cons_append, List.nil_append, Nat.reduceSub, List.replicate_succ, List.replicate_zero, v_seq, v_if, v_tof, v_op, v_un, v_var, v_c, v_ret, v_nx, v_asg, v_and, v_or, v_not, v_nil, v_cons, v_tup, v_lst, v_frz, v_cb, v_cn, v_cp, v_ife, v_par, v_for, v_tru, List.getElem?_cons_zero, List.getElem?_cons_succ, List.set_cons_zero, List.set_cons_succ, k_var, k_op, k_op2, k_un, k_some, k_tof, k_asgN, k_ret, k_seqR, k_seqN, k_cons, k_cons2, k_cb, k_cn, k_cp, k_frz, k_par, k_par2, k_forV, k_truB, k_truT, k_not, k_orF, k_andT, k_andF, k_orT, k_ifT, k_ifF, k_ifeT, k_ifeF, i_ge, i_sub, i_neg, i_eq, i_ne, in_pr, nin_pr, pl_0, pl_1, pl_2, pr_0, pr_1, R.bind, k_tup, k_lst, List.length_cons, List.length_nil, Nat.reduceAdd, Nat.reduceLeDiff, decide_true, decide_false, Bool.not_true, Bool.not_false, Bool.true_and, Bool.false_and, Bool.and_true, Bool.and_false, Bool.or_true, Bool.or_false, if_true, if_false, Bool.false_eq_true, wipeE, tup_lst, v_yes, len_tup, i_lt, i_gt, i_add, k_asgT3, k_asgP, Bool.false_or, Bool.true_or, v_rg1, v_rg2, k_rg1, k_rg2, k_rg2b, v_it, k_itL, k_itT, v_lrg, k_lrg, v_ct, k_ct, v_new, k_new, v_app, k_app, k_app1, k_app2, k_push, v_exp, k_exp, v_nadd, k_nadd, k_nadd2, k_cat, len_l0, len_l1, len_l2, ix_first, ix_second, Int.reduceEq, Int.reduceSub, eq_self, mod_i2, int_i, k_asgP2, k_nadd3, add_ref, k_ifeT, k_ifeF, v_rg1, k1, e2] at hr
    obtain ⟨ds, sb, e1, ks, hks, hsub, hnd, hK1, hS1⟩ := lc_run (it := iRg1 (eOp opSub (eVar 1) (eC (.int 2)))) (i := 5) (p := tOf (eOp opEq (eCallT f__law_draw (aCons (eVar 0) (aCons (eC (.int 2)) aNil))) (eC (.int 1)))) (f := eTup (aCons (eVar 5) (aCons (eOp opAdd (eVar 5) (eC (.int 1))) aNil))) (vs := [5]) (env := [some (.ref n), some (.int size), some (.int 4), none, some (.ref sa.length), none, none]) (st := sa ++ [.lst ((((rgL 0 (size - 1)).map fun k => (k, k + 1)) ++ [(size - 1, size - 1)]).map prD)]) (xs := rgL 0 (size - 2))
      (fun pre ds s => ∃ ks : List Int, ds = (ks.map fun k => (k, k + 1)).map prD ∧ (∀ k ∈ ks, k ∈ pre) ∧ (pre.Nodup → ks.Nodup ∧ ks.length ≤ pre.length) ∧ Kp n (sa ++ [.lst ((((rgL 0 (size - 1)).map fun k => (k, k + 1)) ++ [(size - 1, size - 1)]).map prD)]) s ∧ Sto n ms (b + 1 + pre.length) s) (by simp only [runF, List.map_cons, List.map_nil, List.cons_append, List.nil_append, Nat.reduceSub, List.replicate_succ, List.replicate_zero, v_seq, v_if, v_tof, v_op, v_un, v_var, v_c, v_ret, v_nx, v_asg, v_and, v_or, v_not, v_nil, v_cons, v_tup, v_lst, v_frz, v_cb, v_cn, v_cp, v_ife, v_par, v_for, v_tru, List.getElem?_cons_zero, List.getElem?_cons_succ, List.set_cons_zero, List.set_cons_succ, k_var, k_op, k_op2, k_un, k_some, k_tof, k_asgN, k_ret, k_seqR, k_seqN, k_cons, k_cons2, k_cb, k_cn, k_cp, k_frz, k_par, k_par2, k_forV, k_truB, k_truT, k_not, k_orF, k_andT, k_andF, k_orT, k_ifT, k_ifF, k_ifeT, k_ifeF, i_ge, i_sub, i_neg, i_eq, i_ne, in_pr, nin_pr, pl_0, pl_1, pl_2, pr_0, pr_1, R.bind, k_tup, k_lst, List.length_cons, List.length_nil, Nat.reduceAdd, Nat.reduceLeDiff, decide_true, decide_false, Bool.not_true, Bool.not_false, Bool.true_and, Bool.false_and, Bool.and_true, Bool.and_false, Bool.or_true, Bool.or_false, if_true, if_false, Bool.false_eq_true, wipeE, tup_lst, v_yes, len_tup, i_lt, i_gt, i_add, k_asgT3, k_asgP, Bool.false_or, Bool.true_or, v_rg1, v_rg2, k_rg1, k_rg2, k_rg2b, v_it, k_itL, k_itT, v_lrg, k_lrg, v_ct, k_ct, v_new, k_new, v_app, k_app, k_app1, k_app2, k_push, v_exp, k_exp, v_nadd, k_nadd, k_nadd2, k_cat, len_l0, len_l1, len_l2, ix_first, ix_second, Int.reduceEq, Int.reduceSub, eq_self, mod_i2, int_i, k_asgP2, k_nadd3, add_ref, k_ifeT, k_ifeF, v_rg1, rs2]) l2 ⟨[], rfl, by simp, by simp, .refl, T0.s.newP.mono (by simp)⟩ fun pre x post ds s hx hI => by
      obtain ⟨ks, rfl, hsub, hnd, hK, hS⟩ := hI
      have hlen : pre.length + (post.length + 1) ≤ 20 := by
        have := congrArg List.length hx
        rw [len_rgL, List.length_append, List.length_cons] at this
        omega
      obtain ⟨v, s2, e2, v0, v1, T⟩ := hS.tdraw (by omega) hm (w := 2) (by omega) (by omega)
      cases q : decide (v = 1) with
      | false =>
        refine ⟨none, s2, lcT_no (by simp only [runF, List.map_cons, List.map_nil, List.cons_append, List.nil_append, Nat.reduceSub, List.replicate_succ, List.replicate_zero, v_seq, v_if, v_tof, v_op, v_un, v_var, v_c, v_ret, v_nx, v_asg, v_and, v_or, v_not, v_nil, v_cons, v_tup, v_lst, v_frz, v_cb, v_cn, v_cp, v_ife, v_par, v_for, v_tru, List.getElem?_cons_zero, List.getElem?_cons_succ, List.set_cons_zero, List.set_cons_succ, k_var, k_op, k_op2, k_un, k_some, k_tof, k_asgN, k_ret, k_seqR, k_seqN, k_cons, k_cons2, k_cb, k_cn, k_cp, k_frz, k_par, k_par2, k_forV, k_truB, k_truT, k_not, k_orF, k_andT, k_andF, k_orT, k_ifT, k_ifF, k_ifeT, k_ifeF, i_ge, i_sub, i_neg, i_eq, i_ne, in_pr, nin_pr, pl_0, pl_1, pl_2, pr_0, pr_1, R.bind, k_tup, k_lst, List.length_cons, List.length_nil, Nat.reduceAdd, Nat.reduceLeDiff, decide_true, decide_false, Bool.not_true, Bool.not_false, Bool.true_and, Bool.false_and, Bool.and_true, Bool.and_false, Bool.or_true, Bool.or_false, if_true, if_false, Bool.false_eq_true, wipeE, tup_lst, v_yes, len_tup, i_lt, i_gt, i_add, k_asgT3, k_asgP, Bool.false_or, Bool.true_or, v_rg1, v_rg2, k_rg1, k_rg2, k_rg2b, v_it, k_itL, k_itT, v_lrg, k_lrg, v_ct, k_ct, v_new, k_new, v_app, k_app, k_app1, k_app2, k_push, v_exp, k_exp, v_nadd, k_nadd, k_nadd2, k_cat, len_l0, len_l1, len_l2, ix_first, ix_second, Int.reduceEq, Int.reduceSub, eq_self, mod_i2, int_i, k_asgP2, k_nadd3, add_ref, k_ifeT, k_ifeF, v_rg1, e2, q]), ks, by simp, fun k hk => List.mem_append.mpr (.inl (hsub k hk)), fun hd => ?_, hK.trans T.k, T.s.mono (by simp; omega)⟩
        have := hnd (List.nodup_append.mp hd).1
        exact ⟨this.1, by simp; omega⟩
      | true =>
        refine ⟨some (prD (x, x + 1)), s2, lcT_yes (s1 := s2) (by simp only [runF, List.map_cons, List.map_nil, List.cons_append, List.nil_append, Nat.reduceSub, List.replicate_succ, List.replicate_zero, v_seq, v_if, v_tof, v_op, v_un, v_var, v_c, v_ret, v_nx, v_asg, v_and, v_or, v_not, v_nil, v_cons, v_tup, v_lst, v_frz, v_cb, v_cn, v_cp, v_ife, v_par, v_for, v_tru, List.getElem?_cons_zero, List.getElem?_cons_succ, List.set_cons_zero, List.set_cons_succ, k_var, k_op, k_op2, k_un, k_some, k_tof, k_asgN, k_ret, k_seqR, k_seqN, k_cons, k_cons2, k_cb, k_cn, k_cp, k_frz, k_par, k_par2, k_forV, k_truB, k_truT, k_not, k_orF, k_andT, k_andF, k_orT, k_ifT, k_ifF, k_ifeT, k_ifeF, i_ge, i_sub, i_neg, i_eq, i_ne, in_pr, nin_pr, pl_0, pl_1, pl_2, pr_0, pr_1, R.bind, k_tup, k_lst, List.length_cons, List.length_nil, Nat.reduceAdd, Nat.reduceLeDiff, decide_true, decide_false, Bool.not_true, Bool.not_false, Bool.true_and, Bool.false_and, Bool.and_true, Bool.and_false, Bool.or_true, Bool.or_false, if_true, if_false, Bool.false_eq_true, wipeE, tup_lst, v_yes, len_tup, i_lt, i_gt, i_add, k_asgT3, k_asgP, Bool.false_or, Bool.true_or, v_rg1, v_rg2, k_rg1, k_rg2, k_rg2b, v_it, k_itL, k_itT, v_lrg, k_lrg, v_ct, k_ct, v_new, k_new, v_app, k_app, k_app1, k_app2, k_push, v_exp, k_exp, v_nadd, k_nadd, k_nadd2, k_cat, len_l0, len_l1, len_l2, ix_first, ix_second, Int.reduceEq, Int.reduceSub, eq_self, mod_i2, int_i, k_asgP2, k_nadd3, add_ref, k_ifeT, k_ifeF, v_rg1, e2, q]) (by simp only [runF, List.map_cons, List.map_nil, List.cons_append, List.nil_append, Nat.reduceSub, List.replicate_succ, List.replicate_zero, v_seq, v_if, v_tof, v_op, v_un, v_var, v_c, v_ret, v_nx, v_asg, v_and, v_or, v_not, v_nil, v_cons, v_tup, v_lst, v_frz, v_cb, v_cn, v_cp, v_ife, v_par, v_for, v_tru, List.getElem?_cons_zero, List.getElem?_cons_succ, List.set_cons_zero, List.set_cons_succ, k_var, k_op, k_op2, k_un, k_some, k_tof, k_asgN, k_ret, k_seqR, k_seqN, k_cons, k_cons2, k_cb, k_cn, k_cp, k_frz, k_par, k_par2, k_forV, k_truB, k_truT, k_not, k_orF, k_andT, k_andF, k_orT, k_ifT, k_ifF, k_ifeT, k_ifeF, i_ge, i_sub, i_neg, i_eq, i_ne, in_pr, nin_pr, pl_0, pl_1, pl_2, pr_0, pr_1, R.bind, k_tup, k_lst, List.length_cons, List.length_nil, Nat.reduceAdd, Nat.reduceLeDiff, decide_true, decide_false, Bool.not_true, Bool.not_false, Bool.true_and, Bool.false_and, Bool.and_true, Bool.and_false, Bool.or_true, Bool.or_false, if_true, if_false, Bool.false_eq_true, wipeE, tup_lst, v_yes, len_tup, i_lt, i_gt, i_add, k_asgT3, k_asgP, Bool.false_or, Bool.true_or, v_rg1, v_rg2, k_rg1, k_rg2, k_rg2b, v_it, k_itL, k_itT, v_lrg, k_lrg, v_ct, k_ct, v_new, k_new, v_app, k_app, k_app1, k_app2, k_push, v_exp, k_exp, v_nadd, k_nadd, k_nadd2, k_cat, len_l0, len_l1, len_l2, ix_first, ix_second, Int.reduceEq, Int.reduceSub, eq_self, mod_i2, int_i, k_asgP2, k_nadd3, add_ref, k_ifeT, k_ifeF, v_rg1]; rfl), ks ++ [x], ?_, fun k hk => ?_, fun hd => ?_, hK.trans T.k, T.s.mono (by simp; omega)⟩
        · rw [List.map_append, List.map_append]
          rfl
        · rcases List.mem_append.mp hk with q | q
          · exact List.mem_append.mpr (.inl (hsub k q))
          · exact List.mem_append.mpr (.inr q)
        · have h1 := List.nodup_append.mp hd
          have h2 := hnd h1.1
          refine ⟨List.nodup_append.mpr ⟨h2.1, h1.2.1, fun a ha c hc => h1.2.2 a (hsub a ha) c hc⟩, by simp; omega⟩
    subst hks
    rw [e1] at hr
    have hn2 := hnd (nd_lt (srt_rgL _ _))
    have hkl := hn2.2
    rw [len_rgL] at hkl hS1
    have ad : ∀ s, opAdd s (.lst [D.tup [.int (size - 1), .int (size - 1)]]) (.lst ((ks.map fun k => (k, k + 1)).map prD)) = some (.lst (([(size - 1, size - 1)] ++ ks.map fun k => (k, k + 1)).map prD)) := fun s => by
      rw [add_lst (by simp; omega)]
      rfl
    have hc : sb[sa.length]? = some (.lst ((((rgL 0 (size - 1)).map fun k => (k, k + 1)) ++ [(size - 1, size - 1)]).map prD)) := by
      rw [hK1.old _ (by simp) (by have := T0.e; omega), List.getElem?_concat_length]
    have so : opSortB sb [.lst (([(size - 1, size - 1)] ++ ks.map fun k => (k, k + 1)).map prD)] = some ((sortP ([(size - 1, size - 1)] ++ ks.map fun k => (k, k + 1))).map prD) := sort_lst (by simp; omega)
    simp only [List.singleton_append] at ad so
    simp only [List.map_cons] at ad so
    simp only [runF, List.map_cons, List.map_nil, List.cons_append, List.nil_append, Nat.reduceSub, List.replicate_succ, List.replicate_zero, v_seq, v_if, v_tof, v_op, v_un, v_var, v_c, v_ret, v_nx, v_asg, v_and, v_or, v_not, v_nil, v_cons, v_tup, v_lst, v_frz, v_cb, v_cn, v_cp, v_ife, v_par, v_for, v_tru, List.getElem?_cons_zero, List.getElem?_cons_succ, List.set_cons_zero, List.set_cons_succ, k_var, k_op, k_op2, k_un, k_some, k_tof, k_asgN, k_ret, k_seqR, k_seqN, k_cons, k_cons2, k_cb, k_cn, k_cp, k_frz, k_par, k_par2, k_forV, k_truB, k_truT, k_not, k_orF, k_andT, k_andF, k_orT, k_ifT, k_ifF, k_ifeT, k_ifeF, i_ge, i_sub, i_neg, i_eq, i_ne, in_pr, nin_pr, pl_0, pl_1, pl_2, pr_0, pr_1, R.bind, k_tup, k_lst, List.length_cons, List.length_nil, Nat.reduceAdd, Nat.reduceLeDiff, decide_true, decide_false, Bool.not_true, Bool.not_false, Bool.true_and, Bool.false_and, Bool.and_true, Bool.and_false, Bool.or_true, Bool.or_false, if_true, if_false, Bool.false_eq_true, wipeE, tup_lst, v_yes, len_tup, i_lt, i_gt, i_add, k_asgT3, k_asgP, Bool.false_or, Bool.true_or, v_rg1, v_rg2, k_rg1, k_rg2, k_rg2b, v_it, k_itL, k_itT, v_lrg, k_lrg, v_ct, k_ct, v_new, k_new, v_app, k_app, k_app1, k_app2, k_push, v_exp, k_exp, v_nadd, k_nadd, k_nadd2, k_cat, len_l0, len_l1, len_l2, ix_first, ix_second, Int.reduceEq, Int.reduceSub, eq_self, mod_i2, int_i, k_asgP2, k_nadd3, add_ref, k_ifeT, k_ifeF, v_rg1, ad, tup_items (items_ref hc), so] at hr
    exact known_end (Q := ⟨size, ((rgL 0 (size - 1)).map fun k => (k, k + 1)) ++ [(size - 1, size - 1)], sortP ([(size - 1, size - 1)] ++ ks.map fun k => (k, k + 1))⟩) h hr0 (hr.symm.trans (by simp only [plD, List.singleton_append])) (loop_gentle s1 s2 (fun k hk => mem_rgL.mp (hsub k hk)) hn2.1 (by omega)) rfl ((T0.k.trans .new).trans hK1) (hS1.mono (by omega))
end
end FK

set_option Elab.async false
set_option linter.all false
set_option maxRecDepth 100000
namespace FK
open DL
def unD : D → Int × Int
  | .tup [.int a, .int b] => (a, b)
  | _ => (0, 0)
theorem un_pr {p : Int × Int} : unD (prD p) = p := rfl
def kSetN (o : Option Cell) (b v : D) (n : Nat) (env : Ent) (st : Store) : R (Out × Ent) := match o with
  | some (.lst xs) => match b with
    | .int k => match L2.ixN xs.length k with
      | some j => .ok (.nx, env) (st.set n (.lst (xs.set j v)))
      | none => .no
    | _ => .no
  | _ => .no
def kSet3 (r : R D) (a v : D) (env : Ent) : R (Out × Ent) := r.bind fun b st3 => match a with
  | .ref n => kSetN st3[n]? b v n env st3
  | _ => .no
def kSet2 (r : R D) (fi : Ev) (v : D) (env : Ent) : R (Out × Ent) := r.bind fun a st2 => kSet3 (fi env st2) a v env
def kSet1 (r : R D) (fo fi : Ev) (env : Ent) : R (Out × Ent) := r.bind fun v st1 => kSet2 (fo env st1) fi v env
section
variable {fo fi fv : Ev} {env : Ent} {st : Store} {a b v : D} {n : Nat} {xs : List D} {k : Int}
theorem v_set : sSetIx fo fi fv env st = kSet1 (fv env st) fo fi env := rfl
theorem k_set1 : kSet1 (.ok v st) fo fi env = kSet2 (fo env st) fi v env := rfl
theorem k_set2 : kSet2 (.ok a st) fi v env = kSet3 (fi env st) a v env := rfl
theorem k_set3 : kSet3 (.ok b st) (.ref n) v env = kSetN st[n]? b v n env st := rfl
theorem k_setN (h0 : 0 ≤ k) (h1 : k < xs.length) : kSetN (some (.lst xs)) (.int k) v n env st = .ok (.nx, env) (st.set n (.lst (xs.set k.toNat v))) := by
  unfold kSetN
  show (match L2.ixN xs.length k with | some j => R.ok (Out.nx, env) (st.set n (.lst (xs.set j v))) | none => R.no) = _
  unfold L2.ixN
  rw [if_pos h0, if_pos h1]
end
theorem ix_intL {l : List Int} {a : Int} {st : Store} (h0 : 0 ≤ a) (h1 : a < l.length) : opIx st (.tup (l.map D.int)) (.int a) = some (.int (ixI l a)) := ix_items (xs := l.map D.int) rfl h0 (by rw [List.getElem?_map, ixI_some h0 h1]; rfl)
theorem ap_renamed {P : Pl} (h : Gentle P) {s t : List Int} (hs : Listing s P.rows.length) (ht : Listing t P.n) : ∃ Q : Pl, appP f__law_renamed [plD P, .tup (t.map D.int), .tup (s.map D.int)] = some (plD Q) ∧ Gentle Q ∧ Q.n = P.n ∧ Q.rows.length = P.rows.length := by
  have sm := h.small
  have hlen : ∀ xs : List D, xs.length = P.rows.length → ∀ (st : Store), st[0]? = some (Cell.lst xs) → opLen st [.ref 0] = some (.int (P.rows.length : Nat)) := fun xs hx st hst => by
    rw [len_items (items_ref hst), hx]
  have hl0 : ((P.rows.filter fun _ => true).map fun _ => D.non).length = P.rows.length := by rw [fil_true, List.length_map]
  have run : ∃ (Q : Pl) (st2 : Store), f__law_renamed [plD P, .tup (t.map D.int), .tup (s.map D.int)] [] = .ok (plD Q) st2 ∧ Gentle Q ∧ Q.n = P.n ∧ Q.rows.length = P.rows.length := by
    simp only [f__law_renamed, b__law_renamed, runF, List.map_cons, List.map_nil, List.cons_append, List.nil_append, Nat.reduceSub, List.replicate_succ, List.replicate_zero, v_seq, v_if, v_tof, v_op, v_un, v_var, v_c, v_ret, v_nx, v_asg, v_and, v_or, v_not, v_nil, v_cons, v_tup, v_lst, v_frz, v_cb, v_cn, v_cp, v_ife, v_par, v_for, v_tru, List.getElem?_cons_zero, List.getElem?_cons_succ, List.set_cons_zero, List.set_cons_succ, k_var, k_op, k_op2, k_un, k_some, k_tof, k_asgN, k_ret, k_seqR, k_seqN, k_cons, k_cons2, k_cb, k_cn, k_cp, k_frz, k_par, k_par2, k_forV, k_truB, k_truT, k_not, k_orF, k_andT, k_andF, k_orT, k_ifT, k_ifF, k_ifeT, k_ifeF, i_ge, i_sub, i_neg, i_eq, i_ne, in_pr, nin_pr, pl_0, pl_1, pl_2, pr_0, pr_1, R.bind, k_tup, k_lst, List.length_cons, List.length_nil, Nat.reduceAdd, Nat.reduceLeDiff, decide_true, decide_false, Bool.not_true, Bool.not_false, Bool.true_and, Bool.false_and, Bool.and_true, Bool.and_false, Bool.or_true, Bool.or_false, if_true, if_false, Bool.false_eq_true, wipeE, tup_lst, v_yes, len_tup, i_lt, i_gt, i_add, k_asgT3, k_asgP, Bool.false_or, Bool.true_or, v_rg1, v_rg2, k_rg1, k_rg2, k_rg2b, v_it, k_itL, k_itT, v_lrg, k_lrg, v_ct, k_ct, v_new, k_new, v_app, k_app, k_app1, k_app2, k_push, v_exp, k_exp, v_nadd, k_nadd, k_nadd2, k_cat, len_l0, len_l1, len_l2, ix_first, ix_second, Int.reduceEq, Int.reduceSub, eq_self, mod_i2, int_i, k_asgP2, k_nadd3, add_ref, k_ifeT, k_ifeF, v_rg1]
    rw [lc_prs (ps := P.rows) (c := fun _ => true) (fv := fun _ => D.non) (it_tup rfl) (len_rws sm) (fun q _ => ⟨rfl, fun _ => rfl⟩)]
    simp only [runF, List.map_cons, List.map_nil, List.cons_append, List.nil_append, Nat.reduceSub, List.replicate_succ, List.replicate_zero, v_seq, v_if, v_tof, v_op, v_un, v_var, v_c, v_ret, v_nx, v_asg, v_and, v_or, v_not, v_nil, v_cons, v_tup, v_lst, v_frz, v_cb, v_cn, v_cp, v_ife, v_par, v_for, v_tru, List.getElem?_cons_zero, List.getElem?_cons_succ, List.set_cons_zero, List.set_cons_succ, k_var, k_op, k_op2, k_un, k_some, k_tof, k_asgN, k_ret, k_seqR, k_seqN, k_cons, k_cons2, k_cb, k_cn, k_cp, k_frz, k_par, k_par2, k_forV, k_truB, k_truT, k_not, k_orF, k_andT, k_andF, k_orT, k_ifT, k_ifF, k_ifeT, k_ifeF, i_ge, i_sub, i_neg, i_eq, i_ne, in_pr, nin_pr, pl_0, pl_1, pl_2, pr_0, pr_1, R.bind, k_tup, k_lst, List.length_cons, List.length_nil, Nat.reduceAdd, Nat.reduceLeDiff, decide_true, decide_false, Bool.not_true, Bool.not_false, Bool.true_and, Bool.false_and, Bool.and_true, Bool.and_false, Bool.or_true, Bool.or_false, if_true, if_false, Bool.false_eq_true, wipeE, tup_lst, v_yes, len_tup, i_lt, i_gt, i_add, k_asgT3, k_asgP, Bool.false_or, Bool.true_or, v_rg1, v_rg2, k_rg1, k_rg2, k_rg2b, v_it, k_itL, k_itT, v_lrg, k_lrg, v_ct, k_ct, v_new, k_new, v_app, k_app, k_app1, k_app2, k_push, v_exp, k_exp, v_nadd, k_nadd, k_nadd2, k_cat, len_l0, len_l1, len_l2, ix_first, ix_second, Int.reduceEq, Int.reduceSub, eq_self, mod_i2, int_i, k_asgP2, k_nadd3, add_ref, k_ifeT, k_ifeF, v_rg1, hlen _ hl0 [Cell.lst ((P.rows.filter fun _ => true).map fun _ => D.non)] rfl, rg_rows sm]
    generalize hf : forVals _ _ _ _ _ = r
    obtain ⟨e', s', ⟨xs, x4, x5, x6, rfl, rfl, hl, hx⟩, rfl⟩ := for_intsD (fun pre v st => ∃ (xs : List D) (x4 x5 x6 : Option D), v = [some (plD P), some (.tup (t.map D.int)), some (.tup (s.map D.int)), some (.ref 0), x4, x5, x6] ∧ st = [.lst xs] ∧ xs.length = P.rows.length ∧ ∀ a ∈ pre, xs[(ixI s a).toNat]? = some (prD (rnP t (atR P.rows a)))) hf
      ⟨_, _, _, _, rfl, rfl, hl0, fun a ha => by cases ha⟩ fun pre a post hx e st hI => by
      obtain ⟨xs, x4, x5, x6, rfl, rfl, hl, hxs⟩ := hI
      have ha : inA P a := mem_rgL.mp (by rw [hx]; simp)
      have pin : ∀ c ∈ pre, inA P c ∧ c ≠ a := fun c hc => by
        refine ⟨mem_rgL.mp (by rw [hx]; simp [hc]), fun q => ?_⟩
        have := nd_lt (srt_rgL 0 P.rows.length)
        rw [hx] at this
        exact (List.nodup_append.mp this).2.2 c hc a (List.mem_cons_self ..) q
      have bn := h.rws.bnd a ha.1 ha.2
      have tl := ht.len
      have sl := hs.len
      have hr := hs.rng a ha.1 ha.2
      have hr2 : ixI s a < (xs.length : Int) := by omega
      have ha2 : a < (s.length : Int) := by have := ha.2; omega
      simp only [runF, List.map_cons, List.map_nil, List.cons_append, List.nil_append, Nat.reduceSub, List.replicate_succ, List.replicate_zero, v_seq, v_if, v_tof, v_op, v_un, v_var, v_c, v_ret, v_nx, v_asg, v_and, v_or, v_not, v_nil, v_cons, v_tup, v_lst, v_frz, v_cb, v_cn, v_cp, v_ife, v_par, v_for, v_tru, List.getElem?_cons_zero, List.getElem?_cons_succ, List.set_cons_zero, List.set_cons_succ, k_var, k_op, k_op2, k_un, k_some, k_tof, k_asgN, k_ret, k_seqR, k_seqN, k_cons, k_cons2, k_cb, k_cn, k_cp, k_frz, k_par, k_par2, k_forV, k_truB, k_truT, k_not, k_orF, k_andT, k_andF, k_orT, k_ifT, k_ifF, k_ifeT, k_ifeF, i_ge, i_sub, i_neg, i_eq, i_ne, in_pr, nin_pr, pl_0, pl_1, pl_2, pr_0, pr_1, R.bind, k_tup, k_lst, List.length_cons, List.length_nil, Nat.reduceAdd, Nat.reduceLeDiff, decide_true, decide_false, Bool.not_true, Bool.not_false, Bool.true_and, Bool.false_and, Bool.and_true, Bool.and_false, Bool.or_true, Bool.or_false, if_true, if_false, Bool.false_eq_true, wipeE, tup_lst, v_yes, len_tup, i_lt, i_gt, i_add, k_asgT3, k_asgP, Bool.false_or, Bool.true_or, v_rg1, v_rg2, k_rg1, k_rg2, k_rg2b, v_it, k_itL, k_itT, v_lrg, k_lrg, v_ct, k_ct, v_new, k_new, v_app, k_app, k_app1, k_app2, k_push, v_exp, k_exp, v_nadd, k_nadd, k_nadd2, k_cat, len_l0, len_l1, len_l2, ix_first, ix_second, Int.reduceEq, Int.reduceSub, eq_self, mod_i2, int_i, k_asgP2, k_nadd3, add_ref, k_ifeT, k_ifeF, v_rg1, v_set, k_set1, k_set2, k_set3, ix_map ha.1 (row_pos ha), ix_intL (l := t) (a := (atR P.rows a).1) bn.1 (by omega), ix_intL (l := t) (a := (atR P.rows a).2) bn.2.2.1 (by omega), ix_intL (l := s) (a := a) ha.1 ha2, k_setN hr.1 hr2]
      refine ⟨_, _, rfl, _, _, _, _, rfl, rfl, by rw [List.length_set]; exact hl, fun c hc => ?_⟩
      rcases List.mem_append.mp hc with q | q
      · have := pin c q
        rw [List.getElem?_set_ne]
        · exact hxs c q
        · intro e
          have r1 := hs.rng c this.1.1 this.1.2
          exact this.2 (hs.inj c a this.1.1 this.1.2 ha.1 ha.2 (by omega))
      · rw [List.mem_singleton] at q
        subst q
        rw [List.getElem?_set_self (by omega)]
        rfl
    have full : xs = (xs.map unD).map prD := by
      rw [List.map_map]
      refine List.ext_getElem? fun i => ?_
      rw [List.getElem?_map]
      by_cases hi : i < xs.length
      · obtain ⟨a, a0, a1, e⟩ := hs.sur (i : Int) (by omega) (by omega)
        have := hx a (mem_rgL.mpr ⟨a0, a1⟩)
        rw [e, Int.toNat_natCast] at this
        rw [this]
        rfl
      · rw [List.getElem?_eq_none (by omega)]
        rfl
    have hp : ∀ q ∈ P.pairs, (0 ≤ q.1 ∧ q.1 < s.length) ∧ 0 ≤ q.2 ∧ q.2 < s.length := fun ⟨a, c⟩ hq => by
      have q := h.pr a c hq
      have := hs.len
      exact ⟨⟨q.1, by omega⟩, q.2.2.1, by omega⟩
    have tu : opTuple [.lst xs] [.ref 0] = some (.tup xs) := tup_items (items_ref rfl)
    have so : ∀ st, opSortB st [.lst ((P.pairs.map (rnP s)).map prD)] = some ((sortP (P.pairs.map (rnP s))).map prD) := fun st => sort_lst (by rw [List.length_map]; exact len_prs sm)
    simp only [runF, List.map_cons, List.map_nil, List.cons_append, List.nil_append, Nat.reduceSub, List.replicate_succ, List.replicate_zero, v_seq, v_if, v_tof, v_op, v_un, v_var, v_c, v_ret, v_nx, v_asg, v_and, v_or, v_not, v_nil, v_cons, v_tup, v_lst, v_frz, v_cb, v_cn, v_cp, v_ife, v_par, v_for, v_tru, List.getElem?_cons_zero, List.getElem?_cons_succ, List.set_cons_zero, List.set_cons_succ, k_var, k_op, k_op2, k_un, k_some, k_tof, k_asgN, k_ret, k_seqR, k_seqN, k_cons, k_cons2, k_cb, k_cn, k_cp, k_frz, k_par, k_par2, k_forV, k_truB, k_truT, k_not, k_orF, k_andT, k_andF, k_orT, k_ifT, k_ifF, k_ifeT, k_ifeF, i_ge, i_sub, i_neg, i_eq, i_ne, in_pr, nin_pr, pl_0, pl_1, pl_2, pr_0, pr_1, R.bind, k_tup, k_lst, List.length_cons, List.length_nil, Nat.reduceAdd, Nat.reduceLeDiff, decide_true, decide_false, Bool.not_true, Bool.not_false, Bool.true_and, Bool.false_and, Bool.and_true, Bool.and_false, Bool.or_true, Bool.or_false, if_true, if_false, Bool.false_eq_true, wipeE, tup_lst, v_yes, len_tup, i_lt, i_gt, i_add, k_asgT3, k_asgP, Bool.false_or, Bool.true_or, v_rg1, v_rg2, k_rg1, k_rg2, k_rg2b, v_it, k_itL, k_itT, v_lrg, k_lrg, v_ct, k_ct, v_new, k_new, v_app, k_app, k_app1, k_app2, k_push, v_exp, k_exp, v_nadd, k_nadd, k_nadd2, k_cat, len_l0, len_l1, len_l2, ix_first, ix_second, Int.reduceEq, Int.reduceSub, eq_self, mod_i2, int_i, k_asgP2, k_nadd3, add_ref, k_ifeT, k_ifeF, v_rg1, tu]
    rw [lc_prs2 (ps := P.pairs) (c := fun _ => true) (fv := fun q => prD (rnP s q)) (it_tup rfl) (len_prs sm) (fun q hq => by
      have := hp q hq
      simp only [runF, List.map_cons, List.map_nil, List.cons_append, List.nil_append, Nat.reduceSub, List.replicate_succ, List.replicate_zero, v_seq, v_if, v_tof, v_op, v_un, v_var, v_c, v_ret, v_nx, v_asg, v_and, v_or, v_not, v_nil, v_cons, v_tup, v_lst, v_frz, v_cb, v_cn, v_cp, v_ife, v_par, v_for, v_tru, List.getElem?_cons_zero, List.getElem?_cons_succ, List.set_cons_zero, List.set_cons_succ, k_var, k_op, k_op2, k_un, k_some, k_tof, k_asgN, k_ret, k_seqR, k_seqN, k_cons, k_cons2, k_cb, k_cn, k_cp, k_frz, k_par, k_par2, k_forV, k_truB, k_truT, k_not, k_orF, k_andT, k_andF, k_orT, k_ifT, k_ifF, k_ifeT, k_ifeF, i_ge, i_sub, i_neg, i_eq, i_ne, in_pr, nin_pr, pl_0, pl_1, pl_2, pr_0, pr_1, R.bind, k_tup, k_lst, List.length_cons, List.length_nil, Nat.reduceAdd, Nat.reduceLeDiff, decide_true, decide_false, Bool.not_true, Bool.not_false, Bool.true_and, Bool.false_and, Bool.and_true, Bool.and_false, Bool.or_true, Bool.or_false, if_true, if_false, Bool.false_eq_true, wipeE, tup_lst, v_yes, len_tup, i_lt, i_gt, i_add, k_asgT3, k_asgP, Bool.false_or, Bool.true_or, v_rg1, v_rg2, k_rg1, k_rg2, k_rg2b, v_it, k_itL, k_itT, v_lrg, k_lrg, v_ct, k_ct, v_new, k_new, v_app, k_app, k_app1, k_app2, k_push, v_exp, k_exp, v_nadd, k_nadd, k_nadd2, k_cat, len_l0, len_l1, len_l2, ix_first, ix_second, Int.reduceEq, Int.reduceSub, eq_self, mod_i2, int_i, k_asgP2, k_nadd3, add_ref, k_ifeT, k_ifeF, v_rg1, ix_intL this.1.1 this.1.2, ix_intL this.2.1 this.2.2]
      exact ⟨trivial, fun _ => rfl⟩)]
    rw [fil_true, map_prs]
    simp only [runF, List.map_cons, List.map_nil, List.cons_append, List.nil_append, Nat.reduceSub, List.replicate_succ, List.replicate_zero, v_seq, v_if, v_tof, v_op, v_un, v_var, v_c, v_ret, v_nx, v_asg, v_and, v_or, v_not, v_nil, v_cons, v_tup, v_lst, v_frz, v_cb, v_cn, v_cp, v_ife, v_par, v_for, v_tru, List.getElem?_cons_zero, List.getElem?_cons_succ, List.set_cons_zero, List.set_cons_succ, k_var, k_op, k_op2, k_un, k_some, k_tof, k_asgN, k_ret, k_seqR, k_seqN, k_cons, k_cons2, k_cb, k_cn, k_cp, k_frz, k_par, k_par2, k_forV, k_truB, k_truT, k_not, k_orF, k_andT, k_andF, k_orT, k_ifT, k_ifF, k_ifeT, k_ifeF, i_ge, i_sub, i_neg, i_eq, i_ne, in_pr, nin_pr, pl_0, pl_1, pl_2, pr_0, pr_1, R.bind, k_tup, k_lst, List.length_cons, List.length_nil, Nat.reduceAdd, Nat.reduceLeDiff, decide_true, decide_false, Bool.not_true, Bool.not_false, Bool.true_and, Bool.false_and, Bool.and_true, Bool.and_false, Bool.or_true, Bool.or_false, if_true, if_false, Bool.false_eq_true, wipeE, tup_lst, v_yes, len_tup, i_lt, i_gt, i_add, k_asgT3, k_asgP, Bool.false_or, Bool.true_or, v_rg1, v_rg2, k_rg1, k_rg2, k_rg2b, v_it, k_itL, k_itT, v_lrg, k_lrg, v_ct, k_ct, v_new, k_new, v_app, k_app, k_app1, k_app2, k_push, v_exp, k_exp, v_nadd, k_nadd, k_nadd2, k_cat, len_l0, len_l1, len_l2, ix_first, ix_second, Int.reduceEq, Int.reduceSub, eq_self, mod_i2, int_i, k_asgP2, k_nadd3, add_ref, k_ifeT, k_ifeF, v_rg1, so]
    have g : Gentle ⟨P.n, xs.map unD, sortP (P.pairs.map (rnP s))⟩ := gentle_renamed h hs ht rfl (by show (xs.map unD).length = _; rw [List.length_map]; exact hl) (fun a ha => by
      have hr := hs.rng a ha.1 ha.2
      have := hx a (mem_rgL.mpr ha)
      have e : (xs.map unD)[(ixI s a).toNat]? = some (rnP t (atR P.rows a)) := by
        rw [List.getElem?_map, this]
        rfl
      have e2 := atR_of e
      have e3 : (((ixI s a).toNat : Nat) : Int) = ixI s a := by omega
      rw [e3] at e2
      exact e2) (sort_perm _) (sort_srt _)
    refine ⟨⟨P.n, xs.map unD, sortP (P.pairs.map (rnP s))⟩, [.lst xs], ?_, g, rfl, by show (xs.map unD).length = _; rw [List.length_map]; exact hl⟩
    unfold plD
    rw [← full]
  obtain ⟨Q, st2, e, g, hn, hl⟩ := run
  refine ⟨Q, app_ok ?_ e (by
    show (if pur (plD Q) = true then some (plD Q) else none) = _
    rw [pur_pl, if_pos rfl]), g, hn, hl⟩
  refine purs_pl ?_
  show (purs (t.map D.int) && (purs (s.map D.int) && true)) = true
  rw [purs_int, purs_int]
  rfl
theorem mul3 {i : Int} {st : Store} : opMul st (.int 3) (.int i) = some (.int (3 * i)) := mul_l (by decide)
section
variable {n : Nat} {ms : List Int} {b : Int} {st : Store}
theorem Sto.plan (h : Sto n ms b st) (hm : ms ≠ []) {most : Int} (m1 : 1 ≤ most) (m2 : most ≤ 20) (hb : b + 100000 < 1000000000000) :
    ∃ (Q : Pl) (st' : Store), appT f__law_plan [.ref n, .int most] st = .ok (plD Q) st' ∧ Gentle Q ∧ Q.n ≤ most ∧ Tk n ms (b + 3000) st st' := by
  have run : ∃ (Q : Pl) (st2 : Store), f__law_plan [.ref n, .int most] st = .ok (plD Q) st2 ∧ Gentle Q ∧ Q.n ≤ most ∧ Kp n st st2 ∧ Sto n ms (b + 3000) st2 := by
    obtain ⟨v, s1, e1, v0, v1, T1⟩ := h.tdraw (by omega) hm (w := most) m1 (by omega)
    obtain ⟨u, s2, e2, u0, u1, T2⟩ := T1.s.tdraw (by omega) hm (w := 3) (by omega) (by omega)
    obtain ⟨P, s3, hP, hPn, T3, e3⟩ : ∃ (P : Pl) (s3 : Store), Gentle P ∧ P.n = 1 + v ∧ Tk n ms (b + 1 + 1 + 1000) s2 s3 ∧ ∀ x, kIf (.ok (decide (u = 0)) s2) (sAsg (eCallT f__law_known_plan (aCons (eVar 0) (aCons (eVar 2) aNil))) (tgN 3)) (sAsg (eCallT f__law_free_plan (aCons (eVar 0) (aCons (eVar 2) (aCons (eOp opMul (eC (.int 3)) (eVar 2)) aNil)))) (tgN 3)) [some (.ref n), some (.int most), some (.int (1 + v)), x] = .ok (.nx, [some (.ref n), some (.int most), some (.int (1 + v)), some (plD P)]) s3 := by
      cases decide (u = 0) with
      | true =>
        obtain ⟨P, s3, e3, hP, hPn, T3⟩ := T2.s.known hm (size := 1 + v) (by omega) (by omega) (by omega)
        exact ⟨P, s3, hP, hPn, ⟨T3.s.mono (by omega), T3.k, T3.e⟩, fun x => by simp only [runF, List.map_cons, List.map_nil, List.cons_append, List.nil_append, Nat.reduceSub, List.replicate_succ, List.replicate_zero, v_seq, v_if, v_tof, v_op, v_un, v_var, v_c, v_ret, v_nx, v_asg, v_and, v_or, v_not, v_nil, v_cons, v_tup, v_lst, v_frz, v_cb, v_cn, v_cp, v_ife, v_par, v_for, v_tru, List.getElem?_cons_zero, List.getElem?_cons_succ, List.set_cons_zero, List.set_cons_succ, k_var, k_op, k_op2, k_un, k_some, k_tof, k_asgN, k_ret, k_seqR, k_seqN, k_cons, k_cons2, k_cb, k_cn, k_cp, k_frz, k_par, k_par2, k_forV, k_truB, k_truT, k_not, k_orF, k_andT, k_andF, k_orT, k_ifT, k_ifF, k_ifeT, k_ifeF, i_ge, i_sub, i_neg, i_eq, i_ne, in_pr, nin_pr, pl_0, pl_1, pl_2, pr_0, pr_1, R.bind, k_tup, k_lst, List.length_cons, List.length_nil, Nat.reduceAdd, Nat.reduceLeDiff, decide_true, decide_false, Bool.not_true, Bool.not_false, Bool.true_and, Bool.false_and, Bool.and_true, Bool.and_false, Bool.or_true, Bool.or_false, if_true, if_false, Bool.false_eq_true, wipeE, tup_lst, v_yes, len_tup, i_lt, i_gt, i_add, k_asgT3, k_asgP, Bool.false_or, Bool.true_or, v_rg1, v_rg2, k_rg1, k_rg2, k_rg2b, v_it, k_itL, k_itT, v_lrg, k_lrg, v_ct, k_ct, v_new, k_new, v_app, k_app, k_app1, k_app2, k_push, v_exp, k_exp, v_nadd, k_nadd, k_nadd2, k_cat, len_l0, len_l1, len_l2, ix_first, ix_second, Int.reduceEq, Int.reduceSub, eq_self, mod_i2, int_i, k_asgP2, k_nadd3, add_ref, k_ifeT, k_ifeF, v_rg1, e3]⟩
      | false =>
        obtain ⟨P, s3, e3, hP, hPn, T3⟩ := T2.s.free hm (size := 1 + v) (most := 3 * (1 + v)) (by omega) (by omega) (by omega) (by omega) (by omega)
        exact ⟨P, s3, hP, hPn, T3, fun x => by simp only [runF, List.map_cons, List.map_nil, List.cons_append, List.nil_append, Nat.reduceSub, List.replicate_succ, List.replicate_zero, v_seq, v_if, v_tof, v_op, v_un, v_var, v_c, v_ret, v_nx, v_asg, v_and, v_or, v_not, v_nil, v_cons, v_tup, v_lst, v_frz, v_cb, v_cn, v_cp, v_ife, v_par, v_for, v_tru, List.getElem?_cons_zero, List.getElem?_cons_succ, List.set_cons_zero, List.set_cons_succ, k_var, k_op, k_op2, k_un, k_some, k_tof, k_asgN, k_ret, k_seqR, k_seqN, k_cons, k_cons2, k_cb, k_cn, k_cp, k_frz, k_par, k_par2, k_forV, k_truB, k_truT, k_not, k_orF, k_andT, k_andF, k_orT, k_ifT, k_ifF, k_ifeT, k_ifeF, i_ge, i_sub, i_neg, i_eq, i_ne, in_pr, nin_pr, pl_0, pl_1, pl_2, pr_0, pr_1, R.bind, k_tup, k_lst, List.length_cons, List.length_nil, Nat.reduceAdd, Nat.reduceLeDiff, decide_true, decide_false, Bool.not_true, Bool.not_false, Bool.true_and, Bool.false_and, Bool.and_true, Bool.and_false, Bool.or_true, Bool.or_false, if_true, if_false, Bool.false_eq_true, wipeE, tup_lst, v_yes, len_tup, i_lt, i_gt, i_add, k_asgT3, k_asgP, Bool.false_or, Bool.true_or, v_rg1, v_rg2, k_rg1, k_rg2, k_rg2b, v_it, k_itL, k_itT, v_lrg, k_lrg, v_ct, k_ct, v_new, k_new, v_app, k_app, k_app1, k_app2, k_push, v_exp, k_exp, v_nadd, k_nadd, k_nadd2, k_cat, len_l0, len_l1, len_l2, ix_first, ix_second, Int.reduceEq, Int.reduceSub, eq_self, mod_i2, int_i, k_asgP2, k_nadd3, add_ref, k_ifeT, k_ifeF, v_rg1, mul3, e3]⟩
    have hl := hP.rws.len
    obtain ⟨t, s4, e4, ht, T4⟩ := T3.s.shuf hm (w := 1 + v) (by omega) (by omega) (by omega)
    obtain ⟨s, s5, e5, hs, T5⟩ := T4.s.shuf hm (w := (P.rows.length : Nat)) (by omega) (by omega) (by omega)
    obtain ⟨Q, e6, hQ, hQn, hQl⟩ := ap_renamed hP (s := s) (t := t) (listing_of (by omega) hs) (listing_of (by have := hP.n1; omega) (by rw [hPn]; exact ht))
    simp only [f__law_plan, b__law_plan, runF, List.map_cons, List.map_nil, List.cons_append, List.nil_append, Nat.reduceSub, List.replicate_succ, List.replicate_zero, v_seq, v_if, v_tof, v_op, v_un, v_var, v_c, v_ret, v_nx, v_asg, v_and, v_or, v_not, v_nil, v_cons, v_tup, v_lst, v_frz, v_cb, v_cn, v_cp, v_ife, v_par, v_for, v_tru, List.getElem?_cons_zero, List.getElem?_cons_succ, List.set_cons_zero, List.set_cons_succ, k_var, k_op, k_op2, k_un, k_some, k_tof, k_asgN, k_ret, k_seqR, k_seqN, k_cons, k_cons2, k_cb, k_cn, k_cp, k_frz, k_par, k_par2, k_forV, k_truB, k_truT, k_not, k_orF, k_andT, k_andF, k_orT, k_ifT, k_ifF, k_ifeT, k_ifeF, i_ge, i_sub, i_neg, i_eq, i_ne, in_pr, nin_pr, pl_0, pl_1, pl_2, pr_0, pr_1, R.bind, k_tup, k_lst, List.length_cons, List.length_nil, Nat.reduceAdd, Nat.reduceLeDiff, decide_true, decide_false, Bool.not_true, Bool.not_false, Bool.true_and, Bool.false_and, Bool.and_true, Bool.and_false, Bool.or_true, Bool.or_false, if_true, if_false, Bool.false_eq_true, wipeE, tup_lst, v_yes, len_tup, i_lt, i_gt, i_add, k_asgT3, k_asgP, Bool.false_or, Bool.true_or, v_rg1, v_rg2, k_rg1, k_rg2, k_rg2b, v_it, k_itL, k_itT, v_lrg, k_lrg, v_ct, k_ct, v_new, k_new, v_app, k_app, k_app1, k_app2, k_push, v_exp, k_exp, v_nadd, k_nadd, k_nadd2, k_cat, len_l0, len_l1, len_l2, ix_first, ix_second, Int.reduceEq, Int.reduceSub, eq_self, mod_i2, int_i, k_asgP2, k_nadd3, add_ref, k_ifeT, k_ifeF, v_rg1, e1, e2, e3, e4, e5, e6]
    exact ⟨Q, s5, rfl, hQ, by omega, (((T1.k.trans T2.k).trans T3.k).trans T4.k).trans T5.k, T5.s.mono (by omega)⟩
  obtain ⟨Q, st2, e, hQ, hn', hK, hS⟩ := run
  obtain ⟨st3, e3, T3⟩ := appT_ok (d' := plD Q) h e hK hS (by
    show (if pur (plD Q) = true then some (plD Q) else none) = _
    rw [pur_pl, if_pos rfl])
  exact ⟨Q, st3, e3, hQ, hn', T3⟩
end
end FK

set_option Elab.async false
set_option linter.all false
set_option maxRecDepth 100000
namespace FK
open DL
theorem cut_map {α β : Type} {f : α → β} {xs : List α} {lo hi : Option Int} : cutD (xs.map f) lo hi = (cutD xs lo hi).map f := by
  unfold cutD
  rw [List.length_map, List.map_take, List.map_drop]
theorem cut_len {α : Type} {xs : List α} {lo hi : Option Int} : (cutD xs lo hi).length ≤ xs.length := by
  unfold cutD
  rw [List.length_take, List.length_drop]
  omega
def kDict (r : R (List D)) (ks : List L2.Key) (n : Nat) : R D := r.bind fun ds st1 => match st1[n]? with
  | some (.dct []) => if ds.length = ks.length then .ok (.ref n) (st1.set n (.dct (ks.zip ds))) else .no
  | _ => .no
theorem v_dict {ks : List L2.Key} {fs : List Ev} {env : Ent} {st : Store} : eDict ks fs env st = kDict (eAll fs env (st ++ [.dct []])) ks st.length := rfl
theorem k_dict {ks : List L2.Key} {ds : List D} {st : Store} (h : ds.length = ks.length) : kDict (.ok ds (st ++ [.dct []])) ks st.length = .ok (.ref st.length) (st ++ [.dct (ks.zip ds)]) := by
  show (match (st ++ [Cell.dct []])[st.length]? with | some (.dct []) => if ds.length = ks.length then R.ok (D.ref st.length) ((st ++ [Cell.dct []]).set st.length (.dct (ks.zip ds))) else .no | _ => .no) = _
  rw [List.getElem?_concat_length]
  show (if ds.length = ks.length then R.ok (D.ref st.length) ((st ++ [Cell.dct []]).set st.length (.dct (ks.zip ds))) else R.no) = _
  rw [if_pos h, List.set_append_right _ _ (Nat.le_refl _), Nat.sub_self]
  rfl
theorem begun2 (ns : List Int) (hn : ns.length ≤ 63) (k : Int) (st : Store) : ∃ (L S : Int) (ms : List Int), 0 ≤ L ∧ ms ≠ [] ∧ f__law_begun [.lst (ns.map D.int), .int k] st = .ok (.ref st.length) (st ++ [mD L S (zs ms) 0]) := by
  obtain ⟨cs, hcs⟩ : ∃ cs : List Int, cs = cutD ns (some k) none ++ cutD ns none (some k) := ⟨_, rfl⟩
  have hc : cs.length ≤ 126 := by
    have h1 := cut_len (xs := ns) (lo := some k) (hi := none)
    have h2 := cut_len (xs := ns) (lo := none) (hi := some k)
    rw [hcs, List.length_append]
    omega
  have hg : (great cs).length ≤ 126 := Nat.le_trans (List.length_filter_le ..) hc
  have a1 : (eOp opAdd (eSl (eVar 0) (oSome (eVar 1)) oNone) (eSl (eVar 0) oNone (oSome (eVar 1)))) [some (.lst (ns.map D.int)), some (.int k), none, none, none, none] st = .ok (.lst (cs.map D.int)) st := by
    show R.ofO (opAdd st (.lst (cutD (ns.map D.int) (some k) none)) (.lst (cutD (ns.map D.int) none (some k)))) st = _
    rw [cut_map, cut_map, add_lst (by
      rw [List.length_map, List.length_map]
      have h1 := cut_len (xs := ns) (lo := some k) (hi := none)
      have h2 := cut_len (xs := ns) (lo := none) (hi := some k)
      omega), ← List.map_append, hcs]
    rfl
  have a2 : ∃ L : Int, 0 ≤ L ∧ ∀ (st : Store) (x4 x5 : Option D), (eIfE (tOf (eOp opNe (eVar 3) (eFrz (nLst aNil)))) (eOp opIx (eVar 3) (eC (.int 0))) (eC (.int 0))) [some (.lst (ns.map D.int)), some (.int k), some (.lst (cs.map D.int)), some (.lst ((great cs).map D.int)), x4, x5] st = .ok (.int L) st := by
    cases hq : great cs with
    | nil =>
      refine ⟨0, Int.le_refl _, fun st x4 x5 => ?_⟩
      simp only [runF, List.map_cons, List.map_nil, List.cons_append, List.nil_append, Nat.reduceSub, List.replicate_succ, List.replicate_zero, v_seq, v_if, v_tof, v_op, v_un, v_var, v_c, v_ret, v_nx, v_asg, v_and, v_or, v_not, v_nil, v_cons, v_tup, v_lst, v_frz, v_cb, v_cn, v_cp, v_ife, v_par, v_for, v_tru, List.getElem?_cons_zero, List.getElem?_cons_succ, List.set_cons_zero, List.set_cons_succ, k_var, k_op, k_op2, k_un, k_some, k_tof, k_asgN, k_ret, k_seqR, k_seqN, k_cons, k_cons2, k_cb, k_cn, k_cp, k_frz, k_par, k_par2, k_forV, k_truB, k_truT, k_not, k_orF, k_andT, k_andF, k_orT, k_ifT, k_ifF, k_ifeT, k_ifeF, i_ge, i_sub, i_neg, i_eq, i_ne, in_pr, nin_pr, pl_0, pl_1, pl_2, pr_0, pr_1, R.bind, k_tup, k_lst, List.length_cons, List.length_nil, Nat.reduceAdd, Nat.reduceLeDiff, decide_true, decide_false, Bool.not_true, Bool.not_false, Bool.true_and, Bool.false_and, Bool.and_true, Bool.and_false, Bool.or_true, Bool.or_false, if_true, if_false, Bool.false_eq_true, wipeE, tup_lst, v_yes, len_tup, i_lt, i_gt, i_add, k_asgT3, k_asgP, Bool.false_or, Bool.true_or, v_rg1, v_rg2, k_rg1, k_rg2, k_rg2b, v_it, k_itL, k_itT, v_lrg, k_lrg, v_ct, k_ct, v_new, k_new, v_app, k_app, k_app1, k_app2, k_push, v_exp, k_exp, v_nadd, k_nadd, k_nadd2, k_cat, len_l0, len_l1, len_l2, ix_first, ix_second, Int.reduceEq, Int.reduceSub, eq_self, mod_i2, int_i, k_asgP2, k_nadd3, add_ref, k_ifeT, k_ifeF, v_rg1, ne_nil, List.isEmpty_nil]
      rfl
    | cons g gs =>
      refine ⟨g, Int.le_of_lt (great_pos (ns := cs) (by rw [hq]; exact List.mem_cons_self ..)), fun st x4 x5 => ?_⟩
      have e : opNe st (.lst (D.int g :: gs.map D.int)) (.lst []) = some (.bl true) := ne_nil (xs := g :: gs)
      simp only [runF, List.map_cons, List.map_nil, List.cons_append, List.nil_append, Nat.reduceSub, List.replicate_succ, List.replicate_zero, v_seq, v_if, v_tof, v_op, v_un, v_var, v_c, v_ret, v_nx, v_asg, v_and, v_or, v_not, v_nil, v_cons, v_tup, v_lst, v_frz, v_cb, v_cn, v_cp, v_ife, v_par, v_for, v_tru, List.getElem?_cons_zero, List.getElem?_cons_succ, List.set_cons_zero, List.set_cons_succ, k_var, k_op, k_op2, k_un, k_some, k_tof, k_asgN, k_ret, k_seqR, k_seqN, k_cons, k_cons2, k_cb, k_cn, k_cp, k_frz, k_par, k_par2, k_forV, k_truB, k_truT, k_not, k_orF, k_andT, k_andF, k_orT, k_ifT, k_ifF, k_ifeT, k_ifeF, i_ge, i_sub, i_neg, i_eq, i_ne, in_pr, nin_pr, pl_0, pl_1, pl_2, pr_0, pr_1, R.bind, k_tup, k_lst, List.length_cons, List.length_nil, Nat.reduceAdd, Nat.reduceLeDiff, decide_true, decide_false, Bool.not_true, Bool.not_false, Bool.true_and, Bool.false_and, Bool.and_true, Bool.and_false, Bool.or_true, Bool.or_false, if_true, if_false, Bool.false_eq_true, wipeE, tup_lst, v_yes, len_tup, i_lt, i_gt, i_add, k_asgT3, k_asgP, Bool.false_or, Bool.true_or, v_rg1, v_rg2, k_rg1, k_rg2, k_rg2b, v_it, k_itL, k_itT, v_lrg, k_lrg, v_ct, k_ct, v_new, k_new, v_app, k_app, k_app1, k_app2, k_push, v_exp, k_exp, v_nadd, k_nadd, k_nadd2, k_cat, len_l0, len_l1, len_l2, ix_first, ix_second, Int.reduceEq, Int.reduceSub, eq_self, mod_i2, int_i, k_asgP2, k_nadd3, add_ref, k_ifeT, k_ifeF, v_rg1, e]
  obtain ⟨L, hL, a2⟩ := a2
  obtain ⟨s', x', hs⟩ := seed_loop cs (some (.lst (ns.map D.int))) (some (.int k)) (some (.lst (cs.map D.int))) (some (.lst ((great cs).map D.int))) none (71 + k) st
  have mu : ∀ s, opMul s (.int 53) (.int k) = some (.int (53 * k)) := fun s => mul_l (by decide)
  have ad : ∀ s, opAdd s (.lst (cs.map D.int)) (.lst [.int (53 * k + 11)]) = some (.lst ((cs ++ [53 * k + 11]).map D.int)) := fun s => by
    rw [add_lst (by rw [List.length_map]; simp; omega), List.map_append]
    rfl
  have a3 : (eFrz (nLc (iSeq (eVar 2)) (tgN 5) (tOf (eOp opGe (eVar 5) (eOp opPow (eC (.int 10)) (eC (.int 18))))) (eVar 5) [5])) [some (.lst (ns.map D.int)), some (.int k), some (.lst (cs.map D.int)), none, none, none] st = .ok (.lst ((great cs).map D.int)) st := by
    simp only [runF, List.map_cons, List.map_nil, List.cons_append, List.nil_append, Nat.reduceSub, List.replicate_succ, List.replicate_zero, v_seq, v_if, v_tof, v_op, v_un, v_var, v_c, v_ret, v_nx, v_asg, v_and, v_or, v_not, v_nil, v_cons, v_tup, v_lst, v_frz, v_cb, v_cn, v_cp, v_ife, v_par, v_for, v_tru, List.getElem?_cons_zero, List.getElem?_cons_succ, List.set_cons_zero, List.set_cons_succ, k_var, k_op, k_op2, k_un, k_some, k_tof, k_asgN, k_ret, k_seqR, k_seqN, k_cons, k_cons2, k_cb, k_cn, k_cp, k_frz, k_par, k_par2, k_forV, k_truB, k_truT, k_not, k_orF, k_andT, k_andF, k_orT, k_ifT, k_ifF, k_ifeT, k_ifeF, i_ge, i_sub, i_neg, i_eq, i_ne, in_pr, nin_pr, pl_0, pl_1, pl_2, pr_0, pr_1, R.bind, k_tup, k_lst, List.length_cons, List.length_nil, Nat.reduceAdd, Nat.reduceLeDiff, decide_true, decide_false, Bool.not_true, Bool.not_false, Bool.true_and, Bool.false_and, Bool.and_true, Bool.and_false, Bool.or_true, Bool.or_false, if_true, if_false, Bool.false_eq_true, wipeE, tup_lst, v_yes, len_tup, i_lt, i_gt, i_add, k_asgT3, k_asgP, Bool.false_or, Bool.true_or, v_rg1, v_rg2, k_rg1, k_rg2, k_rg2b, v_it, k_itL, k_itT, v_lrg, k_lrg, v_ct, k_ct, v_new, k_new, v_app, k_app, k_app1, k_app2, k_push, v_exp, k_exp, v_nadd, k_nadd, k_nadd2, k_cat, len_l0, len_l1, len_l2, ix_first, ix_second, Int.reduceEq, Int.reduceSub, eq_self, mod_i2, int_i, k_asgP2, k_nadd3, add_ref, k_ifeT, k_ifeF, v_rg1]
    rw [lc_ints (xs := cs) (c := fun i => !decide (i < 1000000000000000000)) (fv := D.int) (it_lst rfl) (by omega) (fun x hx => by
      simp only [runF, List.map_cons, List.map_nil, List.cons_append, List.nil_append, Nat.reduceSub, List.replicate_succ, List.replicate_zero, v_seq, v_if, v_tof, v_op, v_un, v_var, v_c, v_ret, v_nx, v_asg, v_and, v_or, v_not, v_nil, v_cons, v_tup, v_lst, v_frz, v_cb, v_cn, v_cp, v_ife, v_par, v_for, v_tru, List.getElem?_cons_zero, List.getElem?_cons_succ, List.set_cons_zero, List.set_cons_succ, k_var, k_op, k_op2, k_un, k_some, k_tof, k_asgN, k_ret, k_seqR, k_seqN, k_cons, k_cons2, k_cb, k_cn, k_cp, k_frz, k_par, k_par2, k_forV, k_truB, k_truT, k_not, k_orF, k_andT, k_andF, k_orT, k_ifT, k_ifF, k_ifeT, k_ifeF, i_ge, i_sub, i_neg, i_eq, i_ne, in_pr, nin_pr, pl_0, pl_1, pl_2, pr_0, pr_1, R.bind, k_tup, k_lst, List.length_cons, List.length_nil, Nat.reduceAdd, Nat.reduceLeDiff, decide_true, decide_false, Bool.not_true, Bool.not_false, Bool.true_and, Bool.false_and, Bool.and_true, Bool.and_false, Bool.or_true, Bool.or_false, if_true, if_false, Bool.false_eq_true, wipeE, tup_lst, v_yes, len_tup, i_lt, i_gt, i_add, k_asgT3, k_asgP, Bool.false_or, Bool.true_or, v_rg1, v_rg2, k_rg1, k_rg2, k_rg2b, v_it, k_itL, k_itT, v_lrg, k_lrg, v_ct, k_ct, v_new, k_new, v_app, k_app, k_app1, k_app2, k_push, v_exp, k_exp, v_nadd, k_nadd, k_nadd2, k_cat, len_l0, len_l1, len_l2, ix_first, ix_second, Int.reduceEq, Int.reduceSub, eq_self, mod_i2, int_i, k_asgP2, k_nadd3, add_ref, k_ifeT, k_ifeF, v_rg1, pow18]
      exact ⟨trivial, fun _ => trivial⟩)]
    rfl
  refine ⟨L, s', cs ++ [53 * k + 11], hL, by simp, ?_⟩
  have hb : b__law_begun [some (.lst (ns.map D.int)), some (.int k), none, none, none, none] st = .ok (.rt (.ref st.length), [some (.lst (ns.map D.int)), some (.int k), some (.lst (cs.map D.int)), some (.lst ((great cs).map D.int)), some (.int s'), x']) (st ++ [mD L s' (zs (cs ++ [53 * k + 11])) 0]) := by
    refine (seq_nx (asg_ok a1)).trans ?_
    refine (seq_nx (asg_ok a3)).trans ?_
    refine (seq_nx (asg_ok (d := .int (71 + k)) rfl)).trans ?_
    refine (seq_nx (hs : sFor 1000 (iSeq (eVar 2)) (tgN 5) bSeed [some (.lst (ns.map D.int)), some (.int k), some (.lst (cs.map D.int)), some (.lst ((great cs).map D.int)), some (.int (71 + k)), none] st = _)).trans ?_
    refine ret_ok ?_
    rw [v_dict]
    have e9 : eAll [eIfE (tOf (eOp opNe (eVar 3) (eFrz (nLst aNil)))) (eOp opIx (eVar 3) (eC (.int 0))) (eC (.int 0)), eVar 4, eOp opAdd (eVar 2) (eFrz (nLst (aCons (eOp opAdd (eOp opMul (eC (.int 53)) (eVar 1)) (eC (.int 11))) aNil))), eC (.int 0)] [some (.lst (ns.map D.int)), some (.int k), some (.lst (cs.map D.int)), some (.lst ((great cs).map D.int)), some (.int s'), x'] (st ++ [.dct []]) = .ok [.int L, .int s', .lst ((cs ++ [53 * k + 11]).map D.int), .int 0] (st ++ [.dct []]) := by
      refine cons_ok (a2 _ _ _) (cons_ok (f := eVar 4) rfl (cons_ok ?_ (cons_ok (f := eC (.int 0)) rfl (rfl : aNil _ _ = _))))
      simp only [runF, List.map_cons, List.map_nil, List.cons_append, List.nil_append, Nat.reduceSub, List.replicate_succ, List.replicate_zero, v_seq, v_if, v_tof, v_op, v_un, v_var, v_c, v_ret, v_nx, v_asg, v_and, v_or, v_not, v_nil, v_cons, v_tup, v_lst, v_frz, v_cb, v_cn, v_cp, v_ife, v_par, v_for, v_tru, List.getElem?_cons_zero, List.getElem?_cons_succ, List.set_cons_zero, List.set_cons_succ, k_var, k_op, k_op2, k_un, k_some, k_tof, k_asgN, k_ret, k_seqR, k_seqN, k_cons, k_cons2, k_cb, k_cn, k_cp, k_frz, k_par, k_par2, k_forV, k_truB, k_truT, k_not, k_orF, k_andT, k_andF, k_orT, k_ifT, k_ifF, k_ifeT, k_ifeF, i_ge, i_sub, i_neg, i_eq, i_ne, in_pr, nin_pr, pl_0, pl_1, pl_2, pr_0, pr_1, R.bind, k_tup, k_lst, List.length_cons, List.length_nil, Nat.reduceAdd, Nat.reduceLeDiff, decide_true, decide_false, Bool.not_true, Bool.not_false, Bool.true_and, Bool.false_and, Bool.and_true, Bool.and_false, Bool.or_true, Bool.or_false, if_true, if_false, Bool.false_eq_true, wipeE, tup_lst, v_yes, len_tup, i_lt, i_gt, i_add, k_asgT3, k_asgP, Bool.false_or, Bool.true_or, v_rg1, v_rg2, k_rg1, k_rg2, k_rg2b, v_it, k_itL, k_itT, v_lrg, k_lrg, v_ct, k_ct, v_new, k_new, v_app, k_app, k_app1, k_app2, k_push, v_exp, k_exp, v_nadd, k_nadd, k_nadd2, k_cat, len_l0, len_l1, len_l2, ix_first, ix_second, Int.reduceEq, Int.reduceSub, eq_self, mod_i2, int_i, k_asgP2, k_nadd3, add_ref, k_ifeT, k_ifeF, v_rg1, mu, ad]
    exact (congrArg (fun r => kDict r _ _) e9).trans ((k_dict rfl).trans rfl)
  unfold f__law_begun runF
  show (b__law_begun [some (.lst (ns.map D.int)), some (.int k), none, none, none, none] st).bind _ = _
  rw [hb]
  rfl
theorem hands : appP f__law_hands_right [] = some (.bl true) := by
  kernel_rfl
end FK

set_option Elab.async false
set_option linter.all false
set_option maxRecDepth 100000
namespace FK
open DL
theorem v_c0 {g : List D → Store → R D} {env : Ent} {st : Store} : eCall0 g env st = R.ofO (appP g []) st := rfl
theorem min_i {i j : Int} {st : Store} : opmin st [.int i, .int j] = some (.int (if decide (j < i) = true then j else i)) := by
  show some (if decide (j < i) = true then D.int j else D.int i) = _
  cases decide (j < i) <;> rfl
theorem max_i {i j : Int} {st : Store} : opmax st [.int i, .int j] = some (.int (if decide (i < j) = true then j else i)) := by
  show some (if decide (i < j) = true then D.int j else D.int i) = _
  cases decide (i < j) <;> rfl
theorem law_true (ns : List Int) (hn : ns.length ≤ 63) : ∃ st, f_law [.lst (zs ns)] [] = .ok (.bl true) st := by
  have hl : ∀ st : Store, opLen st [.lst (ns.map D.int)] = some (.int (ns.length : Nat)) := fun st => by
    rw [len_items (xs := ns.map D.int) rfl, List.length_map]
  obtain ⟨w, hw, w0, w4⟩ : ∃ w : Int, (if decide (2 < (if decide ((4 : Int) < (ns.length : Nat)) = true then (4 : Int) else (ns.length : Nat))) = true then (if decide ((4 : Int) < (ns.length : Nat)) = true then (4 : Int) else (ns.length : Nat)) else 2) = w ∧ 2 ≤ w ∧ w ≤ 4 := by
    refine ⟨_, rfl, ?_⟩
    by_cases h1 : (4 : Int) < (ns.length : Nat)
    · simp [h1]
    · by_cases h2 : (2 : Int) < (ns.length : Nat)
      · simp [h1, h2]
        omega
      · simp [h1, h2]
  have rw' : rgOk 0 w = true := rgOk_small (by omega) (by omega) (by omega) (by omega)
  show ∃ st, f_law [.lst (ns.map D.int)] [] = .ok (.bl true) st
  simp only [f_law, b_law, runF, List.map_cons, List.map_nil, List.cons_append, List.nil_append, Nat.reduceSub, List.replicate_succ, List.replicate_zero, v_seq, v_if, v_tof, v_op, v_un, v_var, v_c, v_ret, v_nx, v_asg, v_and, v_or, v_not, v_nil, v_cons, v_tup, v_lst, v_frz, v_cb, v_cn, v_cp, v_ife, v_par, v_for, v_tru, List.getElem?_cons_zero, List.getElem?_cons_succ, List.set_cons_zero, List.set_cons_succ, k_var, k_op, k_op2, k_un, k_some, k_tof, k_asgN, k_ret, k_seqR, k_seqN, k_cons, k_cons2, k_cb, k_cn, k_cp, k_frz, k_par, k_par2, k_forV, k_truB, k_truT, k_not, k_orF, k_andT, k_andF, k_orT, k_ifT, k_ifF, k_ifeT, k_ifeF, i_ge, i_sub, i_neg, i_eq, i_ne, in_pr, nin_pr, pl_0, pl_1, pl_2, pr_0, pr_1, R.bind, k_tup, k_lst, List.length_cons, List.length_nil, Nat.reduceAdd, Nat.reduceLeDiff, decide_true, decide_false, Bool.not_true, Bool.not_false, Bool.true_and, Bool.false_and, Bool.and_true, Bool.and_false, Bool.or_true, Bool.or_false, if_true, if_false, Bool.false_eq_true, wipeE, tup_lst, v_yes, len_tup, i_lt, i_gt, i_add, k_asgT3, k_asgP, Bool.false_or, Bool.true_or, v_rg1, v_rg2, k_rg1, k_rg2, k_rg2b, v_it, k_itL, k_itT, v_lrg, k_lrg, v_ct, k_ct, v_new, k_new, v_app, k_app, k_app1, k_app2, k_push, v_exp, k_exp, v_nadd, k_nadd, k_nadd2, k_cat, len_l0, len_l1, len_l2, ix_first, ix_second, Int.reduceEq, Int.reduceSub, eq_self, mod_i2, int_i, k_asgP2, k_nadd3, add_ref, k_ifeT, k_ifeF, v_rg1, v_c0, hands, hl, min_i, max_i, hw, rw']
  generalize hf : forVals _ _ _ _ _ = r
  obtain ⟨e', s', ⟨x1, x2, x3, x4, x5, rfl, hp⟩, rfl⟩ := for_ints (fun v s => ∃ (x1 x2 x3 x4 x5 : Option D), v = [some (.lst (ns.map D.int)), x1, x2, x3, x4, x5] ∧ ∀ c ∈ s, purC c = true) hf ⟨_, _, _, _, _, rfl, fun c hc => by cases hc⟩ fun k hk e s hI => by
    obtain ⟨x1, x2, x3, x4, x5, rfl, hp⟩ := hI
    obtain ⟨L, S, ms, hL, hm, eb⟩ := begun2 ns hn k s
    have S0 : Sto s.length ms 0 (s ++ [mD L S (zs ms) 0]) := ⟨⟨_, List.getElem?_concat_length, L, S, 0, hL, Int.le_refl _, Int.le_refl _, rfl⟩, fun c hc => by
      rcases List.mem_append.mp hc with q | q
      · exact hp c q
      · rw [List.mem_singleton] at q
        subst q
        exact pur_mD⟩
    obtain ⟨P, s1, e1, hP, hPn, T1⟩ := S0.plan hm (most := 6) (by omega) (by omega) (by omega)
    have n1 := hP.n1
    have hrl := hP.rws.len
    obtain ⟨t, s2, e2, ht, T2⟩ := T1.s.shuf hm (w := P.n) (by omega) (by omega) (by omega)
    obtain ⟨u, s3, e3, hu, T3⟩ := T2.s.shuf hm (w := (P.rows.length : Nat)) (by omega) (by omega) (by omega)
    obtain ⟨Q, e4, hQ, _, _⟩ := ap_renamed hP (s := u) (t := t) (listing_of (by omega) hu) (listing_of (by omega) ht)
    simp only [runF, List.map_cons, List.map_nil, List.cons_append, List.nil_append, Nat.reduceSub, List.replicate_succ, List.replicate_zero, v_seq, v_if, v_tof, v_op, v_un, v_var, v_c, v_ret, v_nx, v_asg, v_and, v_or, v_not, v_nil, v_cons, v_tup, v_lst, v_frz, v_cb, v_cn, v_cp, v_ife, v_par, v_for, v_tru, List.getElem?_cons_zero, List.getElem?_cons_succ, List.set_cons_zero, List.set_cons_succ, k_var, k_op, k_op2, k_un, k_some, k_tof, k_asgN, k_ret, k_seqR, k_seqN, k_cons, k_cons2, k_cb, k_cn, k_cp, k_frz, k_par, k_par2, k_forV, k_truB, k_truT, k_not, k_orF, k_andT, k_andF, k_orT, k_ifT, k_ifF, k_ifeT, k_ifeF, i_ge, i_sub, i_neg, i_eq, i_ne, in_pr, nin_pr, pl_0, pl_1, pl_2, pr_0, pr_1, R.bind, k_tup, k_lst, List.length_cons, List.length_nil, Nat.reduceAdd, Nat.reduceLeDiff, decide_true, decide_false, Bool.not_true, Bool.not_false, Bool.true_and, Bool.false_and, Bool.and_true, Bool.and_false, Bool.or_true, Bool.or_false, if_true, if_false, Bool.false_eq_true, wipeE, tup_lst, v_yes, len_tup, i_lt, i_gt, i_add, k_asgT3, k_asgP, Bool.false_or, Bool.true_or, v_rg1, v_rg2, k_rg1, k_rg2, k_rg2b, v_it, k_itL, k_itT, v_lrg, k_lrg, v_ct, k_ct, v_new, k_new, v_app, k_app, k_app1, k_app2, k_push, v_exp, k_exp, v_nadd, k_nadd, k_nadd2, k_cat, len_l0, len_l1, len_l2, ix_first, ix_second, Int.reduceEq, Int.reduceSub, eq_self, mod_i2, int_i, k_asgP2, k_nadd3, add_ref, k_ifeT, k_ifeF, v_rg1, v_cr, k_cr, eb, e1, ap_ptold hP, ap_ttold hP, e2, e3, e4, ap_ptold hQ]
    exact ⟨_, _, rfl, _, _, _, _, _, rfl, T3.s.pu⟩
  simp only [runF, List.map_cons, List.map_nil, List.cons_append, List.nil_append, Nat.reduceSub, List.replicate_succ, List.replicate_zero, v_seq, v_if, v_tof, v_op, v_un, v_var, v_c, v_ret, v_nx, v_asg, v_and, v_or, v_not, v_nil, v_cons, v_tup, v_lst, v_frz, v_cb, v_cn, v_cp, v_ife, v_par, v_for, v_tru, List.getElem?_cons_zero, List.getElem?_cons_succ, List.set_cons_zero, List.set_cons_succ, k_var, k_op, k_op2, k_un, k_some, k_tof, k_asgN, k_ret, k_seqR, k_seqN, k_cons, k_cons2, k_cb, k_cn, k_cp, k_frz, k_par, k_par2, k_forV, k_truB, k_truT, k_not, k_orF, k_andT, k_andF, k_orT, k_ifT, k_ifF, k_ifeT, k_ifeF, i_ge, i_sub, i_neg, i_eq, i_ne, in_pr, nin_pr, pl_0, pl_1, pl_2, pr_0, pr_1, R.bind, k_tup, k_lst, List.length_cons, List.length_nil, Nat.reduceAdd, Nat.reduceLeDiff, decide_true, decide_false, Bool.not_true, Bool.not_false, Bool.true_and, Bool.false_and, Bool.and_true, Bool.and_false, Bool.or_true, Bool.or_false, if_true, if_false, Bool.false_eq_true, wipeE, tup_lst, v_yes, len_tup, i_lt, i_gt, i_add, k_asgT3, k_asgP, Bool.false_or, Bool.true_or, v_rg1, v_rg2, k_rg1, k_rg2, k_rg2b, v_it, k_itL, k_itT, v_lrg, k_lrg, v_ct, k_ct, v_new, k_new, v_app, k_app, k_app1, k_app2, k_push, v_exp, k_exp, v_nadd, k_nadd, k_nadd2, k_cat, len_l0, len_l1, len_l2, ix_first, ix_second, Int.reduceEq, Int.reduceSub, eq_self, mod_i2, int_i, k_asgP2, k_nadd3, add_ref, k_ifeT, k_ifeF, v_rg1]
  exact ⟨_, rfl⟩
end FK

namespace FK
section
open PySem PySem.Spec PyProof.Rows L2 DL HeadK
def WdOf (K : PySem.W.Frag) : Wd := ⟨fun i => He.fAd K ((fn.map He.DefD.at_).getD i ("", none)), fun _ _ _ _ _ _ => False⟩
theorem facts {P : Program} {w : World} {K : PySem.W.Frag} {h : Heap} {mg : PySem.Str → Option Value} {f a : Addr} (X : K.In h) (G : h.Ns mainGlobals mg) (hfa : mg ("law" : PySem.Str) = some (.ref f)) (c : He.SaysD fa fn K) (no : NoFn K a) :
    ∃ fd : FuncData, (∀ (s : Shared) (v : Value), BindsTo s fd ⟨[v], []⟩ [("_law_script", v)]) ∧ ∀ base : Heap, GOk P w (less K a) mg base (L2.CX P w) 10 f fd ["_law_script"] (spD (WdOf K) 1 f_law) := by
  have m_next_of : mg "next_of" = some (.ref ((WdOf K).F 1)) := He.glo_ok X G (c.fact 1 (f := .glo "next_of") rfl)
  have m_nil_of : mg "nil_of" = some (.ref ((WdOf K).F 2)) := He.glo_ok X G (c.fact 2 (f := .glo "nil_of") rfl)
  have m_nil_ahead_of : mg "nil_ahead_of" = some (.ref ((WdOf K).F 4)) := He.glo_ok X G (c.fact 4 (f := .glo "nil_ahead_of") rfl)
  have m_other_ended : mg "other_ended" = some (.ref ((WdOf K).F 6)) := He.glo_ok X G (c.fact 6 (f := .glo "other_ended") rfl)
  have m_other_begun : mg "other_begun" = some (.ref ((WdOf K).F 5)) := He.glo_ok X G (c.fact 5 (f := .glo "other_begun") rfl)
  have m_ahead_of : mg "ahead_of" = some (.ref ((WdOf K).F 3)) := He.glo_ok X G (c.fact 3 (f := .glo "ahead_of") rfl)
  have m_followers : mg "followers" = some (.ref ((WdOf K).F 8)) := He.glo_ok X G (c.fact 8 (f := .glo "followers") rfl)
  have m_ends_of : mg "ends_of" = some (.ref ((WdOf K).F 0)) := He.glo_ok X G (c.fact 0 (f := .glo "ends_of") rfl)
  have m_from_point : mg "from_point" = some (.ref ((WdOf K).F 10)) := He.glo_ok X G (c.fact 10 (f := .glo "from_point") rfl)
  have m__law_like : mg "_law_like" = some (.ref ((WdOf K).F 15)) := He.glo_ok X G (c.fact 15 (f := .glo "_law_like") rfl)
  have m_mate_of : mg "mate_of" = some (.ref ((WdOf K).F 7)) := He.glo_ok X G (c.fact 7 (f := .glo "mate_of") rfl)
  have m__law_hands_right : mg "_law_hands_right" = some (.ref ((WdOf K).F 37)) := He.glo_ok X G (c.fact 37 (f := .glo "_law_hands_right") rfl)
  have m__law_begun : mg "_law_begun" = some (.ref ((WdOf K).F 12)) := He.glo_ok X G (c.fact 12 (f := .glo "_law_begun") rfl)
  have m__law_draw : mg "_law_draw" = some (.ref ((WdOf K).F 13)) := He.glo_ok X G (c.fact 13 (f := .glo "_law_draw") rfl)
  have m__law_ends : mg "_law_ends" = some (.ref ((WdOf K).F 17)) := He.glo_ok X G (c.fact 17 (f := .glo "_law_ends") rfl)
  have m__law_may : mg "_law_may" = some (.ref ((WdOf K).F 18)) := He.glo_ok X G (c.fact 18 (f := .glo "_law_may") rfl)
  have m__law_after : mg "_law_after" = some (.ref ((WdOf K).F 19)) := He.glo_ok X G (c.fact 19 (f := .glo "_law_after") rfl)
  have m__law_next : mg "_law_next" = some (.ref ((WdOf K).F 20)) := He.glo_ok X G (c.fact 20 (f := .glo "_law_next") rfl)
  have m__law_round_arrow : mg "_law_round_arrow" = some (.ref ((WdOf K).F 23)) := He.glo_ok X G (c.fact 23 (f := .glo "_law_round_arrow") rfl)
  have m__law_without : mg "_law_without" = some (.ref ((WdOf K).F 22)) := He.glo_ok X G (c.fact 22 (f := .glo "_law_without") rfl)
  have m__law_ended : mg "_law_ended" = some (.ref ((WdOf K).F 24)) := He.glo_ok X G (c.fact 24 (f := .glo "_law_ended") rfl)
  have m__law_with_noughts : mg "_law_with_noughts" = some (.ref ((WdOf K).F 25)) := He.glo_ok X G (c.fact 25 (f := .glo "_law_with_noughts") rfl)
  have m__law_known_plan : mg "_law_known_plan" = some (.ref ((WdOf K).F 27)) := He.glo_ok X G (c.fact 27 (f := .glo "_law_known_plan") rfl)
  have m__law_free_plan : mg "_law_free_plan" = some (.ref ((WdOf K).F 26)) := He.glo_ok X G (c.fact 26 (f := .glo "_law_free_plan") rfl)
  have m__law_of : mg "_law_of" = some (.ref ((WdOf K).F 14)) := He.glo_ok X G (c.fact 14 (f := .glo "_law_of") rfl)
  have m__law_shuffled : mg "_law_shuffled" = some (.ref ((WdOf K).F 16)) := He.glo_ok X G (c.fact 16 (f := .glo "_law_shuffled") rfl)
  have m__law_renamed : mg "_law_renamed" = some (.ref ((WdOf K).F 28)) := He.glo_ok X G (c.fact 28 (f := .glo "_law_renamed") rfl)
  have m__law_plan : mg "_law_plan" = some (.ref ((WdOf K).F 29)) := He.glo_ok X G (c.fact 29 (f := .glo "_law_plan") rfl)
  have m_may_follow : mg "may_follow" = some (.ref ((WdOf K).F 9)) := He.glo_ok X G (c.fact 9 (f := .glo "may_follow") rfl)
  have m__law_letter_told : mg "_law_letter_told" = some (.ref ((WdOf K).F 34)) := He.glo_ok X G (c.fact 34 (f := .glo "_law_letter_told") rfl)
  have m__law_nil : mg "_law_nil" = some (.ref ((WdOf K).F 21)) := He.glo_ok X G (c.fact 21 (f := .glo "_law_nil") rfl)
  have m__law_first : mg "_law_first" = some (.ref ((WdOf K).F 32)) := He.glo_ok X G (c.fact 32 (f := .glo "_law_first") rfl)
  have m__law_arrow_told : mg "_law_arrow_told" = some (.ref ((WdOf K).F 33)) := He.glo_ok X G (c.fact 33 (f := .glo "_law_arrow_told") rfl)
  have m__law_begins : mg "_law_begins" = some (.ref ((WdOf K).F 31)) := He.glo_ok X G (c.fact 31 (f := .glo "_law_begins") rfl)
  have m__law_plan_told : mg "_law_plan_told" = some (.ref ((WdOf K).F 35)) := He.glo_ok X G (c.fact 35 (f := .glo "_law_plan_told") rfl)
  have m_turned_plan : mg "turned_plan" = some (.ref ((WdOf K).F 11)) := He.glo_ok X G (c.fact 11 (f := .glo "turned_plan") rfl)
  have m__law_turned_plan : mg "_law_turned_plan" = some (.ref ((WdOf K).F 30)) := He.glo_ok X G (c.fact 30 (f := .glo "_law_turned_plan") rfl)
  have m__law_turned_told : mg "_law_turned_told" = some (.ref ((WdOf K).F 36)) := He.glo_ok X G (c.fact 36 (f := .glo "_law_turned_told") rfl)
  have m_law : mg "law" = some (.ref ((WdOf K).F 38)) := He.glo_ok X G (c.fact 38 (f := .glo "law") rfl)
  have g_enumerate := He.free_ok X G (c.fact 39 (f := .free "enumerate") rfl)
  have g_int := He.free_ok X G (c.fact 40 (f := .free "int") rfl)
  have g_len := He.free_ok X G (c.fact 41 (f := .free "len") rfl)
  have g_list := He.free_ok X G (c.fact 42 (f := .free "list") rfl)
  have g_max := He.free_ok X G (c.fact 43 (f := .free "max") rfl)
  have g_min := He.free_ok X G (c.fact 44 (f := .free "min") rfl)
  have g_range := He.free_ok X G (c.fact 45 (f := .free "range") rfl)
  have g_repr := He.free_ok X G (c.fact 46 (f := .free "repr") rfl)
  have g_sorted := He.free_ok X G (c.fact 47 (f := .free "sorted") rfl)
  have g_tuple := He.free_ok X G (c.fact 48 (f := .free "tuple") rfl)
  obtain ⟨fd_next_of, F0_next_of⟩ := c.def_ 1 (d := d_next_of) rfl
  have F_next_of : FunD (less K a) "next_of" "next_of" (defArgs s_next_of) (defBody s_next_of) (defScope s_next_of) [] [] ((WdOf K).F 1) fd_next_of := no.funD F0_next_of
  obtain ⟨fd_nil_of, F0_nil_of⟩ := c.def_ 2 (d := d_nil_of) rfl
  have F_nil_of : FunD (less K a) "nil_of" "nil_of" (defArgs s_nil_of) (defBody s_nil_of) (defScope s_nil_of) [] [] ((WdOf K).F 2) fd_nil_of := no.funD F0_nil_of
  obtain ⟨fd_nil_ahead_of, F0_nil_ahead_of⟩ := c.def_ 4 (d := d_nil_ahead_of) rfl
  have F_nil_ahead_of : FunD (less K a) "nil_ahead_of" "nil_ahead_of" (defArgs s_nil_ahead_of) (defBody s_nil_ahead_of) (defScope s_nil_ahead_of) [] [] ((WdOf K).F 4) fd_nil_ahead_of := no.funD F0_nil_ahead_of
  obtain ⟨fd_other_ended, F0_other_ended⟩ := c.def_ 6 (d := d_other_ended) rfl
  have F_other_ended : FunD (less K a) "other_ended" "other_ended" (defArgs s_other_ended) (defBody s_other_ended) (defScope s_other_ended) [] [] ((WdOf K).F 6) fd_other_ended := no.funD F0_other_ended
  obtain ⟨fd_other_begun, F0_other_begun⟩ := c.def_ 5 (d := d_other_begun) rfl
  have F_other_begun : FunD (less K a) "other_begun" "other_begun" (defArgs s_other_begun) (defBody s_other_begun) (defScope s_other_begun) [] [] ((WdOf K).F 5) fd_other_begun := no.funD F0_other_begun
  obtain ⟨fd_ahead_of, F0_ahead_of⟩ := c.def_ 3 (d := d_ahead_of) rfl
  have F_ahead_of : FunD (less K a) "ahead_of" "ahead_of" (defArgs s_ahead_of) (defBody s_ahead_of) (defScope s_ahead_of) [] [] ((WdOf K).F 3) fd_ahead_of := no.funD F0_ahead_of
  obtain ⟨fd_followers, F0_followers⟩ := c.def_ 8 (d := d_followers) rfl
  have F_followers : FunD (less K a) "followers" "followers" (defArgs s_followers) (defBody s_followers) (defScope s_followers) [] [] ((WdOf K).F 8) fd_followers := no.funD F0_followers
  obtain ⟨fd_ends_of, F0_ends_of⟩ := c.def_ 0 (d := d_ends_of) rfl
  have F_ends_of : FunD (less K a) "ends_of" "ends_of" (defArgs s_ends_of) (defBody s_ends_of) (defScope s_ends_of) [] [] ((WdOf K).F 0) fd_ends_of := no.funD F0_ends_of
  obtain ⟨fd_from_point, F0_from_point⟩ := c.def_ 10 (d := d_from_point) rfl
  have F_from_point : FunD (less K a) "from_point" "from_point" (defArgs s_from_point) (defBody s_from_point) (defScope s_from_point) [] [] ((WdOf K).F 10) fd_from_point := no.funD F0_from_point
  obtain ⟨fd__law_like, F0__law_like⟩ := c.def_ 15 (d := d__law_like) rfl
  have F__law_like : FunD (less K a) "_law_like" "_law_like" (defArgs s__law_like) (defBody s__law_like) (defScope s__law_like) [] [] ((WdOf K).F 15) fd__law_like := no.funD F0__law_like
  obtain ⟨fd_mate_of, F0_mate_of⟩ := c.def_ 7 (d := d_mate_of) rfl
  have F_mate_of : FunD (less K a) "mate_of" "mate_of" (defArgs s_mate_of) (defBody s_mate_of) (defScope s_mate_of) [] [] ((WdOf K).F 7) fd_mate_of := no.funD F0_mate_of
  obtain ⟨fd__law_hands_right, F0__law_hands_right⟩ := c.def_ 37 (d := d__law_hands_right) rfl
  have F__law_hands_right : FunD (less K a) "_law_hands_right" "_law_hands_right" (defArgs s__law_hands_right) (defBody s__law_hands_right) (defScope s__law_hands_right) [] [] ((WdOf K).F 37) fd__law_hands_right := no.funD F0__law_hands_right
  obtain ⟨fd__law_begun, F0__law_begun⟩ := c.def_ 12 (d := d__law_begun) rfl
  have F__law_begun : FunD (less K a) "_law_begun" "_law_begun" (defArgs s__law_begun) (defBody s__law_begun) (defScope s__law_begun) [] [] ((WdOf K).F 12) fd__law_begun := no.funD F0__law_begun
  obtain ⟨fd__law_draw, F0__law_draw⟩ := c.def_ 13 (d := d__law_draw) rfl
  have F__law_draw : FunD (less K a) "_law_draw" "_law_draw" (defArgs s__law_draw) (defBody s__law_draw) (defScope s__law_draw) [] [] ((WdOf K).F 13) fd__law_draw := no.funD F0__law_draw
  obtain ⟨fd__law_ends, F0__law_ends⟩ := c.def_ 17 (d := d__law_ends) rfl
  have F__law_ends : FunD (less K a) "_law_ends" "_law_ends" (defArgs s__law_ends) (defBody s__law_ends) (defScope s__law_ends) [] [] ((WdOf K).F 17) fd__law_ends := no.funD F0__law_ends
  obtain ⟨fd__law_may, F0__law_may⟩ := c.def_ 18 (d := d__law_may) rfl
  have F__law_may : FunD (less K a) "_law_may" "_law_may" (defArgs s__law_may) (defBody s__law_may) (defScope s__law_may) [] [] ((WdOf K).F 18) fd__law_may := no.funD F0__law_may
  obtain ⟨fd__law_after, F0__law_after⟩ := c.def_ 19 (d := d__law_after) rfl
  have F__law_after : FunD (less K a) "_law_after" "_law_after" (defArgs s__law_after) (defBody s__law_after) (defScope s__law_after) [] [] ((WdOf K).F 19) fd__law_after := no.funD F0__law_after
  obtain ⟨fd__law_next, F0__law_next⟩ := c.def_ 20 (d := d__law_next) rfl
  have F__law_next : FunD (less K a) "_law_next" "_law_next" (defArgs s__law_next) (defBody s__law_next) (defScope s__law_next) [] [] ((WdOf K).F 20) fd__law_next := no.funD F0__law_next
  obtain ⟨fd__law_round_arrow, F0__law_round_arrow⟩ := c.def_ 23 (d := d__law_round_arrow) rfl
  have F__law_round_arrow : FunD (less K a) "_law_round_arrow" "_law_round_arrow" (defArgs s__law_round_arrow) (defBody s__law_round_arrow) (defScope s__law_round_arrow) [] [] ((WdOf K).F 23) fd__law_round_arrow := no.funD F0__law_round_arrow
  obtain ⟨fd__law_without, F0__law_without⟩ := c.def_ 22 (d := d__law_without) rfl
  have F__law_without : FunD (less K a) "_law_without" "_law_without" (defArgs s__law_without) (defBody s__law_without) (defScope s__law_without) [] [] ((WdOf K).F 22) fd__law_without := no.funD F0__law_without
  obtain ⟨fd__law_ended, F0__law_ended⟩ := c.def_ 24 (d := d__law_ended) rfl
  have F__law_ended : FunD (less K a) "_law_ended" "_law_ended" (defArgs s__law_ended) (defBody s__law_ended) (defScope s__law_ended) [] [] ((WdOf K).F 24) fd__law_ended := no.funD F0__law_ended
  obtain ⟨fd__law_with_noughts, F0__law_with_noughts⟩ := c.def_ 25 (d := d__law_with_noughts) rfl
  have F__law_with_noughts : FunD (less K a) "_law_with_noughts" "_law_with_noughts" (defArgs s__law_with_noughts) (defBody s__law_with_noughts) (defScope s__law_with_noughts) [] [] ((WdOf K).F 25) fd__law_with_noughts := no.funD F0__law_with_noughts
  obtain ⟨fd__law_known_plan, F0__law_known_plan⟩ := c.def_ 27 (d := d__law_known_plan) rfl
  have F__law_known_plan : FunD (less K a) "_law_known_plan" "_law_known_plan" (defArgs s__law_known_plan) (defBody s__law_known_plan) (defScope s__law_known_plan) [] [] ((WdOf K).F 27) fd__law_known_plan := no.funD F0__law_known_plan
  obtain ⟨fd__law_free_plan, F0__law_free_plan⟩ := c.def_ 26 (d := d__law_free_plan) rfl
  have F__law_free_plan : FunD (less K a) "_law_free_plan" "_law_free_plan" (defArgs s__law_free_plan) (defBody s__law_free_plan) (defScope s__law_free_plan) [] [] ((WdOf K).F 26) fd__law_free_plan := no.funD F0__law_free_plan
  obtain ⟨fd__law_of, F0__law_of⟩ := c.def_ 14 (d := d__law_of) rfl
  have F__law_of : FunD (less K a) "_law_of" "_law_of" (defArgs s__law_of) (defBody s__law_of) (defScope s__law_of) [] [] ((WdOf K).F 14) fd__law_of := no.funD F0__law_of
  obtain ⟨fd__law_shuffled, F0__law_shuffled⟩ := c.def_ 16 (d := d__law_shuffled) rfl
  have F__law_shuffled : FunD (less K a) "_law_shuffled" "_law_shuffled" (defArgs s__law_shuffled) (defBody s__law_shuffled) (defScope s__law_shuffled) [] [] ((WdOf K).F 16) fd__law_shuffled := no.funD F0__law_shuffled
  obtain ⟨fd__law_renamed, F0__law_renamed⟩ := c.def_ 28 (d := d__law_renamed) rfl
  have F__law_renamed : FunD (less K a) "_law_renamed" "_law_renamed" (defArgs s__law_renamed) (defBody s__law_renamed) (defScope s__law_renamed) [] [] ((WdOf K).F 28) fd__law_renamed := no.funD F0__law_renamed
  obtain ⟨fd__law_plan, F0__law_plan⟩ := c.def_ 29 (d := d__law_plan) rfl
  have F__law_plan : FunD (less K a) "_law_plan" "_law_plan" (defArgs s__law_plan) (defBody s__law_plan) (defScope s__law_plan) [] [] ((WdOf K).F 29) fd__law_plan := no.funD F0__law_plan
  obtain ⟨fd_may_follow, F0_may_follow⟩ := c.def_ 9 (d := d_may_follow) rfl
  have F_may_follow : FunD (less K a) "may_follow" "may_follow" (defArgs s_may_follow) (defBody s_may_follow) (defScope s_may_follow) [] [] ((WdOf K).F 9) fd_may_follow := no.funD F0_may_follow
  obtain ⟨fd__law_letter_told, F0__law_letter_told⟩ := c.def_ 34 (d := d__law_letter_told) rfl
  have F__law_letter_told : FunD (less K a) "_law_letter_told" "_law_letter_told" (defArgs s__law_letter_told) (defBody s__law_letter_told) (defScope s__law_letter_told) [] [] ((WdOf K).F 34) fd__law_letter_told := no.funD F0__law_letter_told
  obtain ⟨fd__law_nil, F0__law_nil⟩ := c.def_ 21 (d := d__law_nil) rfl
  have F__law_nil : FunD (less K a) "_law_nil" "_law_nil" (defArgs s__law_nil) (defBody s__law_nil) (defScope s__law_nil) [] [] ((WdOf K).F 21) fd__law_nil := no.funD F0__law_nil
  obtain ⟨fd__law_first, F0__law_first⟩ := c.def_ 32 (d := d__law_first) rfl
  have F__law_first : FunD (less K a) "_law_first" "_law_first" (defArgs s__law_first) (defBody s__law_first) (defScope s__law_first) [] [] ((WdOf K).F 32) fd__law_first := no.funD F0__law_first
  obtain ⟨fd__law_arrow_told, F0__law_arrow_told⟩ := c.def_ 33 (d := d__law_arrow_told) rfl
  have F__law_arrow_told : FunD (less K a) "_law_arrow_told" "_law_arrow_told" (defArgs s__law_arrow_told) (defBody s__law_arrow_told) (defScope s__law_arrow_told) [] [] ((WdOf K).F 33) fd__law_arrow_told := no.funD F0__law_arrow_told
  obtain ⟨fd__law_begins, F0__law_begins⟩ := c.def_ 31 (d := d__law_begins) rfl
  have F__law_begins : FunD (less K a) "_law_begins" "_law_begins" (defArgs s__law_begins) (defBody s__law_begins) (defScope s__law_begins) [] [] ((WdOf K).F 31) fd__law_begins := no.funD F0__law_begins
  obtain ⟨fd__law_plan_told, F0__law_plan_told⟩ := c.def_ 35 (d := d__law_plan_told) rfl
  have F__law_plan_told : FunD (less K a) "_law_plan_told" "_law_plan_told" (defArgs s__law_plan_told) (defBody s__law_plan_told) (defScope s__law_plan_told) [] [] ((WdOf K).F 35) fd__law_plan_told := no.funD F0__law_plan_told
  obtain ⟨fd_turned_plan, F0_turned_plan⟩ := c.def_ 11 (d := d_turned_plan) rfl
  have F_turned_plan : FunD (less K a) "turned_plan" "turned_plan" (defArgs s_turned_plan) (defBody s_turned_plan) (defScope s_turned_plan) [] [] ((WdOf K).F 11) fd_turned_plan := no.funD F0_turned_plan
  obtain ⟨fd__law_turned_plan, F0__law_turned_plan⟩ := c.def_ 30 (d := d__law_turned_plan) rfl
  have F__law_turned_plan : FunD (less K a) "_law_turned_plan" "_law_turned_plan" (defArgs s__law_turned_plan) (defBody s__law_turned_plan) (defScope s__law_turned_plan) [] [] ((WdOf K).F 30) fd__law_turned_plan := no.funD F0__law_turned_plan
  obtain ⟨fd__law_turned_told, F0__law_turned_told⟩ := c.def_ 36 (d := d__law_turned_told) rfl
  have F__law_turned_told : FunD (less K a) "_law_turned_told" "_law_turned_told" (defArgs s__law_turned_told) (defBody s__law_turned_told) (defScope s__law_turned_told) [] [] ((WdOf K).F 36) fd__law_turned_told := no.funD F0__law_turned_told
  obtain ⟨fd_law, F0_law⟩ := c.def_ 38 (d := d_law) rfl
  have F_law : FunD (less K a) "law" "law" (defArgs s_law) (defBody s_law) (defScope s_law) [] [] ((WdOf K).F 38) fd_law := no.funD F0_law
  have e := hfa.symm.trans m_law
  cases e
  have b := FunD.bindsA (ps := ["_law_script"]) F_law fun _ _ _ _ _ _ us hl => match us, hl with | [_], _ => rfl
  refine ⟨fd_law, fun s v => b s [v] rfl, fun base => ?_⟩
  have c_next_of := ok_next_of (P := P) (w := w) (base := base) F_next_of m_next_of g_enumerate
  have c_nil_of := ok_nil_of (P := P) (w := w) (base := base) F_nil_of m_nil_of 
  have c_nil_ahead_of := ok_nil_ahead_of (P := P) (w := w) (base := base) F_nil_ahead_of m_nil_ahead_of 
  have c_other_ended := ok_other_ended (P := P) (w := w) (base := base) F_other_ended m_other_ended g_enumerate
  have c_other_begun := ok_other_begun (P := P) (w := w) (base := base) F_other_begun m_other_begun g_enumerate
  have c_ahead_of := ok_ahead_of (P := P) (w := w) (base := base) F_ahead_of m_ahead_of g_enumerate
  have c_followers := ok_followers (P := P) (w := w) (base := base) F_followers m_followers g_tuple c_next_of c_other_ended c_other_begun c_ahead_of
  have c_ends_of := ok_ends_of (P := P) (w := w) (base := base) F_ends_of m_ends_of 
  have c_from_point := ok_from_point (P := P) (w := w) (base := base) F_from_point m_from_point g_len g_range g_tuple c_ends_of
  have c__law_like := ok__law_like (P := P) (w := w) (base := base) F__law_like m__law_like g_repr
  have c_mate_of := ok_mate_of (P := P) (w := w) (base := base) F_mate_of m_mate_of c_other_begun c_other_ended
  have c__law_hands_right := ok__law_hands_right (P := P) (w := w) (base := base) F__law_hands_right m__law_hands_right c_next_of c_nil_of c_nil_ahead_of c_followers c_from_point c__law_like c_mate_of c_ends_of c_ahead_of
  have c__law_begun := ok__law_begun (P := P) (w := w) (base := base) F__law_begun m__law_begun g_int
  have c__law_draw := ok__law_draw (P := P) (w := w) (base := base) F__law_draw m__law_draw g_int g_len
  have c__law_ends := ok__law_ends (P := P) (w := w) (base := base) F__law_ends m__law_ends 
  have c__law_may := ok__law_may (P := P) (w := w) (base := base) F__law_may m__law_may c__law_ends
  have c__law_after := ok__law_after (P := P) (w := w) (base := base) F__law_after m__law_after g_len g_range c__law_may
  have c__law_next := ok__law_next (P := P) (w := w) (base := base) F__law_next m__law_next c__law_after
  have c__law_round_arrow := ok__law_round_arrow (P := P) (w := w) (base := base) F__law_round_arrow m__law_round_arrow g_len g_range c__law_next
  have c__law_without := ok__law_without (P := P) (w := w) (base := base) F__law_without m__law_without g_len g_range g_sorted g_tuple
  have c__law_ended := ok__law_ended (P := P) (w := w) (base := base) F__law_ended m__law_ended g_len g_range c__law_round_arrow c__law_without
  have c__law_with_noughts := ok__law_with_noughts (P := P) (w := w) (base := base) F__law_with_noughts m__law_with_noughts g_len g_range g_sorted g_tuple c__law_draw c__law_ended
  have c__law_known_plan := ok__law_known_plan (P := P) (w := w) (base := base) F__law_known_plan m__law_known_plan g_int g_range g_sorted g_tuple c__law_draw c__law_with_noughts
  have c__law_free_plan := ok__law_free_plan (P := P) (w := w) (base := base) F__law_free_plan m__law_free_plan g_int g_len g_range c__law_draw c__law_with_noughts
  have c__law_of := ok__law_of (P := P) (w := w) (base := base) F__law_of m__law_of g_len c__law_draw
  have c__law_shuffled := ok__law_shuffled (P := P) (w := w) (base := base) F__law_shuffled m__law_shuffled g_list g_range g_tuple c__law_of
  have c__law_renamed := ok__law_renamed (P := P) (w := w) (base := base) F__law_renamed m__law_renamed g_len g_range g_sorted g_tuple
  have c__law_plan := ok__law_plan (P := P) (w := w) (base := base) F__law_plan m__law_plan g_len c__law_draw c__law_known_plan c__law_free_plan c__law_shuffled c__law_renamed
  have c_may_follow := ok_may_follow (P := P) (w := w) (base := base) F_may_follow m_may_follow c_followers
  have c__law_letter_told := ok__law_letter_told (P := P) (w := w) (base := base) F__law_letter_told m__law_letter_told g_len g_range g_tuple c_ends_of c__law_ends c__law_like c__law_after c_followers c_may_follow
  have c__law_nil := ok__law_nil (P := P) (w := w) (base := base) F__law_nil m__law_nil 
  have c__law_first := ok__law_first (P := P) (w := w) (base := base) F__law_first m__law_first g_len
  have c__law_arrow_told := ok__law_arrow_told (P := P) (w := w) (base := base) F__law_arrow_told m__law_arrow_told g_len g_list g_range c__law_next c__law_nil c_next_of c_nil_of c__law_like c__law_first c_ahead_of c_nil_ahead_of c_mate_of
  have c__law_begins := ok__law_begins (P := P) (w := w) (base := base) F__law_begins m__law_begins g_len g_range c__law_ends
  have c__law_plan_told := ok__law_plan_told (P := P) (w := w) (base := base) F__law_plan_told m__law_plan_told g_len g_range g_tuple c__law_letter_told c__law_arrow_told c_from_point c__law_begins c__law_like
  have c_turned_plan := ok_turned_plan (P := P) (w := w) (base := base) F_turned_plan m_turned_plan g_sorted g_tuple
  have c__law_turned_plan := ok__law_turned_plan (P := P) (w := w) (base := base) F__law_turned_plan m__law_turned_plan g_sorted g_tuple
  have c__law_turned_told := ok__law_turned_told (P := P) (w := w) (base := base) F__law_turned_told m__law_turned_told g_len g_range c_turned_plan c__law_turned_plan c__law_like c_next_of c_ahead_of c_nil_ahead_of c_nil_of c__law_plan_told
  exact okG_law (P := P) (w := w) (base := base) F_law g_len g_max g_min g_range c__law_hands_right c__law_begun c__law_plan c__law_plan_told c__law_turned_told c__law_shuffled c__law_renamed
theorem law_sp {K : PySem.W.Frag} {a : Addr} {H : Hp} {ns : List Int} (hn : ns.length ≤ 63) (hr : Rd H a (.lst (ns.map V.int))) : spD (WdOf K) 1 f_law [.ref a] H (fun v _ => v = .bl true) fun _ _ _ => False := by
  have rs : ∀ l : List Int, Reps (WdOf K) ⟨fun _ => False, []⟩ H (zs l) (l.map V.int) := by
    intro l
    induction l with
    | nil => exact .nil
    | cons i l ih => exact .cons (.int i) ih
  obtain ⟨st, e⟩ := law_true ns hn
  refine ⟨rfl, ⟨fun _ => False, []⟩, [.lst (zs ns)], [], ⟨rfl, List.nodup_nil, fun a m => (nomatch m), fun n c a m => by simp at m⟩, .cons (.lst hr (fun z => z) (rs ns)) .nil, ?_⟩
  rw [e]
  intro M' v H' _ _ r
  cases r
  rfl
end
end FK
open PySem PySem.W PySem.Calls PyProof.Rows
theorem PySem.Challenge.cw_stringrooms_k01_whole_letters_of_plans_holds : PySem.Challenge.rw_stringrooms_k01_whole_letters_of_plans.Holds := by
  w_on; o_law
  refine HandSHeadRun.head_any (r := OpenLaw.row PySem.Challenge.rw_stringrooms_k01_whole_letters_of_plans) (q := view (OpenLaw.row PySem.Challenge.rw_stringrooms_k01_whole_letters_of_plans).prog [40]) (H := HeadK.hk) (ob := HeadK.ob) (M := 4000) (loose := HeadK.loose) (d := HandSHeadRun.topDef (OpenLaw.row PySem.Challenge.rw_stringrooms_k01_whole_letters_of_plans).prog 40) (kwd := []) HeadK.ob_eq
    (by kernel_rfl) (fun s => by kernel_rfl) HeadK.run (by kernel_rfl) (by kernel_rfl) (by kernel_rfl) (by rfl) (by first | assumption | decide +kernel) (by decide +kernel) ⟨rfl, rfl, rfl, rfl, rfl, by decide +kernel⟩ ?hw ?hc
  case hw => w_witness2
  case hc =>
    refine DL.gwalk2 (l := PySem.Challenge.rw_stringrooms_k01_whole_letters_of_plans) (n := 63) (k := 10) (x := "_law_script") (T := fun w => L2.CX PySem.Challenge.rw_stringrooms_k01_whole_letters_of_plans.prog w) rfl (by decide) (by kernel_rfl) ⟨rfl, by decide, by decide⟩ ?F (fun _ _ _ _ _ t => DL.noCX t)
    intro w mg fa a h us Y G hmg0 hobj
    obtain ⟨K, KX, c⟩ := Y
    have hmg : mg ("law" : PySem.Str) = some (.ref fa) := by
      have e : (HandSHeadRun.topDef (OpenLaw.row PySem.Challenge.rw_stringrooms_k01_whole_letters_of_plans).prog 40).name = ("law" : PySem.Str) := by kernel_rfl
      rw [← e]
      exact hmg0
    have no : DL.NoFn K a := fun o lo => by
      have e := KX a o lo
      rw [hobj] at e
      cases e
      exact ⟨_, _, rfl⟩
    obtain ⟨fd, hb, hF⟩ := FK.facts (P := (PySem.Challenge.rw_stringrooms_k01_whole_letters_of_plans).prog) (w := w) KX G hmg c no
    exact ⟨DL.less K a, fd, DL.spD (FK.WdOf K) 1 FK.f_law, DL.less_at K a, DL.less_in KX, hb, fun H ns hl _ hr => FK.law_sp hl hr, fun base _ _ => hF base⟩

