import PyProof.Rows.All
import HandS.ForMost
import HandS.WordsExc
import HandS.Zip
import KE.SortData
import KE.DataEq
import KE.DataCmp
import KE.DataMinMax
import KE.DataFind
import HandS.HeadEnd
import HandS.TupMul
import HandS.Conv
import HandS.Rev
import KE.KRevSl
import HandS.SortKw
import PyProof.StrLawsRepr
import PyProof.ReprRoads
import HandS.RaiseMore
import HandS.Defaults
import HandS.Iter
import KE.GoesEnum
import HandS.Dict
import HandS.List
import Wide.All
import OpenK.AllK
import Wide.FinOn
import KE.KStateDown
import HandS.More
import HandS.Head0
import HandS.Head1
import HandS.Head2
import HandS.HeadHook1
import HandS.HeadHook2
import PySem.Challenge.RW_stringrooms_k39_whole_known_roads
set_option Elab.async false
set_option linter.all false
set_option maxRecDepth 100000
/-! DL0: data D, stores, results, the representation of data in the abstract heap. -/
namespace DL
open PySem PySem.Spec PyProof.Rows L2

/-- data: immutable trees; ref n: the n-th cell of the store; fn n: a def -/
inductive D where
  | non | bl (b : Bool) | int (i : Int) | str (x : PySem.Str)
  | tup (xs : List D) | lst (xs : List D)
  | ref (n : Nat) | fn (n : Nat)

inductive Cell where
  | lst (xs : List D)
  | dct (kvs : List (L2.Key × D))
abbrev Store := List Cell
abbrev Ent := List (Option D)

inductive R (α : Type) where
  | ok (a : α) (st : Store)
  | ex (c : Nat) (xs : List D) (st : Store)
  | no
def R.bind {α β : Type} (r : R α) (k : α → Store → R β) : R β :=
  match r with
  | .ok a st => k a st
  | .ex c xs st => .ex c xs st
  | .no => .no
def R.ofO {α : Type} (o : Option α) (st : Store) : R α :=
  match o with
  | some a => .ok a st
  | none => .no
@[simp] theorem R.bind_ok {α β : Type} (a : α) (st : Store) (k : α → Store → R β) : (R.ok a st).bind k = k a st := rfl
@[simp] theorem R.bind_no {α β : Type} (k : α → Store → R β) : (R.no).bind k = .no := rfl
@[simp] theorem R.ofO_some {α : Type} (a : α) (st : Store) : R.ofO (some a) st = .ok a st := rfl
@[simp] theorem R.ofO_none {α : Type} (st : Store) : R.ofO (none : Option α) st = .no := rfl

/-- mu: which addresses may be written by someone; rho: the cells' addresses -/
structure MW where
  mu : Addr → Prop
  rho : List Addr
structure Wd where
  F : Nat → Addr
  XR : MW → Hp → Nat → List D → Value → Option Addr → Prop

mutual
inductive Rep (W : Wd) (M : MW) (H : Hp) : D → V → Prop
  | non : Rep W M H .non .non
  | bl (b : Bool) : Rep W M H (.bl b) (.bl b)
  | int (i : Int) : Rep W M H (.int i) (.int i)
  | str (x : PySem.Str) : Rep W M H (.str x) (.str x)
  | tup {a : Addr} {vs : List V} {ds : List D} (h : H a = some (.tup vs)) (r : Reps W M H ds vs) : Rep W M H (.tup ds) (.ref a)
  | lst {a : Addr} {vs : List V} {ds : List D} (h : Rd H a (.lst vs)) (m : ¬ M.mu a) (r : Reps W M H ds vs) : Rep W M H (.lst ds) (.ref a)
  | ref {n : Nat} {a : Addr} (h : M.rho[n]? = some a) : Rep W M H (.ref n) (.ref a)
  | fn (n : Nat) : Rep W M H (.fn n) (.ref (W.F n))
inductive Reps (W : Wd) (M : MW) (H : Hp) : List D → List V → Prop
  | nil : Reps W M H [] []
  | cons {d : D} {v : V} {ds : List D} {vs : List V} (h : Rep W M H d v) (r : Reps W M H ds vs) : Reps W M H (d :: ds) (v :: vs)
end

/-- from one state to a later one -/
structure Stp (M : MW) (H : Hp) (M' : MW) (H' : Hp) : Prop where
  keep : ∀ a o, H a = some o → (a ∉ M.rho ∨ ¬ M.mu a ∨ ¬ Mut (some o)) → H' a = some o
  pre : ∃ more, M'.rho = M.rho ++ more
  fresh : ∀ a, a ∈ M'.rho → a ∈ M.rho ∨ H a = none
  mu : ∀ a o, H a = some o → (M'.mu a ↔ M.mu a)
  there : ∀ a o, H a = some o → ∃ o', H' a = some o'

theorem Stp.refl {M : MW} {H : Hp} : Stp M H M H := ⟨fun _ _ h _ => h, ⟨[], by simp⟩, fun _ h => .inl h, fun _ _ _ => Iff.rfl, fun _ _ h => ⟨_, h⟩⟩
theorem Stp.none {M M' : MW} {H H' : Hp} (s : Stp M H M' H') {a : Addr} (h : H' a = none) : H a = none := by
  cases e : H a with
  | none => rfl
  | some o => obtain ⟨o', e'⟩ := s.there a o e; rw [h] at e'; cases e'
theorem Stp.trans {M M1 M2 : MW} {H H1 H2 : Hp} (s : Stp M H M1 H1) (t : Stp M1 H1 M2 H2) : Stp M H M2 H2 := by
  refine ⟨fun a o h c => ?_, ?_, fun a h => ?_, fun a o h => ?_, fun a o h => ?_⟩
  · have h1 := s.keep a o h c
    refine t.keep a o h1 ?_
    rcases c with c | c | c
    · by_cases q : a ∈ M1.rho
      · rcases s.fresh a q with z | z
        · exact absurd z c
        · rw [h] at z; cases z
      · exact .inl q
    · exact .inr (.inl fun z => c ((s.mu a o h).mp z))
    · exact .inr (.inr c)
  · obtain ⟨m1, e1⟩ := s.pre
    obtain ⟨m2, e2⟩ := t.pre
    exact ⟨m1 ++ m2, by rw [e2, e1, List.append_assoc]⟩
  · rcases t.fresh a h with z | z
    · exact s.fresh a z
    · exact .inr (s.none z)
  · obtain ⟨o1, h1⟩ := s.there a o h
    exact (t.mu a o1 h1).trans (s.mu a o h)
  · obtain ⟨o1, h1⟩ := s.there a o h
    exact t.there a o1 h1

theorem notMutTup {vs : List V} : ¬ Mut (some (HO.tup vs)) := fun z => z
theorem notMutFrz {o : Obj} {u : HO} : ¬ Mut (some (HO.frz o u)) := fun z => z
theorem Stp.rd {M M' : MW} {H H' : Hp} (s : Stp M H M' H') {a : Addr} {u : HO} (h : Rd H a u) (m : ¬ M.mu a) : Rd H' a u := by
  rcases h with h | ⟨o, h⟩
  · exact .inl (s.keep a _ h (.inr (.inl m)))
  · exact .inr ⟨o, s.keep a _ h (.inr (.inl m))⟩
theorem Rd.some {H : Hp} {a : Addr} {u : HO} (h : Rd H a u) : ∃ o, H a = some o := by
  rcases h with h | ⟨o, h⟩
  · exact ⟨_, h⟩
  · exact ⟨_, h⟩
section
variable {W : Wd} {M M' : MW} {H H' : Hp}
mutual
theorem Rep.mono (s : Stp M H M' H') : ∀ {d : D} {v : V}, Rep W M H d v → Rep W M' H' d v
  | _, _, .non => .non
  | _, _, .bl b => .bl b
  | _, _, .int b => .int b
  | _, _, .str b => .str b
  | _, _, .tup h r => .tup (s.keep _ _ h (.inr (.inr notMutTup))) (Reps.mono s r)
  | _, _, .lst h m r => .lst (s.rd h m) (by
      obtain ⟨o, e⟩ := Rd.some h
      exact fun z => m ((s.mu _ o e).mp z)) (Reps.mono s r)
  | _, _, .ref h => .ref (by
      obtain ⟨more, e⟩ := s.pre
      rw [e, List.getElem?_append_left (List.getElem?_eq_some_iff.mp h).1]
      exact h)
  | _, _, .fn n => .fn n
theorem Reps.mono (s : Stp M H M' H') : ∀ {ds : List D} {vs : List V}, Reps W M H ds vs → Reps W M' H' ds vs
  | _, _, .nil => .nil
  | _, _, .cons h r => .cons (Rep.mono s h) (Reps.mono s r)
end
theorem Reps.length : ∀ {ds : List D} {vs : List V}, Reps W M H ds vs → ds.length = vs.length
  | _, _, .nil => rfl
  | _, _, .cons _ r => by rw [List.length_cons, List.length_cons, Reps.length r]
theorem Reps.get : ∀ {ds : List D} {vs : List V} {i : Nat} {d : D}, Reps W M H ds vs → ds[i]? = some d → ∃ v, vs[i]? = some v ∧ Rep W M H d v
  | _, _, _, _, .nil, e => by simp at e
  | _, _, 0, _, .cons h _, e => by simp at e; subst e; exact ⟨_, rfl, h⟩
  | _, _, i + 1, _, .cons _ r, e => by
    obtain ⟨v, h1, h2⟩ := Reps.get (i := i) r (by simpa using e)
    exact ⟨v, by simpa using h1, h2⟩
theorem Reps.getV : ∀ {ds : List D} {vs : List V} {i : Nat} {v : V}, Reps W M H ds vs → vs[i]? = some v → ∃ d, ds[i]? = some d ∧ Rep W M H d v
  | _, _, _, _, .nil, e => by simp at e
  | _, _, 0, _, .cons h _, e => by simp at e; subst e; exact ⟨_, rfl, h⟩
  | _, _, i + 1, _, .cons _ r, e => by
    obtain ⟨v, h1, h2⟩ := Reps.getV (i := i) r (by simpa using e)
    exact ⟨v, by simpa using h1, h2⟩
theorem Reps.append : ∀ {ds es : List D} {vs ws : List V}, Reps W M H ds vs → Reps W M H es ws → Reps W M H (ds ++ es) (vs ++ ws)
  | _, _, _, _, .nil, s => s
  | _, _, _, _, .cons h r, s => .cons h (Reps.append r s)
theorem Reps.take : ∀ {ds : List D} {vs : List V} (n : Nat), Reps W M H ds vs → Reps W M H (ds.take n) (vs.take n)
  | _, _, 0, _ => .nil
  | _, _, _ + 1, .nil => .nil
  | _, _, n + 1, .cons h r => .cons h (Reps.take n r)
theorem Reps.drop : ∀ {ds : List D} {vs : List V} (n : Nat), Reps W M H ds vs → Reps W M H (ds.drop n) (vs.drop n)
  | _, _, 0, r => r
  | _, _, _ + 1, .nil => .nil
  | _, _, n + 1, .cons _ r => Reps.drop n r
theorem Reps.set {d : D} {v : V} (h : Rep W M H d v) : ∀ {ds : List D} {vs : List V} (i : Nat), Reps W M H ds vs → Reps W M H (ds.set i d) (vs.set i v)
  | _, _, _, .nil => .nil
  | _, _, 0, .cons _ r => .cons h r
  | _, _, i + 1, .cons q r => .cons q (Reps.set h i r)
theorem Reps.reverse {ds : List D} {vs : List V} (r : Reps W M H ds vs) : Reps W M H ds.reverse vs.reverse := by
  induction ds generalizing vs with
  | nil => cases r; exact .nil
  | cons d ds ih =>
    cases r with
    | cons h r =>
      rw [List.reverse_cons, List.reverse_cons]
      exact (ih r).append (.cons h .nil)
theorem Reps.dropLast {ds : List D} {vs : List V} (r : Reps W M H ds vs) : Reps W M H ds.dropLast vs.dropLast := by
  rw [List.dropLast_eq_take, List.dropLast_eq_take, r.length]
  exact r.take _
end

/-- a cell's content -/
inductive CellOk (W : Wd) (M : MW) (H : Hp) : Cell → Addr → Prop
  | lst {a : Addr} {ds : List D} {vs : List V} (h : H a = some (.lst vs)) (r : Reps W M H ds vs) : CellOk W M H (.lst ds) a
  | dct {a : Addr} {kds : List (L2.Key × D)} {kvs : List (L2.Key × V)} (h : H a = some (.dK kvs)) (k : kds.map (·.1) = kvs.map (·.1)) (r : Reps W M H (kds.map (·.2)) (kvs.map (·.2))) : CellOk W M H (.dct kds) a

structure SimS (W : Wd) (M : MW) (H : Hp) (st : Store) : Prop where
  len : M.rho.length = st.length
  nd : M.rho.Nodup
  mu : ∀ a, a ∈ M.rho → M.mu a
  cell : ∀ (n : Nat) (c : Cell) (a : Addr), st[n]? = some c → M.rho[n]? = some a → CellOk W M H c a
structure Sim (W : Wd) (M : MW) (σ : L2.St) (H : Hp) (env : Ent) (st : Store) : Prop where
  s : SimS W M H st
  len : env.length = σ.length
  var : ∀ (i : Nat) (d : D), env[i]? = some (some d) → ∃ v, σ[i]? = some (some v) ∧ Rep W M H d v

section
variable {W : Wd} {M M' : MW} {H H' : Hp} {σ : L2.St} {env : Ent} {st : Store}
theorem Sim.step (S : Sim W M σ H env st) (T : Stp M H M' H') {st' : Store} (S' : SimS W M' H' st') : Sim W M' σ H' env st' :=
  ⟨S', S.len, fun i d e => let ⟨v, h, r⟩ := S.var i d e; ⟨v, h, r.mono T⟩⟩
theorem Sim.set (S : Sim W M σ H env st) {i : Nat} {d : D} {v : V} (r : Rep W M H d v) : Sim W M (σ.set i (some v)) H (env.set i (some d)) st := by
  refine ⟨S.s, by simpa using S.len, fun j e h => ?_⟩
  by_cases hj : i = j
  · subst hj
    by_cases hl : i < env.length
    · rw [List.getElem?_set_self hl] at h
      cases h
      exact ⟨v, by rw [List.getElem?_set_self (by rw [← S.len]; exact hl)], r⟩
    · rw [List.getElem?_eq_none (by simpa using hl)] at h; cases h
  · rw [List.getElem?_set_ne hj] at h
    obtain ⟨w, h1, h2⟩ := S.var j e h
    exact ⟨w, by rw [List.getElem?_set_ne hj]; exact h1, h2⟩
theorem Sim.lt (S : Sim W M σ H env st) {i : Nat} (h : i < env.length) : i < σ.length := by rw [← S.len]; exact h
end

/-- what a result wants -/
def Fin {α β : Type} (W : Wd) (E : XK) (rel : MW → Hp → α → β → Prop) (σ : L2.St) (env : Ent) (r : R α) (M : MW) (H : Hp) (Q : β → Hp → Prop) : Prop :=
  match r with
  | .ok a st' => ∀ (M' : MW) (b : β) (H' : Hp), Stp M H M' H' → Sim W M' σ H' env st' → rel M' H' a b → Q b H'
  | .ex c xs st' => ∀ (M' : MW) (H' : Hp) (cls : Value) (dx : Option Addr), Stp M H M' H' → SimS W M' H' st' → W.XR M' H' c xs cls dx → E cls dx H'
  | .no => False
def Lift {α β : Type} (W : Wd) (E : XK) (rel : MW → Hp → α → β → Prop) (f : Ent → Store → R α) : L2.St → Hp → (β → Hp → Prop) → Prop :=
  fun σ H Q => ∃ (M : MW) (env : Ent) (st : Store), Sim W M σ H env st ∧ Fin W E rel σ env (f env st) M H Q
abbrev relD (W : Wd) : MW → Hp → D → V → Prop := fun M H d v => Rep W M H d v
abbrev relDs (W : Wd) : MW → Hp → List D → List V → Prop := fun M H d v => Reps W M H d v
abbrev relB : MW → Hp → Bool → Bool → Prop := fun _ _ a b => a = b
abbrev Ev := Ent → Store → R D
abbrev EvB := Ent → Store → R Bool
abbrev EvL := Ent → Store → R (List D)
abbrev lE (W : Wd) (E : XK) (f : Ev) : TE := Lift W E (relD W) f
abbrev lT (W : Wd) (E : XK) (f : EvB) : TT := Lift W E relB f
abbrev lA (W : Wd) (E : XK) (f : EvL) : TA := Lift W E (relDs W) f

theorem Fin.step {α β : Type} {W : Wd} {E : XK} {rel : MW → Hp → α → β → Prop} {σ : L2.St} {env : Ent} {r : R α} {M M1 : MW} {H H1 : Hp} {Q : β → Hp → Prop} (s : Stp M H M1 H1) (h : Fin W E rel σ env r M H Q) : Fin W E rel σ env r M1 H1 Q := by
  cases r with
  | ok a st' => exact fun M' b H' t => h M' b H' (s.trans t)
  | ex c xs st' => exact fun M' H' cls dx t => h M' H' cls dx (s.trans t)
  | no => exact h
theorem Fin.bind {α β γ δ : Type} {W : Wd} {E : XK} {rel : MW → Hp → α → β → Prop} {rel2 : MW → Hp → γ → δ → Prop} {σ : L2.St} {env : Ent} {r : R α} {k : α → Store → R γ} {M : MW} {H : Hp} {Q : β → Hp → Prop} {Q2 : δ → Hp → Prop}
    (h : Fin W E rel2 σ env (r.bind k) M H Q2)
    (hk : ∀ a st' M' b H', Stp M H M' H' → Sim W M' σ H' env st' → rel M' H' a b → Fin W E rel2 σ env (k a st') M' H' Q2 → Q b H') : Fin W E rel σ env r M H Q := by
  cases r with
  | ok a st' => exact fun M' b H' t S r => hk a st' M' b H' t S r (Fin.step t h)
  | ex c xs st' => exact h
  | no => exact h
theorem PEmono {X : Cx} {e : Expr} {t t' : TE} (h : PE X e t) (m : ∀ σ H Q, t' σ H Q → t σ H Q) : PE X e t' := ⟨fun pins s σ H Q I q => h.run pins s σ H Q I (m σ H Q q)⟩
theorem PTmono {X : Cx} {e : Expr} {t t' : TT} (h : PT X e t) (m : ∀ σ H Q, t' σ H Q → t σ H Q) : PT X e t' := ⟨fun pins s σ H Q I q => h.run pins s σ H Q I (m σ H Q q)⟩
theorem PWmono {X : Cx} {e : Expr} {t t' : TT} (h : PW X e t) (m : ∀ σ H Q, t' σ H Q → t σ H Q) : PW X e t' := ⟨fun wh pins s σ H Q I q => h.run wh pins s σ H Q I (m σ H Q q)⟩
theorem PAmono {X : Cx} {e : List Expr} {t t' : TA} (h : PA X e t) (m : ∀ σ H Q, t' σ H Q → t σ H Q) : PA X e t' := ⟨fun p pins s σ H Q I q => h.run p pins s σ H Q I (m σ H Q q)⟩
theorem PSmono {X : Cx} {e : Stmt} {t t' : TS} (h : PS X e t) (m : ∀ D σ H, t' D σ H → t D σ H) : PS X e t' := ⟨fun pins s σ H D I q => h.run pins s σ H D I (m D σ H q)⟩
theorem PSsmono {X : Cx} {e : List Stmt} {t t' : TS} (h : PSs X e t) (m : ∀ D σ H, t' D σ H → t D σ H) : PSs X e t' := ⟨fun pins s σ H D I q => h.run pins s σ H D I (m D σ H q)⟩
end DL

set_option Elab.async false
set_option linter.all false
set_option maxRecDepth 100000
/-! DL1: expressions. -/
namespace DL
open PySem PySem.Spec PyProof.Rows L2

def DE (X : Cx) (W : Wd) (E : XK) (e : Expr) (f : Ev) : Prop := PE X e (lE W E f)
def DT (X : Cx) (W : Wd) (E : XK) (e : Expr) (f : EvB) : Prop := PT X e (lT W E f)
def DW (X : Cx) (W : Wd) (E : XK) (e : Expr) (f : EvB) : Prop := PW X e (lT W E f)
def DA (X : Cx) (W : Wd) (E : XK) (es : List Expr) (f : EvL) : Prop := PA X es (lA W E f)

section
variable {W : Wd} {M M' : MW} {H H' : Hp} {σ : L2.St} {env : Ent} {st : Store} {E : XK}
/-- the heap grows -/
theorem Stp.grow (k : ∀ a o, H a = some o → H' a = some o) : Stp M H M H' :=
  ⟨fun a o h _ => k a o h, ⟨[], by simp⟩, fun a h => .inl h, fun _ _ _ => Iff.rfl, fun a o h => ⟨o, k a o h⟩⟩
theorem SimS.here (S : SimS W M H st) {a : Addr} (h : a ∈ M.rho) : ∃ o, H a = some o := by
  obtain ⟨n, hn, e⟩ := List.mem_iff_getElem.mp h
  have hs : n < st.length := by rw [← S.len]; exact hn
  have c := S.cell n st[n] a (List.getElem?_eq_getElem hs) (by rw [List.getElem?_eq_getElem hn, e])
  generalize st[n] = q at c
  cases c with
  | lst h _ => exact ⟨_, h⟩
  | dct h _ _ => exact ⟨_, h⟩
theorem CellOk.mono (T : Stp M H M' H') (k : ∀ o, H a = some o → H' a = some o) {c : Cell} (h : CellOk W M H c a) : CellOk W M' H' c a := by
  cases h with
  | lst h r => exact .lst (k _ h) (r.mono T)
  | dct h e r => exact .dct (k _ h) e (r.mono T)
theorem SimS.grow (S : SimS W M H st) (k : ∀ a o, H a = some o → H' a = some o) : SimS W M H' st :=
  ⟨S.len, S.nd, S.mu, fun n c a e1 e2 => (S.cell n c a e1 e2).mono (Stp.grow k) (k a)⟩
theorem updNew {p : Addr} {o : HO} (hp : H p = none) : ∀ a u, H a = some u → upd H p o a = some u := fun a u h => by
  rw [upd_ne (ne_of_none h hp)]; exact h
/-- a new object that nobody writes -/
theorem frozen (S : SimS W M H st) {p : Addr} {o : HO} (hp : H p = none) :
    Stp M H ⟨fun a => M.mu a ∧ a ≠ p, M.rho⟩ (upd H p o) ∧ SimS W ⟨fun a => M.mu a ∧ a ≠ p, M.rho⟩ (upd H p o) st := by
  have T : Stp M H ⟨fun a => M.mu a ∧ a ≠ p, M.rho⟩ (upd H p o) :=
    ⟨fun a u h _ => updNew hp a u h, ⟨[], by simp⟩, fun a h => .inl h, fun a u h => ⟨fun z => z.1, fun z => ⟨z, ne_of_none h hp⟩⟩, fun a u h => ⟨u, updNew hp a u h⟩⟩
  refine ⟨T, S.len, S.nd, fun a h => ⟨S.mu a h, ?_⟩, fun n c a e1 e2 => (S.cell n c a e1 e2).mono T (updNew hp a)⟩
  obtain ⟨u, e⟩ := S.here h
  exact ne_of_none e hp
/-- a new cell -/
theorem celled (S : SimS W M H st) {p : Addr} {o : HO} (hp : H p = none) {c : Cell} (ok : ∀ M', Stp M H M' (upd H p o) → CellOk W M' (upd H p o) c p) :
    Stp M H ⟨fun a => M.mu a ∨ a = p, M.rho ++ [p]⟩ (upd H p o) ∧ SimS W ⟨fun a => M.mu a ∨ a = p, M.rho ++ [p]⟩ (upd H p o) (st ++ [c]) := by
  have T : Stp M H ⟨fun a => M.mu a ∨ a = p, M.rho ++ [p]⟩ (upd H p o) :=
    ⟨fun a u h _ => updNew hp a u h, ⟨[p], rfl⟩, fun a h => by
      rcases List.mem_append.mp h with z | z
      · exact .inl z
      · rw [List.mem_singleton.mp z]; exact .inr hp, fun a u h => ⟨fun z => z.elim id fun e => absurd e (ne_of_none h hp), .inl⟩, fun a u h => ⟨u, updNew hp a u h⟩⟩
  have np : p ∉ M.rho := fun z => by
    obtain ⟨u, e⟩ := S.here z
    rw [hp] at e; cases e
  refine ⟨T, by simp [S.len], ?_, fun a h => ?_, fun n d a e1 e2 => ?_⟩
  · rw [List.nodup_append]
    exact ⟨S.nd, by simp, fun a h b hb => by rw [List.mem_singleton.mp hb]; rintro rfl; exact np h⟩
  · rcases List.mem_append.mp h with z | z
    · exact .inl (S.mu a z)
    · exact .inr (List.mem_singleton.mp z)
  · have e2 : (M.rho ++ [p])[n]? = some a := e2
    by_cases hn : n < st.length
    · rw [List.getElem?_append_left hn] at e1
      rw [List.getElem?_append_left (by rw [S.len]; exact hn)] at e2
      exact (S.cell n d a e1 e2).mono T (updNew hp a)
    · have hn' : n = st.length := by
        have := (List.getElem?_eq_some_iff.mp e1).1
        rw [List.length_append, List.length_singleton] at this
        omega
      subst hn'
      rw [List.getElem?_append_right (Nat.le_refl _)] at e1
      rw [← S.len, List.getElem?_append_right (Nat.le_refl _)] at e2
      simp at e1 e2
      subst e1 e2
      exact ok _ T
/-- a cell is written -/
theorem written (S : SimS W M H st) {n : Nat} {p : Addr} {o : HO} (hn : M.rho[n]? = some p) {c : Cell} (hmu : Mut (H p)) (hmo : Mut (some o)) (ok : Stp M H M (upd H p o) → CellOk W M (upd H p o) c p) :
    Stp M H M (upd H p o) ∧ SimS W M (upd H p o) (st.set n c) := by
  have hm : p ∈ M.rho := List.mem_of_getElem? hn
  have T : Stp M H M (upd H p o) := by
    refine ⟨fun a u h q => ?_, ⟨[], by simp⟩, fun a h => .inl h, fun _ _ _ => Iff.rfl, fun a u h => ?_⟩
    · have : a ≠ p := by
        rintro rfl
        rcases q with q | q | q
        · exact q hm
        · exact q (S.mu a hm)
        · rw [h] at hmu; exact q hmu
      rw [upd_ne this]; exact h
    · by_cases e : a = p
      · subst e; exact ⟨o, upd_same⟩
      · exact ⟨u, by rw [upd_ne e]; exact h⟩
  refine ⟨T, by simpa using S.len, S.nd, S.mu, fun k d a e1 e2 => ?_⟩
  by_cases hk : n = k
  · subst hk
    rw [hn] at e2
    cases e2
    have hl : n < st.length := by
      rw [← S.len]
      exact (List.getElem?_eq_some_iff.mp hn).1
    rw [List.getElem?_set_self hl] at e1
    cases e1
    exact ok T
  · rw [List.getElem?_set_ne hk] at e1
    have ne : a ≠ p := by
      rintro rfl
      have h1 := List.getElem?_eq_some_iff.mp hn
      have h2 := List.getElem?_eq_some_iff.mp e2
      obtain ⟨l1, g1⟩ := h1
      obtain ⟨l2, g2⟩ := h2
      exact hk ((List.getElem_inj S.nd).mp (g1.trans g2.symm))
    exact (S.cell k d a e1 e2).mono T fun u h => by rw [upd_ne ne]; exact h
end

/-! ### variables, constants -/
def eVar (i : Nat) : Ev := fun env st => match env[i]? with
  | some (some d) => .ok d st
  | _ => .no
def eC (d : D) : Ev := fun _ st => .ok d st
section
variable {X : Cx} {W : Wd} {E : XK}
theorem de_var {i : Nat} {x : PySem.Str} {pos : Pos} (hN : X.N[i]? = some x := by rfl) (hv : Vis X.env.scope x := by first | exact Or.inl rfl | exact Or.inr (Or.inl rfl) | exact Or.inr (Or.inr rfl)) (hd : (x == ("__debug__" : PySem.Str)) = false := by decide)
    (hcd : (x == ("__classdict__" : PySem.Str)) = false := by decide) : DE X W E (.Name x pos) (eVar i) := by
  refine PEmono (pe_var hN hv hd hcd) fun σ H Q h => ?_
  obtain ⟨M, env, st, S, h⟩ := h
  unfold eVar at h
  split at h
  · rename_i d e
    obtain ⟨v, e1, r⟩ := S.var i d e
    exact ⟨v, e1, h M v H .refl S r⟩
  · exact h.elim
theorem de_const {e : Expr} {v : V} {d : D} (h : PE X e (tC v)) (r : ∀ M H, Rep W M H d v) : DE X W E e (eC d) :=
  PEmono h fun σ H Q ⟨M, env, st, S, q⟩ => q M v H .refl S (r M H)
theorem de_int {i j pos} : DE X W E (.Constant (.int i) j pos) (eC (.int i)) := de_const pe_int fun _ _ => .int i
theorem de_bl {b j pos} : DE X W E (.Constant (.bool b) j pos) (eC (.bl b)) := de_const pe_bl fun _ _ => .bl b
theorem de_non {j pos} : DE X W E (.Constant .none j pos) (eC .non) := de_const pe_non fun _ _ => .non
theorem de_str {x j pos} : DE X W E (.Constant (.str x) j pos) (eC (.str x)) := de_const pe_str fun _ _ => .str x
/-- a def's name as a value -/
theorem de_fn {n : Nat} {x : PySem.Str} {pos : Pos} (hg : Gl X x) (hm : X.mg x = some (.ref (W.F n))) (hd : (x == ("__debug__" : PySem.Str)) = false := by decide) : DE X W E (.Name x pos) (eC (.fn n)) :=
  de_const (pe_glob (v := .ref (W.F n)) hg hm rfl hd) fun _ _ => .fn n

/-! ### operators by values -/
def eOp (op : Store → D → D → Option D) (f g : Ev) : Ev := fun env st => (f env st).bind fun a st1 => (g env st1).bind fun b st2 => R.ofO (op st2 a b) st2
def eUn (op : Store → D → Option D) (f : Ev) : Ev := fun env st => (f env st).bind fun a st1 => R.ofO (op st1 a) st1
/-- the rule r serves the data operator op -/
def OpD (W : Wd) (r : R2) (op : Store → D → D → Option D) : Prop :=
  ∀ (E : XK) (M : MW) (σ : L2.St) (H : Hp) (env : Ent) (st : Store) (a b : D) (x y : V) (Q : VK), Sim W M σ H env st → Rep W M H a x → Rep W M H b y → Fin W E (relD W) σ env (R.ofO (op st a b) st) M H Q → r x y H Q
def UnD (W : Wd) (r : V → Hp → VK → Prop) (op : Store → D → Option D) : Prop :=
  ∀ (E : XK) (M : MW) (σ : L2.St) (H : Hp) (env : Ent) (st : Store) (a : D) (x : V) (Q : VK), Sim W M σ H env st → Rep W M H a x → Fin W E (relD W) σ env (R.ofO (op st a) st) M H Q → r x H Q
variable {a b c : Expr} {f g k : Ev} {pos : Pos}
theorem lift_bin {r : R2} {op : Store → D → D → Option D} (h : OpD W r op) {σ : L2.St} {H : Hp} {Q : VK} (q : lE W E (eOp op f g) σ H Q) :
    lE W E f σ H fun x H1 => lE W E g σ H1 fun y H2 => r x y H2 Q := by
  obtain ⟨M, env, st, S, q⟩ := q
  refine ⟨M, env, st, S, Fin.bind q fun d1 st1 M1 x H1 T1 S1 r1 q1 => ⟨M1, env, st1, S1, Fin.bind q1 fun d2 st2 M2 y H2 T2 S2 r2 q2 => ?_⟩⟩
  exact h E M2 σ H2 env st2 d1 d2 x y Q S2 (r1.mono T2) r2 q2
theorem lift_un {r : V → Hp → VK → Prop} {op : Store → D → Option D} (h : UnD W r op) {σ : L2.St} {H : Hp} {Q : VK} (q : lE W E (eUn op f) σ H Q) :
    lE W E f σ H fun x H1 => r x H1 Q := by
  obtain ⟨M, env, st, S, q⟩ := q
  exact ⟨M, env, st, S, Fin.bind q fun d1 st1 M1 x H1 T1 S1 r1 q1 => h E M1 σ H1 env st1 d1 x Q S1 r1 q1⟩
theorem de_op {op : Operator} {r : R2} {opD : Store → D → D → Option D} (ho : OpR X (binaryOp op) r) (h : OpD W r opD) (ha : DE X W E a f) (hb : DE X W E b g) : DE X W E (.BinOp a op b pos) (eOp opD f g) :=
  PEmono (pe_op ho ha hb) fun σ H Q q => lift_bin h q
theorem de_un {op : UnaryOp} {r : V → Hp → VK → Prop} {opD : Store → D → Option D} (ho : UnR X (unaryOp op) r) (h : UnD W r opD) (ha : DE X W E a f) : DE X W E (.UnaryOp op a pos) (eUn opD f) :=
  PEmono (pe_un ho ha) fun σ H Q q => lift_un h q
theorem de_cmp {op : CmpOp} {r : R2} {opD : Store → D → D → Option D} (ho : OpR X (compareOp op) r) (h : OpD W r opD) (ha : DE X W E a f) (hb : DE X W E b g) (hm : behindInMarks op b = false := by first | exact nomark _ | rfl) :
    DE X W E (.Compare a [op] [b] pos) (eOp opD f g) :=
  PEmono (pe_cmpR ho ha hb hm) fun σ H Q q => lift_bin h q
/-- a value True or False as a test -/
def tOf (f : Ev) : EvB := fun env st => (f env st).bind fun a st1 => match a with
  | .bl k => .ok k st1
  | _ => .no
theorem lift_tOf {σ : L2.St} {H : Hp} {Q : Bool → Hp → Prop} (q : lT W E (tOf f) σ H Q) : lE W E f σ H fun x H1 => ∃ k, x = .bl k ∧ Q k H1 := by
  obtain ⟨M, env, st, S, q⟩ := q
  refine ⟨M, env, st, S, Fin.bind q fun d st1 M1 x H1 T1 S1 r1 q1 => ?_⟩
  cases d with
  | bl k => cases r1; exact ⟨k, rfl, q1 M1 k H1 .refl S1 rfl⟩
  | _ => exact q1.elim
theorem dt_cmp {op : CmpOp} {r : R2} {opD : Store → D → D → Option D} (ho : OpR X (compareOp op) r) (h : OpD W r opD) (ha : DE X W E a f) (hb : DE X W E b g) (hm : behindInMarks op b = false := by first | exact nomark _ | rfl) :
    DT X W E (.Compare a [op] [b] pos) (tOf (eOp opD f g)) :=
  PTmono (pt_cmpR ho ha hb hm) fun σ H Q q => by
    obtain ⟨M, env, st, S, q⟩ := lift_tOf q
    exact lift_bin h ⟨M, env, st, S, q⟩
theorem dt_val (h : DE X W E a f) (he : ∀ whole, isTrue a X.env whole = (do let v ← whole; standAt a.pos; holding [v] (truthy v)) := by intro _; rfl) : DT X W E a (tOf f) :=
  PTmono (pt_val h he) fun σ H Q q => lift_tOf q
/-- two comparisons: a op b op' c -/
def eChain (op op' : Store → D → D → Option D) (f g k : Ev) : Ev := fun env st => (f env st).bind fun a st1 => (g env st1).bind fun b st2 => (R.ofO (op st2 a b) st2).bind fun z st3 => match z with
  | .bl true => (k env st3).bind fun c st4 => R.ofO (op' st4 b c) st4
  | .bl false => .ok (.bl false) st3
  | _ => .no
theorem lift_chain {r r' : R2} {op op' : Store → D → D → Option D} (h : OpD W r op) (h' : OpD W r' op') {σ : L2.St} {H : Hp} {Q : VK} (q : lE W E (eChain op op' f g k) σ H Q) : tChain r r' (lE W E f) (lE W E g) (lE W E k) σ H Q := by
  obtain ⟨M, env, st, S, q⟩ := q
  refine ⟨M, env, st, S, Fin.bind q fun d1 st1 M1 x H1 T1 S1 r1 q1 => ⟨M1, env, st1, S1, Fin.bind q1 fun d2 st2 M2 y H2 T2 S2 r2 q2 => ?_⟩⟩
  refine h E M2 σ H2 env st2 d1 d2 x y _ S2 (r1.mono T2) r2 (Fin.bind q2 fun z st3 M3 v H3 T3 S3 r3 q3 => ?_)
  cases z with
  | bl b =>
    cases r3
    refine ⟨b, rfl, ?_⟩
    cases b with
    | true =>
      rw [if_pos rfl]
      refine ⟨M3, env, st3, S3, Fin.bind q3 fun d4 st4 M4 w H4 T4 S4 r4 q4 => ?_⟩
      exact h' E M4 σ H4 env st4 d2 d4 y w Q S4 (r2.mono (T3.trans T4)) r4 q4
    | false =>
      rw [if_neg Bool.false_ne_true]
      exact q3 M3 _ H3 .refl S3 (.bl false)
  | _ => exact q3.elim
theorem de_chain {op op' : CmpOp} {r r' : R2} {opD opD' : Store → D → D → Option D} (ho : OpR X (compareOp op) r) (ho' : OpR X (compareOp op') r') (h : OpD W r opD) (h' : OpD W r' opD') (ha : DE X W E a f) (hb : DE X W E b g) (hc : DE X W E c k) (hm : lastMarks [op, op'] [b, c] = false := by rfl) :
    DE X W E (.Compare a [op, op'] [b, c] pos) (eChain opD opD' f g k) :=
  PEmono (pe_chain ho ho' ha hb hc hm) fun σ H Q q => lift_chain h h' q
theorem dt_chain {op op' : CmpOp} {r r' : R2} {opD opD' : Store → D → D → Option D} (ho : OpR X (compareOp op) r) (ho' : OpR X (compareOp op') r') (h : OpD W r opD) (h' : OpD W r' opD') (ha : DE X W E a f) (hb : DE X W E b g) (hc : DE X W E c k) (hm : lastMarks [op, op'] [b, c] = false := by rfl) :
    DT X W E (.Compare a [op, op'] [b, c] pos) (tOf (eChain opD opD' f g k)) :=
  PTmono (pt_chain ho ho' ha hb hc hm) fun σ H Q q => by
    obtain ⟨M, env, st, S, q⟩ := lift_tOf q
    exact lift_chain h h' ⟨M, env, st, S, q⟩

/-! ### and, or, not -/
variable {p q : EvB} {rest : List Expr}
def tAndD (p q : EvB) : EvB := fun env st => (p env st).bind fun k st1 => if k then q env st1 else .ok false st1
def tOrD (p q : EvB) : EvB := fun env st => (p env st).bind fun k st1 => if k then .ok true st1 else q env st1
def tNotD (p : EvB) : EvB := fun env st => (p env st).bind fun k st1 => .ok (!k) st1
theorem dw_pt (h : DW X W E a p) : DT X W E a p := PW.pt h
theorem dw_and1 (h : DT X W E a p) : DW X W E (.BoolOp .And [a] pos) p := pw_and1 h
theorem dw_or1 (h : DT X W E a p) : DW X W E (.BoolOp .Or [a] pos) p := pw_or1 h
theorem dw_and (h : DT X W E a p) (h2 : DW X W E (.BoolOp .And (b :: rest) pos) q) : DW X W E (.BoolOp .And (a :: b :: rest) pos) (tAndD p q) :=
  PWmono (pw_and h h2) fun σ H Q ⟨M, env, st, S, z⟩ => ⟨M, env, st, S, Fin.bind z fun k st1 M1 k' H1 T1 S1 e z1 => by
    subst e
    cases k with
    | true => rw [if_pos rfl]; exact ⟨M1, env, st1, S1, z1⟩
    | false => rw [if_neg Bool.false_ne_true]; exact z1 M1 false H1 .refl S1 rfl⟩
theorem dw_or (h : DT X W E a p) (h2 : DW X W E (.BoolOp .Or (b :: rest) pos) q) : DW X W E (.BoolOp .Or (a :: b :: rest) pos) (tOrD p q) :=
  PWmono (pw_or h h2) fun σ H Q ⟨M, env, st, S, z⟩ => ⟨M, env, st, S, Fin.bind z fun k st1 M1 k' H1 T1 S1 e z1 => by
    subst e
    cases k with
    | true => rw [if_pos rfl]; exact z1 M1 true H1 .refl S1 rfl
    | false => rw [if_neg Bool.false_ne_true]; exact ⟨M1, env, st1, S1, z1⟩⟩
theorem dt_not (h : DT X W E a p) : DT X W E (.UnaryOp .Not a pos) (tNotD p) :=
  PTmono (pt_not h) fun σ H Q ⟨M, env, st, S, z⟩ => ⟨M, env, st, S, Fin.bind z fun k st1 M1 k' H1 T1 S1 e z1 => by
    subst e
    exact z1 M1 _ H1 .refl S1 rfl⟩
/-- as values (bools) -/
def eAndD (f g : Ev) : Ev := fun env st => (f env st).bind fun a st1 => match a with
  | .bl true => g env st1
  | .bl false => .ok (.bl false) st1
  | _ => .no
def eOrD (f g : Ev) : Ev := fun env st => (f env st).bind fun a st1 => match a with
  | .bl true => .ok (.bl true) st1
  | .bl false => g env st1
  | _ => .no
def eNotD (f : Ev) : Ev := fun env st => (f env st).bind fun a st1 => match a with
  | .bl k => .ok (.bl (!k)) st1
  | _ => .no
theorem de_one {op} (h : DE X W E a f) : DE X W E (.BoolOp op [a] pos) f := pe_one h
theorem de_and (h : DE X W E a f) (h2 : DE X W E (.BoolOp .And (b :: rest) pos) g) : DE X W E (.BoolOp .And (a :: b :: rest) pos) (eAndD f g) :=
  PEmono (pe_and h h2) fun σ H Q ⟨M, env, st, S, z⟩ => ⟨M, env, st, S, Fin.bind z fun d st1 M1 x H1 T1 S1 r z1 => by
    cases d with
    | bl k =>
      cases r
      refine ⟨k, rfl, ?_⟩
      cases k with
      | true => rw [if_pos rfl]; exact ⟨M1, env, st1, S1, z1⟩
      | false => rw [if_neg Bool.false_ne_true]; exact z1 M1 _ H1 .refl S1 (.bl false)
    | _ => exact z1.elim⟩
theorem de_or (h : DE X W E a f) (h2 : DE X W E (.BoolOp .Or (b :: rest) pos) g) : DE X W E (.BoolOp .Or (a :: b :: rest) pos) (eOrD f g) :=
  PEmono (pe_or h h2) fun σ H Q ⟨M, env, st, S, z⟩ => ⟨M, env, st, S, Fin.bind z fun d st1 M1 x H1 T1 S1 r z1 => by
    cases d with
    | bl k =>
      cases r
      refine ⟨k, rfl, ?_⟩
      cases k with
      | true => rw [if_pos rfl]; exact z1 M1 _ H1 .refl S1 (.bl true)
      | false => rw [if_neg Bool.false_ne_true]; exact ⟨M1, env, st1, S1, z1⟩
    | _ => exact z1.elim⟩
theorem de_not (h : DE X W E a f) : DE X W E (.UnaryOp .Not a pos) (eNotD f) :=
  PEmono (pe_not h) fun σ H Q ⟨M, env, st, S, z⟩ => ⟨M, env, st, S, Fin.bind z fun d st1 M1 x H1 T1 S1 r z1 => by
    cases d with
    | bl k => cases r; exact ⟨k, rfl, z1 M1 _ H1 .refl S1 (.bl _)⟩
    | _ => exact z1.elim⟩
def eIfE (p : EvB) (f g : Ev) : Ev := fun env st => (p env st).bind fun k st1 => if k then f env st1 else g env st1
theorem de_if (h : DT X W E c p) (ha : DE X W E a f) (hb : DE X W E b g) : DE X W E (.IfExp c a b pos) (eIfE p f g) :=
  PEmono (pe_ifExp h ha hb) fun σ H Q ⟨M, env, st, S, z⟩ => ⟨M, env, st, S, Fin.bind z fun k st1 M1 k' H1 T1 S1 e z1 => by
    subst e
    cases k with
    | true => rw [if_pos rfl]; exact ⟨M1, env, st1, S1, z1⟩
    | false => rw [if_neg Bool.false_ne_true]; exact ⟨M1, env, st1, S1, z1⟩⟩

/-! ### argument lists -/
def aNil : EvL := fun _ st => .ok [] st
def aCons (f : Ev) (g : EvL) : EvL := fun env st => (f env st).bind fun a st1 => (g env st1).bind fun as st2 => .ok (a :: as) st2
variable {e : Expr} {es : List Expr} {fs : EvL}
theorem da_nil : DA X W E [] aNil := PAmono pa_nil fun σ H Q ⟨M, env, st, S, z⟩ => z M [] H .refl S .nil
theorem da_cons (h : DE X W E e f) (hr : DA X W E es fs) (hs : starEach (e :: es) X.env = (false, eval e X.env) :: starEach es X.env := by rfl) : DA X W E (e :: es) (aCons f fs) :=
  PAmono (pa_cons h hr hs) fun σ H Q ⟨M, env, st, S, z⟩ => ⟨M, env, st, S, Fin.bind z fun d st1 M1 x H1 T1 S1 r z1 =>
    ⟨M1, env, st1, S1, Fin.bind z1 fun ds st2 M2 xs H2 T2 S2 rs z2 => z2 M2 _ H2 .refl S2 (.cons (r.mono T2) rs)⟩⟩

/-! ### displays -/
def sOk (n : Nat) : Bool := Nat.ble n 16777216
theorem sOk_le {n : Nat} (h : sOk n = true) : n ≤ sizeLine := by rw [sizeLine_eq]; exact Nat.le_of_ble_eq_true h
theorem sOk_of {n : Nat} (h : n ≤ 16777216) : sOk n = true := Nat.ble_eq_true_of_le h
def eTup (g : EvL) : Ev := fun env st => (g env st).bind fun ds st1 => if sOk ds.length then .ok (.tup ds) st1 else .no
theorem Rep.newTup {M : MW} {H : Hp} {ds : List D} {vs : List V} {p : Addr} (hp : H p = none) (r : Reps W M H ds vs) : Rep W M (upd H p (.tup vs)) (.tup ds) (.ref p) :=
  .tup upd_same (r.mono (Stp.grow (updNew hp)))
theorem Sim.grow {M : MW} {σ : L2.St} {H H' : Hp} {env : Ent} {st : Store} (S : Sim W M σ H env st) (k : ∀ a o, H a = some o → H' a = some o) : Sim W M σ H' env st := S.step (Stp.grow k) (S.s.grow k)
theorem de_tup {x1} (h : DA X W E es fs) : DE X W E (.Tuple es x1 pos) (eTup fs) :=
  PEmono (pe_tup h) fun σ H Q ⟨M, env, st, S, z⟩ => ⟨M, env, st, S, Fin.bind z fun ds st1 M1 xs H1 T1 S1 rs z1 => by
    by_cases hs : sOk ds.length = true
    · rw [if_pos hs] at z1
      refine ⟨by rw [← rs.length]; exact sOk_le hs, fun p hp => ?_⟩
      exact z1 M1 _ _ (Stp.grow (updNew hp)) (S1.grow (updNew hp)) (.newTup hp rs)
    · rw [if_neg hs] at z1; exact z1.elim⟩

/-! ### new lists: EvL as an expression whose value is a new list -/
def FinN (W : Wd) (E : XK) (σ : L2.St) (env : Ent) (r : R (List D)) (M : MW) (H : Hp) (Q : VK) : Prop :=
  Fin W E (relDs W) σ env r M H fun vs H1 => ∀ p, H1 p = none → Q (.ref p) (upd H1 p (.lst vs))
def lN (W : Wd) (E : XK) (f : EvL) : TE := fun σ H Q => ∃ (M : MW) (env : Ent) (st : Store), Sim W M σ H env st ∧ FinN W E σ env (f env st) M H Q
def DN (X : Cx) (W : Wd) (E : XK) (e : Expr) (f : EvL) : Prop := PE X e (lN W E f)
/-- .. as an immutable value, as a cell -/
def eFrz (f : EvL) : Ev := fun env st => (f env st).bind fun ds st1 => .ok (.lst ds) st1
def eNew (f : EvL) : Ev := fun env st => (f env st).bind fun ds st1 => .ok (.ref st1.length) (st1 ++ [.lst ds])
theorem de_frz (h : DN X W E e fs) : DE X W E e (eFrz fs) :=
  PEmono h fun σ H Q ⟨M, env, st, S, z⟩ => ⟨M, env, st, S, Fin.bind z fun ds st1 M1 xs H1 T1 S1 rs z1 => fun p hp => by
    obtain ⟨T, S2⟩ := frozen S1.s (o := .lst xs) hp
    exact z1 _ _ _ T (S1.step T S2) (.lst (.inl upd_same) (fun z => z.2 rfl) (rs.mono T))⟩
theorem de_new (h : DN X W E e fs) : DE X W E e (eNew fs) :=
  PEmono h fun σ H Q ⟨M, env, st, S, z⟩ => ⟨M, env, st, S, Fin.bind z fun ds st1 M1 xs H1 T1 S1 rs z1 => fun p hp => by
    obtain ⟨T, S2⟩ := celled S1.s (o := .lst xs) (c := .lst ds) hp fun M' T => .lst upd_same (rs.mono T)
    refine z1 _ _ _ T (S1.step T S2) (.ref ?_)
    show (M1.rho ++ [p])[st1.length]? = some p
    rw [← S1.s.len, List.getElem?_append_right (Nat.le_refl _)]
    simp⟩
def nLst (g : EvL) : EvL := fun env st => (g env st).bind fun ds st1 => if sOk ds.length then .ok ds st1 else .no
theorem dn_lst (h : DA X W E es fs) : DN X W E (.List es pos) (nLst fs) :=
  PEmono (pe_lst h) fun σ H Q ⟨M, env, st, S, z⟩ => ⟨M, env, st, S, Fin.bind z fun ds st1 M1 xs H1 T1 S1 rs z1 => by
    by_cases hs : sOk ds.length = true
    · rw [if_pos hs] at z1
      exact ⟨by rw [← rs.length]; exact sOk_le hs, fun p hp => z1 M1 xs H1 .refl S1 rs p hp⟩
    · rw [if_neg hs] at z1; exact z1.elim⟩
end
end DL

set_option Elab.async false
set_option linter.all false
set_option maxRecDepth 100000
/-! DL2: data as PyData; comparisons, sorting order. -/
namespace DL
open PySem PySem.Spec PyProof.Rows L2

mutual
def toP : D → PyData
  | .non => .none
  | .bl b => .bool b
  | .int i => .int i
  | .str x => .str x
  | .tup xs => .tuple (toPs xs)
  | .lst xs => .list (toPs xs)
  | .ref _ => .none
  | .fn _ => .none
def toPs : List D → List PyData
  | [] => []
  | x :: xs => toP x :: toPs xs
end
mutual
/-- no reference within, depth at most n -/
def fit : D → Nat → Bool
  | .non, _ => true
  | .bl _, _ => true
  | .int _, _ => true
  | .str _, _ => true
  | .tup xs, n => match n with
    | 0 => false
    | m + 1 => fits xs m
  | .lst xs, n => match n with
    | 0 => false
    | m + 1 => fits xs m
  | .ref _, _ => false
  | .fn _, _ => false
def fits : List D → Nat → Bool
  | [], _ => true
  | x :: xs, n => fit x n && fits xs n
end
mutual
/-- == -/
def same : D → D → Bool
  | .non, y => match y with | .non => true | _ => false
  | .bl a, y => match y with | .bl b => a == b | .int j => (if a then 1 else 0) == j | _ => false
  | .int i, y => match y with | .int j => i == j | .bl b => i == (if b then 1 else 0) | _ => false
  | .str x, y => match y with | .str z => x == z | _ => false
  | .tup xs, y => match y with | .tup ys => sames xs ys | _ => false
  | .lst xs, y => match y with | .lst ys => sames xs ys | _ => false
  | .ref _, _ => false
  | .fn _, _ => false
def sames : List D → List D → Bool
  | [], ys => match ys with | [] => true | _ :: _ => false
  | x :: xs, ys => match ys with | [] => false | y :: ys => same x y && sames xs ys
end
mutual
/-- comparable place by place -/
def alk : D → D → Bool
  | .non, y => match y with | .non => true | _ => false
  | .bl _, y => match y with | .bl _ => true | _ => false
  | .int _, y => match y with | .int _ => true | _ => false
  | .str _, y => match y with | .str _ => true | _ => false
  | .tup xs, y => match y with | .tup ys => alks xs ys | _ => false
  | .lst xs, y => match y with | .lst ys => alks xs ys | _ => false
  | .ref _, _ => false
  | .fn _, _ => false
def alks : List D → List D → Bool
  | [], _ => true
  | x :: xs, ys => match ys with | [] => true | y :: ys => alk x y && alks xs ys
end
mutual
/-- < of alike data -/
def dlt : D → D → Bool
  | .non, _ => false
  | .bl a, y => match y with | .bl b => !a && b | _ => false
  | .int i, y => match y with | .int j => decide (i < j) | _ => false
  | .str x, y => match y with | .str z => decide (x.cps.toList < z.cps.toList) | _ => false
  | .tup xs, y => match y with | .tup ys => dlts xs ys | _ => false
  | .lst xs, y => match y with | .lst ys => dlts xs ys | _ => false
  | .ref _, _ => false
  | .fn _, _ => false
def dlts : List D → List D → Bool
  | [], ys => match ys with | [] => false | _ :: _ => true
  | x :: xs, ys => match ys with | [] => false | y :: ys => if same x y then dlts xs ys else dlt x y
end

section
variable {W : Wd} {M : MW} {H : Hp} {K : PySem.W.Frag}
mutual
theorem Rep.dp : ∀ {d : D} {v : V} {n : Nat}, Rep W M H d v → fit d n = true → Dp K H v (toP d)
  | _, _, _, .non, _ => .non
  | _, _, _, .bl b, _ => .bl b
  | _, _, _, .int i, _ => .int i
  | _, _, _, .str x, _ => .str x
  | _, _, 0, .tup _ _, f => by simp [fit] at f
  | _, _, n + 1, .tup h r, f => .tup (.inl (.inl h)) (Reps.dp (n := n) r (by simpa [fit] using f))
  | _, _, 0, .lst _ _ _, f => by simp [fit] at f
  | _, _, n + 1, .lst h m r, f => .lst (.inl h) (Reps.dp (n := n) r (by simpa [fit] using f))
  | _, _, _, .ref _, f => by simp [fit] at f
  | _, _, _, .fn _, f => by simp [fit] at f
theorem Reps.dp : ∀ {ds : List D} {vs : List V} {n : Nat}, Reps W M H ds vs → fits ds n = true → DpAll K H vs (toPs ds)
  | _, _, _, .nil, _ => .nil
  | _, _, _, .cons h r, f => by
    simp only [fits, Bool.and_eq_true] at f
    exact .cons (Rep.dp h f.1) (Reps.dp r f.2)
end
end
mutual
theorem plain_toP : ∀ (d : D) (n : Nat), fit d n = true → (toP d).plain = true ∧ (toP d).depth ≤ n
  | .non, _, _ => ⟨rfl, by simp [toP, PyData.depth]⟩
  | .bl _, _, _ => ⟨rfl, by simp [toP, PyData.depth]⟩
  | .int _, _, _ => ⟨rfl, by simp [toP, PyData.depth]⟩
  | .str _, _, _ => ⟨rfl, by simp [toP, PyData.depth]⟩
  | .tup xs, 0, f => by simp [fit] at f
  | .tup xs, n + 1, f => by
    have q := plain_toPs xs n (by simpa [fit] using f)
    simp only [toP, PyData.plain, PyData.depth]
    exact ⟨q.1, by omega⟩
  | .lst xs, 0, f => by simp [fit] at f
  | .lst xs, n + 1, f => by
    have q := plain_toPs xs n (by simpa [fit] using f)
    simp only [toP, PyData.plain, PyData.depth]
    exact ⟨q.1, by omega⟩
  | .ref _, _, f => by simp [fit] at f
  | .fn _, _, f => by simp [fit] at f
theorem plain_toPs : ∀ (ds : List D) (n : Nat), fits ds n = true → PyData.plainAll (toPs ds) = true ∧ PyData.depthAll (toPs ds) ≤ n
  | [], _, _ => ⟨rfl, by simp [toPs, PyData.depthAll]⟩
  | d :: ds, n, f => by
    simp only [fits, Bool.and_eq_true] at f
    have q := plain_toP d n f.1
    have r := plain_toPs ds n f.2
    simp only [toPs, PyData.plainAll, PyData.depthAll, Bool.and_eq_true]
    exact ⟨⟨q.1, r.1⟩, by omega⟩
end
mutual
theorem eqv_toP : ∀ (a b : D) (m n : Nat), fit a m = true → fit b n = true → PyData.eqv (toP a) (toP b) = same a b
  | .non, b, _, _, _, g => by cases b <;> simp_all [toP, PyData.eqv, same, fit]
  | .bl x, b, _, _, _, g => by cases b <;> simp_all [toP, PyData.eqv, same, fit]
  | .int x, b, _, _, _, g => by cases b <;> simp_all [toP, PyData.eqv, same, fit]
  | .str x, b, _, _, _, g => by cases b <;> simp_all [toP, PyData.eqv, same, fit]
  | .tup xs, b, 0, _, f, _ => by simp [fit] at f
  | .tup xs, b, m + 1, 0, f, g => by cases b <;> simp_all [toP, PyData.eqv, same, fit]
  | .tup xs, b, m + 1, n + 1, f, g => by
    cases b with
    | tup ys =>
      simp only [toP, PyData.eqv, same]
      exact eqv_toPs xs ys m n (by simpa [fit] using f) (by simpa [fit] using g)
    | _ => simp_all [toP, PyData.eqv, same, fit]
  | .lst xs, b, 0, _, f, _ => by simp [fit] at f
  | .lst xs, b, m + 1, 0, f, g => by cases b <;> simp_all [toP, PyData.eqv, same, fit]
  | .lst xs, b, m + 1, n + 1, f, g => by
    cases b with
    | lst ys =>
      simp only [toP, PyData.eqv, same]
      exact eqv_toPs xs ys m n (by simpa [fit] using f) (by simpa [fit] using g)
    | _ => simp_all [toP, PyData.eqv, same, fit]
  | .ref _, _, _, _, f, _ => by simp [fit] at f
  | .fn _, _, _, _, f, _ => by simp [fit] at f
theorem eqv_toPs : ∀ (a b : List D) (m n : Nat), fits a m = true → fits b n = true → PyData.eqvAll (toPs a) (toPs b) = sames a b
  | [], [], _, _, _, _ => rfl
  | [], _ :: _, _, _, _, _ => rfl
  | _ :: _, [], _, _, _, _ => rfl
  | x :: xs, y :: ys, m, n, f, g => by
    simp only [fits, Bool.and_eq_true] at f g
    simp only [toPs, PyData.eqvAll, sames]
    rw [eqv_toP x y m n f.1 g.1, eqv_toPs xs ys m n f.2 g.2]
end
mutual
theorem alike_toP : ∀ (a b : D), alk a b = true → PySem.W.alike (toP a) (toP b) = true
  | .non, b, h => by cases b <;> simp_all [toP, PySem.W.alike, alk]
  | .bl x, b, h => by cases b <;> simp_all [toP, PySem.W.alike, alk]
  | .int x, b, h => by cases b <;> simp_all [toP, PySem.W.alike, alk]
  | .str x, b, h => by cases b <;> simp_all [toP, PySem.W.alike, alk]
  | .tup xs, b, h => by
    cases b with
    | tup ys =>
      simp only [toP, PySem.W.alike]
      exact alike_toPs xs ys (by simpa [alk] using h)
    | _ => simp_all [toP, PySem.W.alike, alk]
  | .lst xs, b, h => by
    cases b with
    | lst ys =>
      simp only [toP, PySem.W.alike]
      exact alike_toPs xs ys (by simpa [alk] using h)
    | _ => simp_all [toP, PySem.W.alike, alk]
  | .ref _, _, h => by simp [alk] at h
  | .fn _, _, h => by simp [alk] at h
theorem alike_toPs : ∀ (a b : List D), alks a b = true → PySem.W.alikeAll (toPs a) (toPs b) = true
  | [], b, _ => by cases b <;> simp [toPs, PySem.W.alikeAll]
  | _ :: _, [], _ => by simp [toPs, PySem.W.alikeAll]
  | x :: xs, y :: ys, h => by
    simp only [alks, Bool.and_eq_true] at h
    simp only [toPs, PySem.W.alikeAll, Bool.and_eq_true]
    exact ⟨alike_toP x y h.1, alike_toPs xs ys h.2⟩
end
mutual
theorem dataLt_toP : ∀ (a b : D) (m n : Nat), fit a m = true → fit b n = true → alk a b = true → PySem.W.dataLt (toP a) (toP b) = dlt a b
  | .non, b, _, _, _, _, h => by
    cases b with
    | non => rfl
    | _ => simp [alk] at h
  | .bl x, b, _, _, _, _, h => by
    cases b with
    | bl y =>
      simp only [toP, dlt]
      rw [PySem.W.dataLt_bool]
      cases x <;> cases y <;> rfl
    | _ => simp [alk] at h
  | .int x, b, _, _, _, _, h => by
    cases b with
    | int y => simp only [toP, dlt]; exact PySem.W.dataLt_int x y
    | _ => simp [alk] at h
  | .str x, b, _, _, _, _, h => by
    cases b with
    | str y => simp only [toP, dlt]; exact PySem.W.dataLt_str x y
    | _ => simp [alk] at h
  | .tup xs, b, 0, _, f, _, h => by simp [fit] at f
  | .tup xs, b, m + 1, n, f, g, h => by
    cases b with
    | tup ys =>
      cases n with
      | zero => simp [fit] at g
      | succ n =>
        simp only [toP, dlt, PySem.W.dataLt_tuple]
        exact dataLt_toPs xs ys m n (by simpa [fit] using f) (by simpa [fit] using g) (by simpa [alk] using h)
    | _ => simp [alk] at h
  | .lst xs, b, 0, _, f, _, h => by simp [fit] at f
  | .lst xs, b, m + 1, n, f, g, h => by
    cases b with
    | lst ys =>
      cases n with
      | zero => simp [fit] at g
      | succ n =>
        simp only [toP, dlt, PySem.W.dataLt_list]
        exact dataLt_toPs xs ys m n (by simpa [fit] using f) (by simpa [fit] using g) (by simpa [alk] using h)
    | _ => simp [alk] at h
  | .ref _, _, _, _, f, _, _ => by simp [fit] at f
  | .fn _, _, _, _, f, _, _ => by simp [fit] at f
theorem dataLt_toPs : ∀ (a b : List D) (m n : Nat), fits a m = true → fits b n = true → alks a b = true → PyProof.Rows.lexLt PyProof.Rows.itemOrd (PySem.W.keyToksAll (toPs a)) (PySem.W.keyToksAll (toPs b)) = dlts a b
  | [], [], _, _, _, _, _ => by simp only [toPs, dlts]; rfl
  | [], y :: ys, _, _, _, _, _ => by simp only [toPs, dlts, PySem.W.keyToksAll]; rfl
  | x :: xs, [], _, _, _, _, _ => by simp only [toPs, dlts, PySem.W.keyToksAll]; rfl
  | x :: xs, y :: ys, m, n, f, g, h => by
    simp only [fits, Bool.and_eq_true] at f g
    simp only [alks, Bool.and_eq_true] at h
    simp only [toPs, dlts]
    rw [PySem.W.dataLt_cons (alike_toP x y h.1), eqv_toP x y m n f.1 g.1, dataLt_toPs xs ys m n f.2 g.2 h.2, dataLt_toP x y m n f.1 g.1 h.1]
end
end DL

set_option Elab.async false
set_option linter.all false
set_option maxRecDepth 100000
set_option maxHeartbeats 2000000
/-! DL3: what a def promises, where no repr is under way (guards known); calls; the law's own call. -/
namespace DL
open PySem PySem.Spec PyProof.Rows L2

/-- room, and no guard is held -/
structure Free (k : Nat) (A : Around) : Prop where
  r : Room k A
  g : A.guards = some []
theorem Free.mono {j k : Nat} {A : Around} (h : Free k A) (l : j ≤ k) : Free j A := ⟨h.r.mono l, h.g⟩
theorem Free.deeper {k : Nat} {A : Around} (h : Free (k + 1) A) (env : Env) : Free k (A.deeper env) := ⟨h.r.deeper env, h.g⟩

structure GOk (P : Program) (w : World) (K : PySem.W.Frag) (mg : PySem.Str → Option Value) (base : Heap) (T : CXT) (k : Nat) (f : Addr) (fd : FuncData) (ps : List PySem.Str) (sp : Sp) : Prop where
  len : ∀ vs H Q E, sp vs H Q E → vs.length = ps.length
  run : ∀ (B : Around) (up : List Env) (z : Shared) (H : Hp) (gs : Args) (us : List Value) (vs : List V) (Q : VK) (E : XK),
    Free k B → Env0 P w K mg base B up z H → BindsTo z fd gs (ps.zip us) → Vals vs us → sp vs H Q E →
      codeAny (model P w) B (.call (.ref f) gs) (CR T up P w H z Q E) z
section
variable {P : Program} {w : World} {K : PySem.W.Frag} {mg : PySem.Str → Option Value} {base : Heap} {T : CXT} {j k : Nat} {f : Addr} {fd : FuncData} {ps : List PySem.Str} {sp : Sp}
theorem GOk.mono (F : GOk P w K mg base T j f fd ps sp) (h : j ≤ k) : GOk P w K mg base T k f fd ps sp :=
  ⟨F.len, fun B up z H gs us vs Q E hr => F.run B up z H gs us vs Q E (hr.mono h)⟩
theorem atEntry {name qual : PySem.Str} {pr : Arguments} {body : List Stmt} {scope : Scope} {dV kV doc pm cdv ct : Value} {an : Option Addr} {N : List PySem.Str} (S : FnScope N ps scope) (n : Nat) (us : List Value) :
    ∀ y ∈ ps.zip us, scope.names.lookup y.1 = some .local ∨ (scope.names.lookup y.1 = some .cell ∧ ((cellsFrom (n + 1) scope.names []).lookup y.1).isSome = true) := by
  intro y hy
  cases S.par y.1 (List.of_mem_zip hy).1 with
  | inl l => exact .inl l
  | inr c => exact .inr ⟨c, PySem.W.cellsFrom_some _ _ _ (.inl c)⟩
/-- a def by its body -/
theorem gok_of {name qual : PySem.Str} {pr : Arguments} {body : List Stmt} {scope : Scope} {dV kV doc pm cdv ct oc : Value} {an od : Option Addr} {osl : Array (Option Value)} {N : List PySem.Str}
    (lk : K.lookup f = some ⟨oc, od, .func (PySem.W.fnOf name qual pr body scope dV kV doc pm an cdv ct), osl⟩) (hcd : PySem.W.codeIn K cdv qual = true) (S : FnScope N ps scope)
    (len : ∀ vs H Q E, sp vs H Q E → vs.length = ps.length)
    (bd : ∀ (B : Around) (up : List Env) (z : Shared) (H : Hp) (vs : List V) (Q : VK) (E : XK), Free k (B.deeper (envOfC qual scope z.heap.objs.size f cdv)) → sp vs H Q E →
      ∃ t, PSs (cxOf T P w K mg base N qual scope f cdv B up z H E) body t ∧ t { nx := fun _ H1 => Q .non H1, rt := Q } (start N vs) H) :
    GOk P w K mg base T (k + 1) f (PySem.W.fnOf name qual pr body scope dV kV doc pm an cdv ct) ps sp where
  len := len
  run := by
    intro B up z H gs us vs Q E fr e0 hb rv hsp
    have kz := e0.mod.kin.keeps (h' := z.heap) fun b o q => (e0.bs b o q).1
    have lz := e0.mod.nolimit.keeps (h' := z.heap) fun b o q => (e0.bs b o q).1
    have nv := len _ _ _ _ hsp
    have cr := PySem.W.codeRec_of kz hcd
    apply codeAny_call_function fr.r.depth (kz _ _ lk) rfl S.co S.gen rfl cr
    apply hb
    apply wpAny_newFunctionEnv_cells S.kind (atEntry (name := name) (qual := qual) (pr := pr) (body := body) (dV := dV) (kV := kV) (doc := doc) (pm := pm) (cdv := cdv) (ct := ct) (an := an) S _ us)
    intro env he s1 x
    cases he
    refine ⟨lz.keeps x.toInCall.keep, codeAny_func ?_⟩
    obtain ⟨t, pt, ht⟩ := bd B up z H vs Q E (fr.deeper _) hsp
    have J := inv_start (CX := T) (E := E) S fr.r.hd e0 nv rv x
    refine wpAny_mono (pt.run [] s1 _ H _ J ht) ?_ (fun _ _ q => q)
    intro fl s2 q
    cases fl with
    | ret u =>
      obtain ⟨v, σ2, H2, I2, r2, q2⟩ := q
      exact ⟨v, H2, I2.os, I2.bare, I2.base, I2.hok, r2, q2⟩
    | next =>
      obtain ⟨σ2, H2, I2, q2⟩ := q
      exact ⟨.non, H2, I2.os, I2.bare, I2.base, I2.hok, rfl, q2⟩
    | brk => exact False.elim q.choose_spec.choose_spec.2
    | cont => exact False.elim q.choose_spec.choose_spec.2
end

section
variable {X : Cx} {T : CXT} {k : Nat} {f : Addr} {fd : FuncData} {ps : List PySem.Str} {sp : Sp} {E : XK} {x : PySem.Str} {p pos : Pos} {e : Expr} {es : List Expr} {t : TA}
theorem grun {pins : List (Addr × Obj)} {σ : L2.St} {H : Hp} {z : Shared} {Q : VK} {us : List Value} {vs : List V} (F : GOk X.prog X.w X.K X.mg X.base T k f fd ps sp) (fr : Free k X.A) (hb : Binds X.K fd ps []) (hx : Passes T X E)
    (I : Inv X pins σ H z) (rv : Vals vs us) (h : sp vs H Q E) : wpAny (model X.prog X.w) X.A (call (.ref f) us) (EP X pins σ Q) X.xe z := by
  have hl : us.length = ps.length := rv.length.symm.trans (F.len _ _ _ _ h)
  have b := hb z us I.kIn (by simpa using hl)
  simp only [List.append_nil] at b
  apply wpAny_call
  refine codeAny_mono (F.run X.A X.stack z H _ us vs Q E fr I.env0 b rv h) ?_
  intro r s2 q
  match r, q with
  | .error v, q => exact hx _ _ _ _ v s2 I q
  | .ok (.ret u), q => exact I.after q
  | .ok .next, q => exact q.elim
  | .ok .brk, q => exact q.elim
  | .ok .cont, q => exact q.elim
/-- f(e, ..) -/
theorem ge_call (F : GOk X.prog X.w X.K X.mg X.base T k f fd ps sp) (fr : Free k X.A) (hg : Gl X x) (hm : X.mg x = some (.ref f)) (hk : PySem.W.keepIn X.K (.ref f) = true) (hb : Binds X.K fd ps []) (hx : Passes T X E)
    (ha : PA X (e :: es) t) (hdb : (x == ("__debug__" : PySem.Str)) = false := by decide) (he : starEach (e :: es) X.env = (false, eval e X.env) :: starEach es X.env := by rfl) (hpl : (backTo pos (starEach es X.env)).any (·.1) = false := by rfl) :
    PE X (.Call (.Name x p) (e :: es) [] pos) (fun σ H Q => t σ H fun vs H1 => sp vs H1 Q E) where
  run := by
    intro pins z σ H Q I h
    apply wpAny_Call_Name_kw (ld_glob I hg hm _ hdb)
    apply PySem.W.callWith_K (h₀ := X.base) I.ok.mod.kin hk _ he hpl
    refine thn (ha.run pos pins z σ H _ I h) ?_
    rintro us s1 ⟨vs, H1, I1, r1, q1⟩
    exact ⟨I1.kIn, grun F fr hb hx I1 r1 q1⟩
/-- f() -/
theorem ge_call0 (F : GOk X.prog X.w X.K X.mg X.base T k f fd ps sp) (fr : Free k X.A) (hg : Gl X x) (hm : X.mg x = some (.ref f)) (hk : PySem.W.keepIn X.K (.ref f) = true) (hb : Binds X.K fd ps []) (hx : Passes T X E)
    (hdb : (x == ("__debug__" : PySem.Str)) = false := by decide) : PE X (.Call (.Name x p) [] [] pos) (fun σ H Q => sp [] H Q E) where
  run := by
    intro pins z σ H Q I h
    apply wpAny_Call_Name_kw (ld_glob I hg hm _ hdb)
    exact PySem.W.callWith_K0 I.kIn hk (grun (us := []) F fr hb hx I .nil h)
/-- f(e, ..), f a def that stands in a slot -/
theorem ge_callS {i : Nat} (F : GOk X.prog X.w X.K X.mg X.base T k f fd ps sp) (fr : Free k X.A) (hN : X.N[i]? = some x) (hv : Vis X.env.scope x) (hk : PySem.W.keepIn X.K (.ref f) = true) (hb : Binds X.K fd ps []) (hx : Passes T X E)
    (ha : PA X (e :: es) t) (hdb : (x == ("__debug__" : PySem.Str)) = false := by decide) (hcd : (x == ("__classdict__" : PySem.Str)) = false := by decide) (he : starEach (e :: es) X.env = (false, eval e X.env) :: starEach es X.env := by rfl) (hpl : (backTo pos (starEach es X.env)).any (·.1) = false := by rfl) :
    PE X (.Call (.Name x p) (e :: es) [] pos) (fun σ H Q => σ[i]? = some (some (.ref f)) ∧ t σ H fun vs H1 => sp vs H1 Q E) where
  run := by
    rintro pins z σ H Q I ⟨hs, h⟩
    apply wpAny_Call_Name_kw
    refine thn ((pe_var (pos := p) hN hv hdb hcd).run pins z σ H (fun v H1 => v = .ref f ∧ H1 = H) I ⟨_, hs, rfl, rfl⟩) ?_
    rintro u s1 ⟨v, H1, I1, r1, rfl, rfl⟩
    cases r1
    apply PySem.W.callWith_K (h₀ := X.base) I.ok.mod.kin hk _ he hpl
    refine thn (ha.run pos pins s1 σ _ _ I1 h) ?_
    rintro us s2 ⟨vs, H2, I2, r2, q2⟩
    exact ⟨I2.kIn, grun F fr hb hx I2 r2 q2⟩
end
end DL

set_option Elab.async false
set_option linter.all false
set_option maxRecDepth 100000
set_option maxHeartbeats 4000000
/-! DL4: the law's own call, behind the head. -/
namespace DL
open PySem PySem.Spec PyProof.Rows L2

/-- nothing is tracked, or the script alone, known to the object -/
def OnlyAt (a : Addr) (H : Hp) : Prop := ∀ b, H b = none ∨ (b = a ∧ ∃ o xs, H b = some (.frz o (.lst xs)))
section
variable {P : Program} {w : World} {K : PySem.W.Frag} {mg mb : PySem.Str → Option Value} {T : CXT} {k : Nat} {f a : Addr} {fd : FuncData} {x : PySem.Str} {sp : Sp} {z : Shared} {us : List Value} {ns : List Int}
theorem gcore (KX : K.In z.heap) (hns : z.heap.Ns mainGlobals mg) (hb : z.heap.Ns builtinsNs mb) (hbb : ∀ y : PySem.Str, y ≠ "__name__" → mb y = bootBuiltins y) (lim : z.heap.NoLimit) (hg : z.gens = #[])
    (ha : z.heap.get? a = some { cls := .type "list", data := .seq us.toArray }) (hr : Room k callerA)
    (F : ∀ base : Heap, K.In base → base.Ns mainGlobals mg → GOk P w K mg base T k f fd [x] sp) (bind : ∀ (s : Shared) (u : Value), BindsTo s fd ⟨[u], []⟩ [(x, u)])
    (H : Hp) (hO : OnlyAt a H) (hok : HOk P w H z.heap) (hK : H a ≠ none → K.lookup a = none) (hsp : sp [.ref a] H (fun v _ => v = .bl true) fun _ _ _ => False)
    (noT : ∀ e s', T [] H z (fun _ _ _ => False) e s' → False) :
    codeAny (model P w) callerA (.call (.ref f) ⟨[.ref a], []⟩) (fun r s' => r = .ok (.ret (.bool true)) ∧ OldK z.heap s'.heap ∧ s'.os = z.os ∧ AllBare s'.gens) z := by
  have at_a : ∀ {b : Addr}, H b ≠ none → b = a := fun {b} q => (hO b).elim (fun n => absurd n q) fun n => n.1
  have free : ∀ {b : Addr} {o : Obj}, z.heap.get? b = some o → o ≠ { cls := .type "list", data := .seq us.toArray } → H b = none := by
    intro b o e ne
    by_cases q : H b = none
    · exact q
    · have : b = a := at_a q
      rw [this, ha] at e
      exact absurd (Option.some.inj e).symm ne
  have ns_keep : ∀ {b : Addr} {m : PySem.Str → Option Value}, z.heap.Ns b m → (hidT z.heap H).Ns b m := by
    rintro b m ⟨o, es, ep, e, d, r⟩
    refine ⟨o, es, ep, hidT_get e (free e ?_), d, r⟩
    intro q
    rw [q] at d
    exact nomatch d
  have kin : K.In (hidT z.heap H) := by
    intro b o e
    refine hidT_get (KX b o e) ?_
    by_cases q : H b = none
    · exact q
    · have eb : b = a := at_a q
      subst eb
      rw [hK q] at e
      cases e
  have md : Mod K mg (hidT z.heap H) := by
    obtain ⟨mc, l1, l2⟩ := lim
    exact { kin := kin, glob := ns_keep hns, blt := ⟨mb, ns_keep hb, hbb⟩, nolimit := ⟨mc, ns_keep l1, l2⟩ }
  have en : Env0 P w K mg (hidT z.heap H) callerA [] z H :=
    { frames := rfl, mod := md, bs := fun b o e => of_hidT e, bsz := Nat.le_of_eq (hidT_size _ _), funs := trivial, frf := (fun b hb => nomatch hb), hok := hok, bare := .of_eq hg }
  refine codeAny_mono ((F _ kin (ns_keep hns)).run callerA [] z H _ [.ref a] [.ref a] _ _ ⟨hr, rfl⟩ en (bind z (.ref a)) (.cons rfl .nil) hsp) ?_
  intro r s' q
  match r, q with
  | .error e, q => exact (noT e s' q).elim
  | .ok .next, q => exact q.elim
  | .ok .brk, q => exact q.elim
  | .ok .cont, q => exact q.elim
  | .ok (.ret u), q =>
    obtain ⟨v, H', os, bare, un, hok', rv, hv⟩ := q
    have hv : v = .bl true := hv
    subst hv
    have rv : u = Value.bool true := rv
    subst rv
    refine ⟨rfl, OldK.of_keep (fun b o e => ?_), os, bare⟩
    rcases hO b with q | ⟨_, ob, xs, q⟩
    · exact un.keep b o e q (fun m => nomatch m) (by simp)
    · have e1 := (hok b _ q).1
      have e2 := (hok' b _ (un.frzs b ob _ q)).1
      rw [e] at e1
      cases e1
      exact e2
theorem glaw (KX : K.In z.heap) (hns : z.heap.Ns mainGlobals mg) (hb : z.heap.Ns builtinsNs mb) (hbb : ∀ y : PySem.Str, y ≠ "__name__" → mb y = bootBuiltins y) (lim : z.heap.NoLimit) (hg : z.gens = #[])
    (ha : z.heap.get? a = some { cls := .type "list", data := .seq us.toArray }) (hi : IntsAre us ns) (hl : ns.length ≤ sizeLine) (hr : Room k callerA)
    (F : ∀ base : Heap, K.In base → base.Ns mainGlobals mg → GOk P w K mg base T k f fd [x] sp) (bind : ∀ (s : Shared) (u : Value), BindsTo s fd ⟨[u], []⟩ [(x, u)])
    (free : K.lookup a = none)
    (hsp : ∀ H : Hp, OnlyAt a H → Rd H a (.lst (ns.map V.int)) → sp [.ref a] H (fun v _ => v = .bl true) fun _ _ _ => False)
    (noT : ∀ H e s', T [] H z (fun _ _ _ => False) e s' → False) :
    codeAny (model P w) callerA (.call (.ref f) ⟨[.ref a], []⟩) (fun r s' => r = .ok (.ret (.bool true)) ∧ OldK z.heap s'.heap ∧ s'.os = z.os ∧ AllBare s'.gens) z := by
  have rv := vals_ints hi
  let ob : Obj := { cls := .type "list", data := .seq us.toArray }
  let H : Hp := upd (fun _ => none) a (.frz ob (.lst (ns.map V.int)))
  have eH : H a = some (.frz ob (.lst (ns.map V.int))) := upd_same
  have oH : ∀ b, b ≠ a → H b = none := fun b hb => upd_ne hb
  have only : OnlyAt a H := fun b => by
    by_cases hb : b = a
    · subst hb; exact .inr ⟨rfl, _, _, eH⟩
    · exact .inl (oH b hb)
  refine gcore KX hns hb hbb lim hg ha hr F bind H only (fun b o e => ?_) (fun _ => free) (hsp H only (.inr ⟨_, eH⟩)) (noT H)
  by_cases hb : b = a
  · subst hb
    rw [eH] at e
    cases e
    exact ⟨ha, by rw [List.length_map]; exact hl, us, 0, rv, ha⟩
  · rw [oH b hb] at e
    cases e
end
/-- the goal that the head leaves -/
theorem gwalk {l : PySem.W.OpenLaw} {n k : Nat} {q : Program} {loose : List PySem.Str} {XP : (PySem.Str → Option Value) → Heap → Prop} {YP : World → Heap → Prop} {d : DefRec} {T : CXT} {x : PySem.Str}
    (hn : l.most = some n) (hn2 : n ≤ sizeLine) (hdf : d.params.defaults = []) (hr : Room k callerA)
    (F : ∀ (w : World) (mg : PySem.Str → Option Value) (f : Addr) (h : Heap), YP w h → h.Ns mainGlobals mg → mg d.name = some (.ref f) →
      ∃ (K : PySem.W.Frag) (fd : FuncData) (sp : Sp), K.In h ∧ (∀ (s : Shared) (u : Value), BindsTo s fd ⟨[u], []⟩ [(x, u)]) ∧
        (∀ (H : Hp) (a : Addr) (ns : List Int), ns.length ≤ n → OnlyAt a H → SqL K H a (ns.map V.int) → sp [.ref a] H (fun v _ => v = .bl true) fun _ _ _ => False) ∧
        ∀ base : Heap, K.In base → base.Ns mainGlobals mg → GOk l.prog w K mg base T k f fd [x] sp)
    (noT : ∀ (H : Hp) (s : Shared) (e : Value) (s' : Shared), T [] H s (fun _ _ _ => False) e s' → False) :
    PySem.W.WalkO q loose XP YP l.row.toRowW d [] (fun f vs => PySem.call f vs) := by
  apply Att.attach_call hn hdf
  intro w s0 z mg mb f o pm cd doc a us ns G Y ho hd hcd hmg hobj hints hlen hg
  obtain ⟨K, fd, sp, KX, bind, hsp, hF⟩ := F w mg f _ Y G.T.g hmg
  cases hk : K.lookup a with
  | none =>
    refine glaw KX G.T.g G.T.b G.T.builtins G.T.nolimit hg hobj hints (Nat.le_trans hlen hn2) hr hF bind hk (fun H hO hS => hsp H a ns hlen hO (.inl hS)) fun H e s' => noT H z e s'
  | some ob =>
    have e := KX a ob hk
    rw [hobj] at e
    cases e
    have rv := vals_ints hints
    refine gcore KX G.T.g G.T.b G.T.builtins G.T.nolimit hg hobj hr hF bind (fun _ => none) (fun _ => .inl rfl) (fun b u e => nomatch e) (fun q => absurd rfl q) (hsp _ a ns hlen (fun _ => .inl rfl) (.inr ⟨_, us.toArray, _, hk, rfl, rfl, rfl, ?_, by simpa using rv⟩)) fun e s' => noT _ z e s'
    have : us.length = ns.length := hints.length
    simp only [List.size_toArray]
    omega
end DL

set_option Elab.async false
set_option linter.all false
set_option maxRecDepth 100000
set_option maxHeartbeats 2000000
/-! DL5: operators on data. -/
namespace DL
open PySem PySem.Spec PyProof.Rows L2

/-- a cell's list as data -/
def deref (st : Store) : D → D
  | .ref n => match st[n]? with
    | some (.lst ds) => .lst ds
    | _ => .ref n
  | d => d
@[simp] theorem deref_non (st : Store) : deref st .non = .non := rfl
@[simp] theorem deref_bl (st : Store) (b : Bool) : deref st (.bl b) = .bl b := rfl
@[simp] theorem deref_int (st : Store) (i : Int) : deref st (.int i) = .int i := rfl
@[simp] theorem deref_str (st : Store) (x : PySem.Str) : deref st (.str x) = .str x := rfl
@[simp] theorem deref_tup (st : Store) (xs : List D) : deref st (.tup xs) = .tup xs := rfl
@[simp] theorem deref_lst (st : Store) (xs : List D) : deref st (.lst xs) = .lst xs := rfl
section
variable {W : Wd} {M : MW} {H : Hp} {st : Store} {K : PySem.W.Frag} {σ : L2.St} {env : Ent} {E : XK} {Q : VK}
/-- what stands behind deref -/
theorem deref_cases (S : SimS W M H st) {d : D} {v : V} (r : Rep W M H d v) : deref st d = d ∨ ∃ n ds a vs, d = .ref n ∧ st[n]? = some (.lst ds) ∧ deref st d = .lst ds ∧ v = .ref a ∧ M.rho[n]? = some a ∧ H a = some (.lst vs) ∧ Reps W M H ds vs := by
  cases r with
  | ref h =>
    rename_i n a
    cases e : st[n]? with
    | none => exact .inl (by simp [deref, e])
    | some c =>
      cases c with
      | lst ds =>
        have c := S.cell n _ a e h
        cases c with
        | lst h1 r1 => exact .inr ⟨n, ds, a, _, rfl, e, by simp [deref, e], rfl, h, h1, r1⟩
      | dct kvs => exact .inl (by simp [deref, e])
  | _ => exact .inl rfl
theorem rep_dp (S : SimS W M H st) {d : D} {v : V} {n : Nat} (r : Rep W M H d v) (f : fit (deref st d) n = true) : Dp K H v (toP (deref st d)) := by
  rcases deref_cases S r with e | ⟨m, ds, a, vs, rfl, e1, e2, rfl, e3, e4, e5⟩
  · rw [e] at f ⊢
    exact r.dp f
  · rw [e2] at f ⊢
    cases n with
    | zero => simp [fit] at f
    | succ n => exact .lst (.inl (.inl e4)) (e5.dp (n := n) (by simpa [fit] using f))
/-- the items of a list or a tuple -/
def items (st : Store) (d : D) : Option (List D) := match deref st d with
  | .lst ds => some ds
  | .tup ds => some ds
  | _ => none
theorem rep_items (S : SimS W M H st) {d : D} {v : V} {ds : List D} (r : Rep W M H d v) (e : items st d = some ds) : ∃ a vs, v = .ref a ∧ Reps W M H ds vs ∧ (SqL K H a vs ∨ SqT K H a vs) := by
  unfold items at e
  rcases deref_cases S r with q | ⟨m, ds', a, vs, rfl, e1, e2, rfl, e3, e4, e5⟩
  · rw [q] at e
    cases r with
    | tup h r => cases e; exact ⟨_, _, rfl, r, .inr (.inl (.inl h))⟩
    | lst h m r => cases e; exact ⟨_, _, rfl, r, .inl (.inl h)⟩
    | _ => cases e
  · rw [e2] at e
    cases e
    exact ⟨_, _, rfl, e5, .inl (.inl (.inl e4))⟩
theorem rep_lst (S : SimS W M H st) {d : D} {v : V} {ds : List D} (r : Rep W M H d v) (e : deref st d = .lst ds) : ∃ a vs, v = .ref a ∧ Reps W M H ds vs ∧ Rd H a (.lst vs) := by
  rcases deref_cases S r with q | ⟨m, ds', a, vs, rfl, e1, e2, rfl, e3, e4, e5⟩
  · rw [q] at e
    subst e
    cases r with
    | lst h m r => exact ⟨_, _, rfl, r, h⟩
  · rw [e2] at e
    cases e
    exact ⟨_, _, rfl, e5, .inl e4⟩
theorem Fin.give {d : D} {v : V} (h : Fin W E (relD W) σ env (.ok d st) M H Q) (S : Sim W M σ H env st) (r : Rep W M H d v) : Q v H := h M v H .refl S r
theorem Fin.tup {ds : List D} {vs : List V} (h : Fin W E (relD W) σ env (.ok (.tup ds) st) M H Q) (S : Sim W M σ H env st) (r : Reps W M H ds vs) : ∀ p, H p = none → Q (.ref p) (upd H p (.tup vs)) := fun p hp =>
  h M _ _ (Stp.grow (updNew hp)) (S.grow (updNew hp)) (.newTup hp r)
theorem Fin.lst {ds : List D} {vs : List V} (h : Fin W E (relD W) σ env (.ok (.lst ds) st) M H Q) (S : Sim W M σ H env st) (r : Reps W M H ds vs) : ∀ p, H p = none → Q (.ref p) (upd H p (.lst vs)) := fun p hp => by
  obtain ⟨T, S2⟩ := frozen S.s (o := .lst vs) hp
  exact h _ _ _ T (S.step T S2) (.lst (.inl upd_same) (fun z => z.2 rfl) (r.mono T))
end

/-! ### comparisons -/
def cmpOk (a b : D) : Bool := fit a 40 && fit b 40
def opEq (st : Store) (a b : D) : Option D := if cmpOk (deref st a) (deref st b) then some (.bl (same (deref st a) (deref st b))) else none
def opNe (st : Store) (a b : D) : Option D := if cmpOk (deref st a) (deref st b) then some (.bl (!same (deref st a) (deref st b))) else none
def notNon : D → Bool
  | .non => false
  | _ => true
def ordOk (a b : D) : Bool := cmpOk a b && (alk a b && notNon a && notNon b)
def opLt (st : Store) (a b : D) : Option D := if ordOk (deref st a) (deref st b) then some (.bl (dlt (deref st a) (deref st b))) else none
def opGt (st : Store) (a b : D) : Option D := if ordOk (deref st a) (deref st b) && alk (deref st b) (deref st a) then some (.bl (dlt (deref st b) (deref st a))) else none
def opLe (st : Store) (a b : D) : Option D := if ordOk (deref st a) (deref st b) && alk (deref st b) (deref st a) then some (.bl (!dlt (deref st b) (deref st a))) else none
def opGe (st : Store) (a b : D) : Option D := if ordOk (deref st a) (deref st b) then some (.bl (!dlt (deref st a) (deref st b))) else none
def opIn (st : Store) (a b : D) : Option D := match items st b with
  | some ds => if fit (deref st a) 40 && fits ds 40 then some (.bl (ds.any fun y => same y (deref st a))) else none
  | none => none
def opNotIn (st : Store) (a b : D) : Option D := match items st b with
  | some ds => if fit (deref st a) 40 && fits ds 40 then some (.bl (!(ds.any fun y => same y (deref st a)))) else none
  | none => none
def rCmpP (K : PySem.W.Frag) (pr : PyData → PyData → Prop) (g : PyData → PyData → Bool) : R2 := fun x y H Q => ∃ d e, Dp K H x d ∧ Dp K H y e ∧ pr d e ∧ Q (.bl (g d e)) H
def prEq (d e : PyData) : Prop := d.plain = true ∧ e.plain = true ∧ d.depth ≤ 40
def prLt (d e : PyData) : Prop := PySem.W.alike d e = true ∧ d ≠ .none ∧ d.depth ≤ 40
section
variable {X : Cx}
theorem un_min {A : Around} {d e : Nat} (hu : A.units + 64 < cLine) (h : d ≤ 40) : A.units + min d e < cLine := by omega
theorem op_eqP (hu : X.A.units + 64 < cLine) : OpR X (compareOp .Eq) (rCmpP X.K prEq PyData.eqv) := by
  rintro pins s σ H x y v u Q I rx ry ⟨d, e, hd, he, ⟨p1, p2, p3⟩, q⟩
  obtain ⟨as, r1⟩ := Dp.reads I d x v hd rx
  obtain ⟨bs, r2⟩ := Dp.reads I e y u he ry
  exact PySem.SeqAt.eq_plain r1 r2 p1 p2 (un_min hu p3) ⟨.bl _, H, I, rfl, q⟩
theorem op_neP (hu : X.A.units + 64 < cLine) : OpR X (compareOp .NotEq) (rCmpP X.K prEq fun a b => !PyData.eqv a b) := by
  rintro pins s σ H x y v u Q I rx ry ⟨d, e, hd, he, ⟨p1, p2, p3⟩, q⟩
  obtain ⟨as, r1⟩ := Dp.reads I d x v hd rx
  obtain ⟨bs, r2⟩ := Dp.reads I e y u he ry
  exact PySem.SeqAt.ne_plain r1 r2 p1 p2 (un_min hu p3) ⟨.bl _, H, I, rfl, q⟩
theorem op_ltP (hu : X.A.units + 64 < cLine) : OpR X (compareOp .Lt) (rCmpP X.K prLt PySem.W.dataLt) := by
  rintro pins s σ H x y v u Q I rx ry ⟨d, e, hd, he, ⟨p1, p2, p3⟩, q⟩
  obtain ⟨as, r1⟩ := Dp.reads I d x v hd rx
  obtain ⟨bs, r2⟩ := Dp.reads I e y u he ry
  exact PySem.W.lt_data r1 r2 p1 p2 (un_min hu p3) ⟨.bl _, H, I, rfl, q⟩
theorem op_gtP (hu : X.A.units + 64 < cLine) : OpR X (compareOp .Gt) (rCmpP X.K prLt fun a b => PySem.W.dataLt b a) := by
  rintro pins s σ H x y v u Q I rx ry ⟨d, e, hd, he, ⟨p1, p2, p3⟩, q⟩
  obtain ⟨as, r1⟩ := Dp.reads I d x v hd rx
  obtain ⟨bs, r2⟩ := Dp.reads I e y u he ry
  exact PySem.W.gt_data r1 r2 p1 p2 (un_min hu p3) ⟨.bl _, H, I, rfl, q⟩
theorem op_leP (hu : X.A.units + 64 < cLine) : OpR X (compareOp .LtE) (rCmpP X.K prLt fun a b => !PySem.W.dataLt b a) := by
  rintro pins s σ H x y v u Q I rx ry ⟨d, e, hd, he, ⟨p1, p2, p3⟩, q⟩
  obtain ⟨as, r1⟩ := Dp.reads I d x v hd rx
  obtain ⟨bs, r2⟩ := Dp.reads I e y u he ry
  exact PySem.W.le_data r1 r2 p1 p2 (un_min hu p3) ⟨.bl _, H, I, rfl, q⟩
theorem op_geP (hu : X.A.units + 64 < cLine) : OpR X (compareOp .GtE) (rCmpP X.K prLt fun a b => !PySem.W.dataLt a b) := by
  rintro pins s σ H x y v u Q I rx ry ⟨d, e, hd, he, ⟨p1, p2, p3⟩, q⟩
  obtain ⟨as, r1⟩ := Dp.reads I d x v hd rx
  obtain ⟨bs, r2⟩ := Dp.reads I e y u he ry
  exact PySem.W.ge_data r1 r2 p1 p2 (un_min hu p3) ⟨.bl _, H, I, rfl, q⟩
end
section
variable {W : Wd} {K : PySem.W.Frag}
theorem cmpOk_prEq {a b : D} (h : cmpOk a b = true) : prEq (toP a) (toP b) := by
  simp only [cmpOk, Bool.and_eq_true] at h
  exact ⟨(plain_toP a 40 h.1).1, (plain_toP b 40 h.2).1, (plain_toP a 40 h.1).2⟩
theorem toP_non {a : D} (h : fit a 40 = true) (n : notNon a = true) : toP a ≠ .none := by
  cases a <;> simp_all [toP, fit, notNon]
theorem od_eq : OpD W (rCmpP K prEq PyData.eqv) opEq := by
  intro E M σ H env st a b x y Q S ra rb h
  unfold opEq at h
  by_cases f : cmpOk (deref st a) (deref st b) = true
  · rw [if_pos f] at h
    have f' := f
    simp only [cmpOk, Bool.and_eq_true] at f'
    refine ⟨_, _, rep_dp S.s ra f'.1, rep_dp S.s rb f'.2, cmpOk_prEq f, ?_⟩
    simp only [eqv_toP _ _ 40 40 f'.1 f'.2]
    exact h.give S (.bl _)
  · rw [if_neg f] at h; exact h.elim
theorem od_ne : OpD W (rCmpP K prEq fun a b => !PyData.eqv a b) opNe := by
  intro E M σ H env st a b x y Q S ra rb h
  unfold opNe at h
  by_cases f : cmpOk (deref st a) (deref st b) = true
  · rw [if_pos f] at h
    have f' := f
    simp only [cmpOk, Bool.and_eq_true] at f'
    refine ⟨_, _, rep_dp S.s ra f'.1, rep_dp S.s rb f'.2, cmpOk_prEq f, ?_⟩
    simp only [eqv_toP _ _ 40 40 f'.1 f'.2]
    exact h.give S (.bl _)
  · rw [if_neg f] at h; exact h.elim
theorem ordOk_pr {a b : D} (h : ordOk a b = true) : prLt (toP a) (toP b) ∧ fit a 40 = true ∧ fit b 40 = true ∧ alk a b = true ∧ notNon b = true := by
  simp only [ordOk, cmpOk, Bool.and_eq_true] at h
  exact ⟨⟨alike_toP a b h.2.1.1, toP_non h.1.1 h.2.1.2, (plain_toP a 40 h.1.1).2⟩, h.1.1, h.1.2, h.2.1.1, h.2.2⟩
theorem od_lt : OpD W (rCmpP K prLt PySem.W.dataLt) opLt := by
  intro E M σ H env st a b x y Q S ra rb h
  unfold opLt at h
  by_cases f : ordOk (deref st a) (deref st b) = true
  · rw [if_pos f] at h
    obtain ⟨p, f1, f2, al, _⟩ := ordOk_pr f
    refine ⟨_, _, rep_dp S.s ra f1, rep_dp S.s rb f2, p, ?_⟩
    simp only [dataLt_toP _ _ 40 40 f1 f2 al]
    exact h.give S (.bl _)
  · rw [if_neg f] at h; exact h.elim
theorem od_ge : OpD W (rCmpP K prLt fun a b => !PySem.W.dataLt a b) opGe := by
  intro E M σ H env st a b x y Q S ra rb h
  unfold opGe at h
  by_cases f : ordOk (deref st a) (deref st b) = true
  · rw [if_pos f] at h
    obtain ⟨p, f1, f2, al, _⟩ := ordOk_pr f
    refine ⟨_, _, rep_dp S.s ra f1, rep_dp S.s rb f2, p, ?_⟩
    simp only [dataLt_toP _ _ 40 40 f1 f2 al]
    exact h.give S (.bl _)
  · rw [if_neg f] at h; exact h.elim
theorem od_gt : OpD W (rCmpP K prLt fun a b => PySem.W.dataLt b a) opGt := by
  intro E M σ H env st a b x y Q S ra rb h
  unfold opGt at h
  by_cases f : (ordOk (deref st a) (deref st b) && alk (deref st b) (deref st a)) = true
  · rw [if_pos f] at h
    rw [Bool.and_eq_true] at f
    obtain ⟨p, f1, f2, al, _⟩ := ordOk_pr f.1
    refine ⟨_, _, rep_dp S.s ra f1, rep_dp S.s rb f2, p, ?_⟩
    simp only [dataLt_toP _ _ 40 40 f2 f1 f.2]
    exact h.give S (.bl _)
  · rw [if_neg f] at h; exact h.elim
theorem od_le : OpD W (rCmpP K prLt fun a b => !PySem.W.dataLt b a) opLe := by
  intro E M σ H env st a b x y Q S ra rb h
  unfold opLe at h
  by_cases f : (ordOk (deref st a) (deref st b) && alk (deref st b) (deref st a)) = true
  · rw [if_pos f] at h
    rw [Bool.and_eq_true] at f
    obtain ⟨p, f1, f2, al, _⟩ := ordOk_pr f.1
    refine ⟨_, _, rep_dp S.s ra f1, rep_dp S.s rb f2, p, ?_⟩
    simp only [dataLt_toP _ _ 40 40 f2 f1 f.2]
    exact h.give S (.bl _)
  · rw [if_neg f] at h; exact h.elim
end
/-! ### in -/
def rInP (K : PySem.W.Frag) (neg : Bool) : R2 := fun x y H Q => ∃ d e, Dp K H x d ∧ (Dp K H y (.list e) ∨ Dp K H y (.tuple e)) ∧ (PyData.plainAll e = true ∧ d.plain = true ∧ d.depth ≤ 40) ∧ Q (.bl (if neg then !(e.any fun z => PyData.eqv z d) else e.any fun z => PyData.eqv z d)) H
section
variable {X : Cx}
theorem un_min2 {A : Around} {d e : Nat} (hu : A.units + 64 < cLine) (h : d ≤ 40) : A.units + 1 + min e d < cLine := by omega
theorem op_inP (hu : X.A.units + 64 < cLine) : OpR X (compareOp .In) (rInP X.K false) := by
  rintro pins s σ H x y v u Q I rx ry ⟨d, e, hd, he, ⟨p1, p2, p3⟩, q⟩
  obtain ⟨as, r1⟩ := Dp.reads I d x v hd rx
  rcases he with he | he
  · obtain ⟨bs, r2⟩ := Dp.reads I _ y u he ry
    exact PySem.SeqAt.in_list_data r2 r1 p1 p2 (un_min2 hu p3) ⟨.bl _, H, I, rfl, q⟩
  · obtain ⟨bs, r2⟩ := Dp.reads I _ y u he ry
    exact PySem.SeqAt.in_tuple_data r2 r1 p1 p2 (un_min2 hu p3) ⟨.bl _, H, I, rfl, q⟩
theorem op_notInP (hu : X.A.units + 64 < cLine) : OpR X (compareOp .NotIn) (rInP X.K true) := by
  rintro pins s σ H x y v u Q I rx ry ⟨d, e, hd, he, ⟨p1, p2, p3⟩, q⟩
  obtain ⟨as, r1⟩ := Dp.reads I d x v hd rx
  rcases he with he | he
  · obtain ⟨bs, r2⟩ := Dp.reads I _ y u he ry
    exact PySem.SeqAt.notIn_list_data r2 r1 p1 p2 (un_min2 hu p3) ⟨.bl _, H, I, rfl, q⟩
  · obtain ⟨bs, r2⟩ := Dp.reads I _ y u he ry
    exact PySem.SeqAt.notIn_tuple_data r2 r1 p1 p2 (un_min2 hu p3) ⟨.bl _, H, I, rfl, q⟩
end
section
variable {W : Wd} {K : PySem.W.Frag} {M : MW} {H : Hp} {st : Store}
theorem rep_itemsDp (S : SimS W M H st) {d : D} {v : V} {ds : List D} {n : Nat} (r : Rep W M H d v) (e : items st d = some ds) (f : fits ds n = true) : Dp K H v (.list (toPs ds)) ∨ Dp K H v (.tuple (toPs ds)) := by
  obtain ⟨a, vs, rfl, rs, h | h⟩ := rep_items (K := K) S r e
  · exact .inl (.lst h (rs.dp f))
  · exact .inr (.tup h (rs.dp f))
theorem any_toPs : ∀ (ds : List D) (a : D) (n m : Nat), fits ds n = true → fit a m = true → ((toPs ds).any fun z => PyData.eqv z (toP a)) = ds.any fun z => same z a
  | [], _, _, _, _, _ => rfl
  | d :: ds, a, n, m, f, g => by
    simp only [fits, Bool.and_eq_true] at f
    simp only [toPs, List.any_cons]
    rw [eqv_toP d a n m f.1 g, any_toPs ds a n m f.2 g]
theorem od_in : OpD W (rInP K false) opIn := by
  intro E M σ H env st a b x y Q S ra rb h
  unfold opIn at h
  cases e : items st b with
  | none => rw [e] at h; exact h.elim
  | some ds =>
    rw [e] at h
    simp only at h
    by_cases f : (fit (deref st a) 40 && fits ds 40) = true
    · rw [if_pos f] at h
      rw [Bool.and_eq_true] at f
      refine ⟨_, _, rep_dp S.s ra f.1, rep_itemsDp S.s rb e f.2, ⟨(plain_toPs ds 40 f.2).1, plain_toP _ 40 f.1⟩, ?_⟩
      rw [any_toPs ds _ 40 40 f.2 f.1]
      exact h.give S (.bl _)
    · rw [if_neg f] at h; exact h.elim
theorem od_notIn : OpD W (rInP K true) opNotIn := by
  intro E M σ H env st a b x y Q S ra rb h
  unfold opNotIn at h
  cases e : items st b with
  | none => rw [e] at h; exact h.elim
  | some ds =>
    rw [e] at h
    simp only at h
    by_cases f : (fit (deref st a) 40 && fits ds 40) = true
    · rw [if_pos f] at h
      rw [Bool.and_eq_true] at f
      refine ⟨_, _, rep_dp S.s ra f.1, rep_itemsDp S.s rb e f.2, ⟨(plain_toPs ds 40 f.2).1, plain_toP _ 40 f.1⟩, ?_⟩
      rw [any_toPs ds _ 40 40 f.2 f.1]
      exact h.give S (.bl _)
    · rw [if_neg f] at h; exact h.elim
/-! ### is None -/
def opIsN (_ : Store) (a b : D) : Option D := match b with
  | .non => some (.bl (!notNon a))
  | _ => none
def opNotN (_ : Store) (a b : D) : Option D := match b with
  | .non => some (.bl (notNon a))
  | _ => none
theorem rep_isN {d : D} {v : V} (r : Rep W M H d v) : decide (v = .non) = !notNon d := by
  cases r <;> simp [notNon]
theorem od_isN : OpD W (fun x y H Q => y = .non ∧ Q (.bl (decide (x = .non))) H) opIsN := by
  intro E M σ H env st a b x y Q S ra rb h
  cases rb with
  | non => exact ⟨rfl, by rw [rep_isN ra]; exact h.give S (.bl _)⟩
  | _ => exact h.elim
theorem od_notN : OpD W (fun x y H Q => y = .non ∧ Q (.bl (!decide (x = .non))) H) opNotN := by
  intro E M σ H env st a b x y Q S ra rb h
  cases rb with
  | non => exact ⟨rfl, by rw [rep_isN ra, Bool.not_not]; exact h.give S (.bl _)⟩
  | _ => exact h.elim
end
end DL

set_option Elab.async false
set_option linter.all false
set_option maxRecDepth 100000
set_option maxHeartbeats 2000000
/-! DL6: slices of tuples and lists, + of tuples. -/
namespace DL
open PySem PySem.Spec PyProof.Rows L2
section
variable {prog : Program} {w : World} {A : Around} {E : Value → Shared → Prop} {s : Shared}
theorem slicePart_of {v : Value} {o : Option Int} {Q : Option Int → Shared → Prop} (p : IsPart v o) (h : Q o s) : wpAny (model prog w) A (Builtin.Slice.slicePartIndex v) Q E s := by
  cases p
  · exact slicePart_none h
  · exact slicePart_int h
/-- the bounds of a slice, any step but 0 -/
theorem sliceOf {sl : Addr} {va vb vc : Value} {a b c : Option Int} {len : Int} {Q : Int × Int × Nat → Shared → Prop} (hs : s.heap.IsSliceOf sl va vb vc) (pa : IsPart va a) (pb : IsPart vb b) (pc : IsPart vc c) (h0 : c.getD 1 ≠ 0)
    (h : Q ((Builtin.Slice.sliceAdjust a b (c.getD 1) len).1, c.getD 1, Builtin.Slice.slicePlaces (Builtin.Slice.sliceAdjust a b (c.getD 1) len).1 (Builtin.Slice.sliceAdjust a b (c.getD 1) len).2 (c.getD 1)) s) :
    wpAny (model prog w) A (Builtin.Slice.sliceApplied (.ref sl) (pure len)) Q E s := by
  obtain ⟨ob, e1, e2, e3⟩ := id hs
  unfold Builtin.Slice.sliceApplied Builtin.Slice.sliceFields
  apply wpAny_bind
  apply wpAny_bind
  apply wpAny_field e1 e3 (x := va) rfl
  apply wpAny_bind
  apply wpAny_field e1 e3 (x := vb) rfl
  apply wpAny_bind
  apply wpAny_field e1 e3 (x := vc) rfl
  apply wpAny_pure
  apply wpAny_bind
  apply slicePart_of pc
  have hne : ¬ ((c.getD 1 == 0) = true) := by simpa using h0
  show wpAny (model prog w) A (if (c.getD 1 == 0) = true then _ else _) Q E s
  rw [if_neg hne]
  apply wpAny_bind
  apply slicePart_of pa
  apply wpAny_bind
  apply slicePart_of pb
  apply wpAny_bind
  apply wpAny_pure
  exact wpAny_pure h
def pickAt {α : Type} (xs : List α) (a step : Int) (k : Nat) : List α := (List.range k).filterMap fun (m : Nat) => xs[(a + (m : Int) * step).toNat]?
theorem pickAt_len {α : Type} (xs : List α) (a step : Int) (k : Nat) : (pickAt xs a step k).length ≤ k := by
  unfold pickAt
  exact Nat.le_trans (List.length_filterMap_le _ _) (by simp)
/-- t[..:..:..] -/
theorem tupleSlice {t sl : Addr} {its : Array Value} {va vb vc : Value} {a b c : Option Int} {Q : Value → Shared → Prop} (ht : IsTup s.heap t its) (hs : s.heap.IsSliceOf sl va vb vc) (pa : IsPart va a) (pb : IsPart vb b) (pc : IsPart vc c) (h0 : c.getD 1 ≠ 0)
    (lo step : Int) (k : Nat) (e : (lo, step, k) = ((Builtin.Slice.sliceAdjust a b (c.getD 1) its.size).1, c.getD 1, Builtin.Slice.slicePlaces (Builtin.Slice.sliceAdjust a b (c.getD 1) its.size).1 (Builtin.Slice.sliceAdjust a b (c.getD 1) its.size).2 (c.getD 1)))
    (hk : k ≤ sizeLine) (whole : lo = 0 → step = 1 → k = its.size → Q (.ref t) s)
    (part : ¬ (lo = 0 ∧ step = 1 ∧ k = its.size) → Q (.ref s.heap.objs.size) { s with heap := s.heap.push { cls := .type "tuple", data := .seq (pickAt its.toList lo step k).toArray } }) :
    wpAny (model prog w) A (getItem (.ref t) (.ref sl)) Q E s := by
  obtain ⟨ob, e1, e2, e3⟩ := id hs
  have isl : s.TypeIs (.ref sl) "slice" := ⟨ob, e1, e2⟩
  have fits : sizeOk (.seq (pickAt its.toList lo step k).toArray) := by
    show (pickAt its.toList lo step k).toArray.size ≤ sizeLine
    rw [List.size_toArray]
    exact Nat.le_trans (pickAt_len _ _ _ _) hk
  have same : ((List.range k).filterMap fun (m : Nat) => its[(lo + (m : Int) * step).toNat]?).toArray = (pickAt its.toList lo step k).toArray := by
    unfold pickAt
    congr 1
    congr 1
    funext m
    simp
  unfold getItem
  try with_reducible refine wpAny_holding ?_
  first
    | refine wpAny_bind (wpAny_pure ?_)
    | skip
  refine wpAny_bind (wpAny_sequenceKey ht.typeIs (by decide) ?_)
  refine wpAny_bind (wpAny_callSpecial?_slot (name := Str.ofString "__getitem__") ht.typeIs PyProof.Rows.slot_tuple_getitem ?_)
  refine wpAny_call_entry PyProof.Rows.slot_tuple_getitem ht.typeIs PyProof.Rows.entry_tuple_getitem ?_ (PyProof.Rows.args_tuple_getitem _ _)
  show wpAny _ _ (Builtin.Tuple.tupleItemsOf (.ref t) >>= _) _ _ s
  refine wpAny_bind (tupleItemsOf_ ht ?_)
  refine wpAny_bind (wpAny_typeOf isl ?_)
  rw [if_pos (by decide)]
  refine wpAny_bind (sliceOf hs pa pb pc h0 ?_)
  rw [← e]
  show wpAny _ _ (if (lo == 0 && step == 1 && k == its.size) = true then _ else _) _ _ s
  by_cases hw : lo = 0 ∧ step = 1 ∧ k = its.size
  · obtain ⟨w1, w2, w3⟩ := hw
    rw [if_pos (by subst w1 w2 w3; simp)]
    unfold Builtin.Tuple.tupleIsExact
    refine wpAny_bind (wpAny_bind (wpAny_typeOf ht.typeIs (wpAny_pure ?_)))
    rw [if_pos (by decide)]
    exact wpAny_bind (wpAny_rule (wpAny_pure ⟨_, rfl, wpAny_pure (whole w1 w2 w3)⟩))
  · rw [if_neg (by simpa [and_assoc] using hw), same]
    have h2 := part hw
    first
      | exact wpAny_bind (m := Builtin.Tuple.tupleExact _) (wpAny_newObj_type (wpAny_pure ⟨_, rfl, wpAny_pure h2⟩) fits)
      | exact wpAny_bind (m := Builtin.Tuple.tupleExact _) (wpAny_newObj_type (wpAny_bind (wpAny_pure (wpAny_pure ⟨_, rfl, wpAny_pure h2⟩))) fits)
      | exact wpAny_bind (wpAny_bind (m := Builtin.Tuple.tupleExact _) (wpAny_newObj_type (wpAny_pure (wpAny_pure ⟨_, rfl, wpAny_pure h2⟩)) fits))
end
end DL

set_option Elab.async false
set_option linter.all false
set_option maxRecDepth 100000
set_option maxHeartbeats 2000000
/-! DL7: slices as expressions. -/
namespace DL
open PySem PySem.Spec PyProof.Rows L2
def cutD {α : Type} (xs : List α) (lo hi : Option Int) : List α := (xs.drop (HT.sIx xs.length 0 lo)).take (HT.sIx xs.length xs.length hi - HT.sIx xs.length 0 lo)
theorem cutV_eq (xs : List V) (lo hi : Option Int) : cutV xs lo hi = cutD xs lo hi := rfl
theorem pickAt_eq {α : Type} : ∀ (xs : List α) (i k : Nat), pickAt xs (i : Int) 1 k = (xs.drop i).take k := by
  intro xs i k
  unfold pickAt
  have e : (fun (m : Nat) => xs[((i : Int) + (m : Int) * 1).toNat]?) = fun m => (xs.drop i)[m]? := by
    funext m
    have : ((i : Int) + (m : Int) * 1).toNat = i + m := by omega
    rw [this, List.getElem?_drop]
  rw [e]
  generalize xs.drop i = ys
  induction k with
  | zero => simp
  | succ k ih =>
    rw [List.range_succ, List.filterMap_append, ih, List.take_add_one]
    cases e : ys[k]? <;> simp [e]
theorem fm_congr {α β : Type} {f g : α → Option β} : ∀ {l : List α}, (∀ x ∈ l, f x = g x) → l.filterMap f = l.filterMap g
  | [], _ => rfl
  | x :: l, h => by
    rw [List.filterMap_cons, List.filterMap_cons, h x (List.mem_cons_self ..), fm_congr fun y hy => h y (List.mem_cons_of_mem _ hy)]
theorem pickAt_rev {α : Type} (xs : List α) : pickAt xs ((xs.length : Int) - 1) (-1) xs.length = xs.reverse := by
  unfold pickAt
  have e : (List.range xs.length).filterMap (fun (m : Nat) => xs[((xs.length : Int) - 1 + (m : Int) * (-1)).toNat]?) = (List.range xs.length).filterMap fun m => xs.reverse[m]? := by
    apply fm_congr
    intro m hm
    have hm := List.mem_range.mp hm
    have : ((xs.length : Int) - 1 + (m : Int) * (-1)).toNat = xs.length - 1 - m := by omega
    rw [this, List.getElem?_reverse hm]
  rw [e]
  have h := pickAt_eq xs.reverse 0 xs.length
  unfold pickAt at h
  have e2 : (fun (m : Nat) => xs.reverse[(((0 : Nat) : Int) + (m : Int) * 1).toNat]?) = fun m => xs.reverse[m]? := by
    funext m
    have : (((0 : Nat) : Int) + (m : Int) * 1).toNat = m := by omega
    rw [this]
  rw [e2] at h
  rw [h, List.drop_zero]
  exact List.take_of_length_le (by simp)
/-- t[lo:hi] of a tuple, the whole too -/
def rSlA : V → Option Int → Option Int → Hp → VK → Prop := fun x lo hi H Q => ∃ a xs, x = .ref a ∧ H a = some (.tup xs) ∧ (cutD xs lo hi = xs → Q (.ref a) H) ∧ ∀ p, H p = none → Q (.ref p) (upd H p (.tup (cutD xs lo hi)))
theorem sl_tupA {X : Cx} : SlR X rSlA := by
  rintro pins s σ H x v vl vu lo hi sl Q I rx hs pl pu ⟨a, xs, rfl, hx, q1, q2⟩
  cases rx
  obtain ⟨its, r, ht, hz⟩ := I.tuple (.inl (.inl hx))
  have hlen : its.toArray.size = xs.length := by rw [List.size_toArray]; exact r.length.symm
  have hz' : its.toArray.size ≤ sizeLine := by rw [hlen]; exact hz
  refine ⟨"tuple", _, PyProof.Rows.slot_tuple_getitem.lookup, ht.typeIs, ?_⟩
  have le1 : HT.sIx xs.length xs.length hi ≤ xs.length := HT.sIx_le _ _ (Nat.le_refl _) hi
  refine tupleSlice ht hs pl pu .none (by decide) ((HT.sIx xs.length 0 lo : Nat) : Int) 1 (HT.sIx xs.length xs.length hi - HT.sIx xs.length 0 lo) ?_ ?_ (fun w1 _ w3 => ?_) (fun hw => ?_)
  · show _ = ((Builtin.Slice.sliceAdjust lo hi 1 _).1, (1 : Int), Builtin.Slice.slicePlaces (Builtin.Slice.sliceAdjust lo hi 1 _).1 (Builtin.Slice.sliceAdjust lo hi 1 _).2 1)
    rw [hlen, HT.adjust_gen, HT.places_gen]
  · omega
  · refine ⟨.ref a, H, I, rfl, q1 ?_⟩
    unfold cutD
    have w1' : HT.sIx xs.length 0 lo = 0 := by omega
    rw [w1'] at w3 ⊢
    rw [List.drop_zero]
    exact List.take_of_length_le (by omega)
  · rw [pickAt_eq]
    refine ⟨.ref s.heap.objs.size, _, I.laid (t' := s.toks) (o := .tup (cutD xs lo hi)) (fun b ob q => Heap.get?_push_of_some _ q) (Nat.le_refl _) ?_, rfl, q2 _ (I.hok.fresh (Nat.le_refl _))⟩
    have rr : Vals (cutD xs lo hi) ((its.drop (HT.sIx xs.length 0 lo)).take (HT.sIx xs.length xs.length hi - HT.sIx xs.length 0 lo)) := (r.drop _).take _
    refine ⟨Nat.le_trans ?_ hz, _, rr, IsTup.new _ _⟩
    unfold cutD
    rw [List.length_take, List.length_drop]
    omega
abbrev EvO := Ent → Store → R (Option Int)
abbrev relO : MW → Hp → Option Int → Option Int → Prop := fun _ _ a b => a = b
def DO (X : Cx) (W : Wd) (E : XK) (e : Option Expr) (f : EvO) : Prop := PO X e (Lift W E relO f)
def oNone : EvO := fun _ st => .ok none st
def oSome (f : Ev) : EvO := fun env st => (f env st).bind fun a st1 => match a with
  | .int i => .ok (some i) st1
  | _ => .no
def opSl (st : Store) (a : D) (lo hi : Option Int) : Option D := match deref st a with
  | .tup ds => some (.tup (cutD ds lo hi))
  | .lst ds => some (.lst (cutD ds lo hi))
  | _ => none
def eSl (f : Ev) (lo hi : EvO) : Ev := fun env st => (f env st).bind fun a st1 => (lo env st1).bind fun l st2 => (hi env st2).bind fun h st3 => R.ofO (opSl st3 a l h) st3
/-- a list's slice, as a new list -/
def opSlN (st : Store) (a : D) (lo hi : Option Int) : Option (List D) := match deref st a with
  | .lst ds => some (cutD ds lo hi)
  | _ => none
def nSl (f : Ev) (lo hi : EvO) : EvL := fun env st => (f env st).bind fun a st1 => (lo env st1).bind fun l st2 => (hi env st2).bind fun h st3 => R.ofO (opSlN st3 a l h) st3
section
variable {X : Cx} {W : Wd} {E : XK} {e : Expr} {f : Ev} {lo hi : Option Expr} {fl fh : EvO} {pos p2 : Pos}
theorem do_none : DO X W E none oNone := ⟨fun pins s σ H Q I ⟨M, env, st, S, q⟩ => po_none.run pins s σ H Q I (q M none H .refl S rfl)⟩
theorem do_some (h : DE X W E e f) : DO X W E (some e) (oSome f) := ⟨fun pins s σ H Q I ⟨M, env, st, S, q⟩ => (po_some h).run pins s σ H Q I ⟨M, env, st, S, Fin.bind q fun d st1 M1 x H1 T1 S1 r1 q1 => by
  cases d with
  | int i => cases r1; exact ⟨i, rfl, q1 M1 _ H1 .refl S1 rfl⟩
  | _ => exact q1.elim⟩⟩
theorem Reps.cut {M : MW} {H : Hp} {ds : List D} {vs : List V} (r : Reps W M H ds vs) (lo hi : Option Int) : Reps W M H (cutD ds lo hi) (cutD vs lo hi) := by
  unfold cutD
  rw [r.length]
  exact (r.drop _).take _
theorem de_sl (he : DE X W E e f) (hl : DO X W E lo fl) (hh : DO X W E hi fh) : DE X W E (.Subscript e (.Slice lo hi none p2) pos) (eSl f fl fh) :=
  PEmono (pe_slice (sl_list.or sl_tupA) he hl hh) fun σ H Q ⟨M, env, st, S, q⟩ => ⟨M, env, st, S, Fin.bind q fun a st1 M1 x H1 T1 S1 r1 q1 =>
    ⟨M1, env, st1, S1, Fin.bind q1 fun l st2 M2 l' H2 T2 S2 e2 q2 => ⟨M2, env, st2, S2, Fin.bind q2 fun h st3 M3 h' H3 T3 S3 e3 q3 => by
      subst e2 e3
      have r3 := (r1.mono T2).mono T3
      unfold opSl at q3
      cases hd : deref st3 a with
      | tup ds =>
        rw [hd] at q3
        have ra : a = .tup ds := by
          rcases deref_cases S3.s r3 with z | ⟨_, _, _, _, _, _, z, _⟩
          · rw [← z]; exact hd
          · rw [z] at hd; cases hd
        subst ra
        cases r3 with
        | tup hh rs =>
          refine .inr ⟨_, _, rfl, hh, fun w => q3.give S3 (.tup hh ?_), q3.tup S3 (rs.cut l h)⟩
          have := rs.cut l h
          rw [w] at this
          exact this
      | lst ds =>
        rw [hd] at q3
        obtain ⟨p, vs, rfl, rs, rd⟩ := rep_lst S3.s r3 hd
        exact .inl ⟨p, vs, rfl, .inl rd, q3.lst S3 (rs.cut l h)⟩
      | _ => rw [hd] at q3; exact q3.elim⟩⟩⟩
theorem dn_sl (he : DE X W E e f) (hl : DO X W E lo fl) (hh : DO X W E hi fh) : DN X W E (.Subscript e (.Slice lo hi none p2) pos) (nSl f fl fh) :=
  PEmono (pe_slice sl_list he hl hh) fun σ H Q ⟨M, env, st, S, q⟩ => ⟨M, env, st, S, Fin.bind q fun a st1 M1 x H1 T1 S1 r1 q1 =>
    ⟨M1, env, st1, S1, Fin.bind q1 fun l st2 M2 l' H2 T2 S2 e2 q2 => ⟨M2, env, st2, S2, Fin.bind q2 fun h st3 M3 h' H3 T3 S3 e3 q3 => by
      subst e2 e3
      have r3 := (r1.mono T2).mono T3
      unfold opSlN at q3
      cases hd : deref st3 a with
      | lst ds =>
        rw [hd] at q3
        obtain ⟨p, vs, rfl, rs, rd⟩ := rep_lst S3.s r3 hd
        exact ⟨p, vs, rfl, .inl rd, fun z hz => q3 M3 _ H3 .refl S3 (rs.cut l h) z hz⟩
      | _ => rw [hd] at q3; exact q3.elim⟩⟩⟩

/-! ### [::-1] -/
theorem rev_bounds (n : Nat) : ((Builtin.Slice.sliceAdjust none none (-1) (n : Int)).1, (-1 : Int), Builtin.Slice.slicePlaces (Builtin.Slice.sliceAdjust none none (-1) (n : Int)).1 (Builtin.Slice.sliceAdjust none none (-1) (n : Int)).2 (-1)) = ((n : Int) - 1, -1, n) := by
  have e1 : (Builtin.Slice.sliceAdjust none none (-1) (n : Int)) = ((n : Int) - 1, -1) := rfl
  rw [e1]
  have e2 : Builtin.Slice.slicePlaces ((n : Int) - 1) (-1) (-1) = n := by
    unfold Builtin.Slice.slicePlaces
    rw [if_neg (by decide)]
    by_cases h : (n : Int) - 1 > -1
    · rw [if_pos h]
      have : ((n : Int) - 1 - -1 - 1) / (- -1) = (n : Int) - 1 := by
        rw [show (- -1 : Int) = 1 by decide, Int.ediv_one]
        omega
      rw [this]
      omega
    · rw [if_neg h]
      omega
  rw [e2]
def opRev (st : Store) (a : D) : Option D := match deref st a with
  | .tup ds => some (.tup ds.reverse)
  | .lst ds => some (.lst ds.reverse)
  | _ => none
def eRev (f : Ev) : Ev := eUn opRev f
/-- the step is the literal -1, the bounds are open -/
theorem pe_rev {te : TE} {j1 : Nat} {p3 p4 : Pos} (he : PE X e te) : PE X (.Subscript e (.Slice none none (some (.UnaryOp .USub (.Constant (.int 1) j1 p3) p4)) p2) pos)
    (fun σ H Q => te σ H fun x H1 => (∃ a xs, x = .ref a ∧ H1 a = some (.tup xs) ∧ ∀ p, H1 p = none → Q (.ref p) (upd H1 p (.tup xs.reverse))) ∨ ∃ a xs, x = .ref a ∧ SqL X.K H1 a xs ∧ ∀ p, H1 p = none → Q (.ref p) (upd H1 p (.lst xs.reverse))) where
  run := by
    intro pins s σ H Q I h
    refine Subscript_ (thn (he.run pins s σ H _ I h) ?_)
    rintro v s1 ⟨x, H1, I1, r1, q1⟩
    refine wpAny_Slice ?_
    rw [evalPart_none, evalPart_some]
    refine wpAny_pure (wpAny_pure ?_)
    refine thn ((pe_un un_neg pe_int).run pins s1 σ H1 (fun z H2 => z = .int (-1) ∧ H2 = H1) I1 ⟨1, rfl, rfl, rfl⟩) ?_
    rintro u s2 ⟨z, H2, I2, r2, rfl, rfl⟩
    obtain ⟨t, rfl⟩ := r2
    let s3 : Shared := { s2 with heap := s2.heap.push { cls := .type "slice", data := .fields #[.none, .none, .int (-1) t] } }
    have I3 : Inv X pins σ H2 s3 := I2.kept (t' := s2.toks) fun b ob q => Heap.get?_push_of_some _ q
    have hs : s3.heap.IsSliceOf s2.heap.objs.size .none .none (.int (-1) t) := Heap.IsSliceOf.new ..
    show wpAny (model X.prog X.w) X.A (subscriptTail e _ v (.ref s2.heap.objs.size)) (EP X pins σ Q) X.xe s3
    rcases q1 with ⟨a, xs, rfl, hx, q⟩ | ⟨a, xs, rfl, hx, q⟩
    · cases r1
      obtain ⟨its, r, ht, hz⟩ := I3.tuple (.inl (.inl hx))
      have hlen : its.toArray.size = xs.length := by rw [List.size_toArray]; exact r.length.symm
      refine tail_any (ops := [.ref a, .ref s2.heap.objs.size]) ht.typeIs PyProof.Rows.slot_tuple_getitem.lookup ?_ (by with_unfolding_all rfl)
      refine tupleSlice ht hs .none .none (.int (-1) t) (by decide) ((xs.length : Int) - 1) (-1) xs.length ?_ hz (fun _ z => absurd z (by decide)) (fun _ => ?_)
      · rw [hlen]
        exact (rev_bounds xs.length).symm
      · rw [r.length, pickAt_rev]
        refine ⟨.ref s3.heap.objs.size, _, I3.laid (t' := s2.toks) (o := .tup xs.reverse) (fun b ob q => Heap.get?_push_of_some _ q) (Nat.le_refl _) ?_, rfl, q _ (I3.hok.fresh (Nat.le_refl _))⟩
        exact ⟨by rw [List.length_reverse]; exact hz, _, r.reverse, IsTup.new _ _⟩
    · cases r1
      obtain ⟨its, r, ht, hz⟩ := I3.list hx
      have hlen : its.toArray.size = xs.length := by rw [List.size_toArray]; exact r.length.symm
      refine tail_any (ops := [.ref a, .ref s2.heap.objs.size]) ht.isList.typeIs slot_list_getitem.lookup ?_ (by with_unfolding_all rfl)
      refine wpAny_getItem_list_slice ht.isList hs .none .none (.int (-1) t) (by decide) ?_ (by rw [hlen]; exact hz)
      rw [PySem.W.krv_pick]
      refine ⟨.ref s3.heap.objs.size, _, I3.laid (t' := s2.toks) (o := .lst xs.reverse) (fun b ob q => Heap.get?_push_of_some _ q) (Nat.le_refl _) ?_, rfl, q _ (I3.hok.fresh (Nat.le_refl _))⟩
      exact ⟨by rw [List.length_reverse]; exact hz, _, 0, r.reverse, Heap.get?_push_size _ rfl⟩
theorem de_rev {j1 : Nat} {p3 p4 : Pos} (he : DE X W E e f) : DE X W E (.Subscript e (.Slice none none (some (.UnaryOp .USub (.Constant (.int 1) j1 p3) p4)) p2) pos) (eRev f) :=
  PEmono (pe_rev he) fun σ H Q ⟨M, env, st, S, q⟩ => ⟨M, env, st, S, Fin.bind q fun a st1 M1 x H1 T1 S1 r1 q1 => by
    unfold opRev at q1
    cases hd : deref st1 a with
    | tup ds =>
      rw [hd] at q1
      have ra : a = .tup ds := by
        rcases deref_cases S1.s r1 with z | ⟨_, _, _, _, _, _, z, _⟩
        · rw [← z]; exact hd
        · rw [z] at hd; cases hd
      subst ra
      cases r1 with
      | tup hh rs => exact .inl ⟨_, _, rfl, hh, q1.tup S1 rs.reverse⟩
    | lst ds =>
      rw [hd] at q1
      obtain ⟨p, vs, rfl, rs, rd⟩ := rep_lst S1.s r1 hd
      exact .inr ⟨p, vs, rfl, .inl rd, q1.lst S1 rs.reverse⟩
    | _ => rw [hd] at q1; exact q1.elim⟩
end
end DL

set_option Elab.async false
set_option linter.all false
set_option maxRecDepth 100000
set_option maxHeartbeats 2000000
/-! DL8: + - * // % **, neg, index. -/
namespace DL
open PySem PySem.Spec PyProof.Rows L2
section
variable {X : Cx}
/-- t + u of tuples, empty ones too -/
def rCatA : R2 := fun x y H Q => ∃ a b xs ys, x = .ref a ∧ y = .ref b ∧ H a = some (.tup xs) ∧ H b = some (.tup ys) ∧ xs.length + ys.length ≤ sizeLine ∧
  (ys = [] → Q (.ref a) H) ∧ (xs = [] → Q (.ref b) H) ∧ ∀ p, H p = none → Q (.ref p) (upd H p (.tup (xs ++ ys)))
theorem op_catA : OpR X (binaryOp .Add) rCatA := by
  rintro pins s σ H x y v u Q I rx ry ⟨a, b, xs, ys, rfl, rfl, ha, hb, hz, q1, q2, q3⟩
  cases rx
  cases ry
  obtain ⟨its, r1, p1, _⟩ := I.tuple (.inl (.inl ha))
  obtain ⟨its2, r2, p2, _⟩ := I.tuple (.inl (.inl hb))
  by_cases hx : xs = []
  · have e : its = [] := r1.nil_iff.mpr hx
    obtain ⟨⟨c1, d1, t1, l1⟩, o1, k1, n1, w1⟩ := id p1
    obtain ⟨⟨c2, d2, t2, l2⟩, o2, k2, n2, w2⟩ := id p2
    simp only at k1 w1 k2 w2
    subst k1 w1 k2 w2
    exact concat_meets ⟨_, o1, rfl⟩ ⟨_, o2, rfl⟩ noFill_tuple_add seq_tuple_add PySem.F.slot_tuple_add PySem.F.entry_tuple_add (PySem.F.args_tuple_add_2 _ _)
      (tuple_addW0 a b its.toArray its2.toArray n1 n2 d1 d2 l1 l2 (by simp [e])) ⟨o1, o2, .ref b, H, I, rfl, q2 hx⟩
  · refine op_catT pins s σ H (.ref a) (.ref b) _ _ Q I rfl rfl ⟨a, b, xs, ys, rfl, rfl, .inl (.inl ha), .inl (.inl hb), hx, hz, q1, fun _ => q3⟩
/-- xs + ys of lists that are read -/
def rCatL (K : PySem.W.Frag) : R2 := fun x y H Q => ∃ a b xs ys, x = .ref a ∧ y = .ref b ∧ SqL K H a xs ∧ SqL K H b ys ∧ xs.length + ys.length ≤ sizeLine ∧ ∀ p, H p = none → Q (.ref p) (upd H p (.lst (xs ++ ys)))
theorem op_catL : OpR X (binaryOp .Add) (rCatL X.K) := by
  rintro pins s σ H x y v u Q I rx ry ⟨a, b, xs, ys, rfl, rfl, ha, hb, hz, q⟩
  cases rx
  cases ry
  obtain ⟨its, r1, ⟨⟨c1, d1, t1, l1⟩, n1, o1, k1, _, w1⟩, _⟩ := I.list ha
  obtain ⟨its2, r2, ⟨⟨c2, d2, t2, l2⟩, n2, o2, k2, _, w2⟩, _⟩ := I.list hb
  simp only at k1 w1 k2 w2
  subst k1 w1 k2 w2
  have e1 := r1.length
  have e2 := r2.length
  refine concat_meets ⟨_, o1, rfl⟩ ⟨_, o2, rfl⟩ noFill_list_add PySem.seq_list_add PySem.F.slot_list_add PySem.F.entry_list_add (PySem.F.args_list_add_2 _ _)
    (list_addW a b its.toArray its2.toArray n1 n2 d1 d2 l1 l2 (by rw [List.size_toArray, List.size_toArray]; omega)) ⟨o1, o2, ?_⟩
  have ea : its.toArray ++ its2.toArray = (its ++ its2).toArray := by simp
  rw [ea]
  exact ⟨.ref _, _, I.lnew (t' := s.toks) (r1.append r2) (by rw [List.length_append]; omega), rfl, q _ I.fresh⟩
end
def opAdd (st : Store) (a b : D) : Option D := match a with
  | .int i => match b with
    | .int j => some (.int (i + j))
    | _ => none
  | .tup xs => match b with
    | .tup ys => if sOk (xs.length + ys.length) then some (.tup (xs ++ ys)) else none
    | _ => none
  | .str x => match b with
    | .str y => if sOk (x.length + y.length) then some (.str (x ++ y)) else none
    | _ => none
  | a => match deref st a, deref st b with
    | .lst xs, .lst ys => if sOk (xs.length + ys.length) then some (.lst (xs ++ ys)) else none
    | _, _ => none
abbrev rAddA (K : PySem.W.Frag) : R2 := fun x y H Q => (((∃ i j, x = .int i ∧ y = .int j ∧ Q (.int (i + j)) H) ∨ rCatA x y H Q) ∨ (∃ i j, x = .str i ∧ y = .str j ∧ i.length + j.length ≤ sizeLine ∧ Q (.str (i ++ j)) H)) ∨ rCatL K x y H Q
theorem op_addA {X : Cx} : OpR X (binaryOp .Add) (rAddA X.K) := ((op_add.or op_catA).or op_add_str).or op_catL
theorem od_add {W : Wd} {K : PySem.W.Frag} : OpD W (rAddA K) opAdd := by
  intro E M σ H env st a b x y Q S ra rb h
  have viaList : ∀ {xs ys}, deref st a = .lst xs → deref st b = .lst ys → Fin W E (relD W) σ env (R.ofO (if sOk (xs.length + ys.length) = true then some (D.lst (xs ++ ys)) else none) st) M H Q → rAddA K x y H Q := by
    intro xs ys e1 e2 h
    by_cases hs : sOk (xs.length + ys.length) = true
    · rw [if_pos hs] at h
      obtain ⟨p, vs, rfl, rs, rd⟩ := rep_lst S.s ra e1
      obtain ⟨p2, vs2, rfl, rs2, rd2⟩ := rep_lst S.s rb e2
      exact .inr ⟨p, p2, vs, vs2, rfl, rfl, .inl rd, .inl rd2, by rw [← rs.length, ← rs2.length]; exact sOk_le hs, h.lst S (rs.append rs2)⟩
    · rw [if_neg hs] at h; exact h.elim
  cases a with
  | int i =>
    cases b with
    | int j => cases ra; cases rb; exact .inl (.inl (.inl ⟨i, j, rfl, rfl, h.give S (.int _)⟩))
    | _ => exact h.elim
  | tup xs =>
    cases b with
    | tup ys =>
      simp only [opAdd] at h
      by_cases hs : sOk (xs.length + ys.length) = true
      · rw [if_pos hs] at h
        cases ra with
        | tup h1 r1 =>
          cases rb with
          | tup h2 r2 =>
            refine .inl (.inl (.inr ⟨_, _, _, _, rfl, rfl, h1, h2, by rw [← r1.length, ← r2.length]; exact sOk_le hs, fun e => ?_, fun e => ?_, h.tup S (r1.append r2)⟩))
            · subst e
              cases r2
              refine h.give S ?_
              rw [List.append_nil]
              exact .tup h1 r1
            · subst e
              cases r1
              exact h.give S (.tup h2 r2)
      · rw [if_neg hs] at h; exact h.elim
    | _ => exact h.elim
  | str i =>
    cases b with
    | str j =>
      simp only [opAdd] at h
      by_cases hs : sOk (i.length + j.length) = true
      · rw [if_pos hs] at h
        cases ra; cases rb
        exact .inl (.inr ⟨i, j, rfl, rfl, sOk_le hs, h.give S (.str _)⟩)
      · rw [if_neg hs] at h; exact h.elim
    | _ => exact h.elim
  | lst xs =>
    simp only [opAdd] at h
    cases e2 : deref st b with
    | lst ys => rw [e2] at h; exact viaList rfl e2 h
    | _ => rw [e2] at h; exact h.elim
  | ref n =>
    simp only [opAdd] at h
    cases e1 : deref st (.ref n) with
    | lst xs =>
      rw [e1] at h
      cases e2 : deref st b with
      | lst ys => rw [e2] at h; exact viaList e1 e2 h
      | _ => rw [e2] at h; exact h.elim
    | _ => rw [e1] at h; exact h.elim
  | _ => exact h.elim
def opSub (_ : Store) (a b : D) : Option D := match a with
  | .int i => match b with
    | .int j => some (.int (i - j))
    | _ => none
  | _ => none
def inR (i : Int) : Bool := decide (-18446744073709551616 < i) && decide (i < 18446744073709551616)
def opMul (_ : Store) (a b : D) : Option D := match a with
  | .int i => match b with
    | .int j => if inR i || inR j then some (.int (i * j)) else none
    | _ => none
  | _ => none
def opMod (_ : Store) (a b : D) : Option D := match a with
  | .int i => match b with
    | .int j => if j = 0 then none else some (.int (i.fmod j))
    | _ => none
  | _ => none
def opFdiv (_ : Store) (a b : D) : Option D := match a with
  | .int i => match b with
    | .int j => if j = 0 ∨ ¬ j.natAbs < 1073741824 then none else some (.int (i.fdiv j))
    | _ => none
  | _ => none
def opPow (_ : Store) (a b : D) : Option D := match a with
  | .int i => match b with
    | .int j => if 0 ≤ j ∧ j ≤ 1000000 ∧ i.natAbs < 18446744073709551616 then some (.int (i ^ j.toNat)) else none
    | _ => none
  | _ => none
def opNeg (_ : Store) (a : D) : Option D := match a with
  | .int i => some (.int (-i))
  | _ => none
section
variable {W : Wd} {K : PySem.W.Frag}
theorem od_sub : OpD W (rI0 fun i j => .int (i - j)) opSub := by
  intro E M σ H env st a b x y Q S ra rb h
  cases a with
  | int i =>
    cases b with
    | int j => cases ra; cases rb; exact ⟨i, j, rfl, rfl, h.give S (.int _)⟩
    | _ => exact h.elim
  | _ => exact h.elim
theorem inR_ok {i : Int} (h : inR i = true) : -(2 ^ 64) < i ∧ i < 2 ^ 64 := by
  simp only [inR, Bool.and_eq_true, decide_eq_true_eq] at h
  exact ⟨by omega, by omega⟩
theorem od_mul : OpD W (rI CMul fun i j => .int (i * j)) opMul := by
  intro E M σ H env st a b x y Q S ra rb h
  cases a with
  | int i =>
    cases b with
    | int j =>
      simp only [opMul] at h
      by_cases hs : (inR i || inR j) = true
      · rw [if_pos hs] at h
        cases ra; cases rb
        refine ⟨i, j, rfl, rfl, ?_, h.give S (.int _)⟩
        rcases Bool.or_eq_true_iff.mp hs with q | q
        · exact .inl (inR_ok q)
        · exact .inr (inR_ok q)
      · rw [if_neg hs] at h; exact h.elim
    | _ => exact h.elim
  | _ => exact h.elim
theorem od_mod : OpD W (rI (fun _ j => j ≠ 0) fun i j => .int (i.fmod j)) opMod := by
  intro E M σ H env st a b x y Q S ra rb h
  cases a with
  | int i =>
    cases b with
    | int j =>
      simp only [opMod] at h
      by_cases hs : j = 0
      · rw [if_pos hs] at h; exact h.elim
      · rw [if_neg hs] at h
        cases ra; cases rb
        exact ⟨i, j, rfl, rfl, hs, h.give S (.int _)⟩
    | _ => exact h.elim
  | _ => exact h.elim
theorem od_fdiv : OpD W (rI CDivN fun i j => .int (i.fdiv j)) opFdiv := by
  intro E M σ H env st a b x y Q S ra rb h
  cases a with
  | int i =>
    cases b with
    | int j =>
      simp only [opFdiv] at h
      by_cases hs : j = 0 ∨ ¬ j.natAbs < 1073741824
      · rw [if_pos hs] at h; exact h.elim
      · rw [if_neg hs] at h
        cases ra; cases rb
        exact ⟨i, j, rfl, rfl, ⟨fun z => hs (.inl z), Decidable.not_not.mp fun z => hs (.inr z)⟩, h.give S (.int _)⟩
    | _ => exact h.elim
  | _ => exact h.elim
theorem od_pow : OpD W (rI CPow fun i j => .int (i ^ j.toNat)) opPow := by
  intro E M σ H env st a b x y Q S ra rb h
  cases a with
  | int i =>
    cases b with
    | int j =>
      simp only [opPow] at h
      by_cases hs : 0 ≤ j ∧ j ≤ 1000000 ∧ i.natAbs < 18446744073709551616
      · rw [if_pos hs] at h
        cases ra; cases rb
        exact ⟨i, j, rfl, rfl, hs, h.give S (.int _)⟩
      · rw [if_neg hs] at h; exact h.elim
    | _ => exact h.elim
  | _ => exact h.elim
theorem ud_neg : UnD W (rU fun i => .int (-i)) opNeg := by
  intro E M σ H env st a x Q S ra h
  cases a with
  | int i => cases ra; exact ⟨i, rfl, h.give S (.int _)⟩
  | _ => exact h.elim
end
/-! ### a[i] -/
def opIx (st : Store) (a b : D) : Option D := match b with
  | .int i => match items st a with
    | some ds => atI ds i
    | none => none
  | _ => none
theorem atI_rep {W : Wd} {M : MW} {H : Hp} {ds : List D} {vs : List V} {i : Int} {d : D} (r : Reps W M H ds vs) (h : atI ds i = some d) : ∃ v, atI vs i = some v ∧ Rep W M H d v := by
  unfold atI at h ⊢
  rw [r.length] at h
  cases e : ixN vs.length i with
  | none => rw [e] at h; cases h
  | some j =>
    rw [e] at h
    exact r.get h
theorem od_ix {W : Wd} {K : PySem.W.Frag} : OpD W (rIx K) opIx := by
  intro E M σ H env st a b x y Q S ra rb h
  cases b with
  | int i =>
    cases rb
    simp only [opIx] at h
    cases e : items st a with
    | none => rw [e] at h; exact h.elim
    | some ds =>
      rw [e] at h
      obtain ⟨p, vs, rfl, rs, sq⟩ := rep_items (K := K) S.s ra e
      cases e2 : atI ds i with
      | none => simp only [e2] at h; exact h.elim
      | some d =>
        simp only [e2] at h
        obtain ⟨v, ev, rv⟩ := atI_rep rs e2
        rcases sq with sq | sq
        · exact .inl ⟨p, vs, i, v, rfl, rfl, sq, ev, h.give S rv⟩
        · exact .inr (.inl ⟨p, vs, i, v, rfl, rfl, sq, ev, h.give S rv⟩)
  | _ => exact h.elim
section
variable {X : Cx} {W : Wd} {E : XK} {a b : Expr} {f g : Ev} {pos : Pos}
theorem de_ix (ha : DE X W E a f) (hb : DE X W E b g) (hs : PlainIx b := by exact fun _ _ => rfl) : DE X W E (.Subscript a b pos) (eOp opIx f g) :=
  PEmono (pe_ix ix_seq ha hb hs) fun σ H Q q => lift_bin od_ix q
theorem de_add (ha : DE X W E a f) (hb : DE X W E b g) : DE X W E (.BinOp a .Add b pos) (eOp opAdd f g) := de_op op_addA od_add ha hb
theorem de_sub (ha : DE X W E a f) (hb : DE X W E b g) : DE X W E (.BinOp a .Sub b pos) (eOp opSub f g) := de_op op_sub od_sub ha hb
theorem de_mul (ha : DE X W E a f) (hb : DE X W E b g) : DE X W E (.BinOp a .Mult b pos) (eOp opMul f g) := de_op op_mul od_mul ha hb
theorem de_mod (ha : DE X W E a f) (hb : DE X W E b g) : DE X W E (.BinOp a .Mod b pos) (eOp opMod f g) := de_op op_modN od_mod ha hb
theorem de_fdiv (ha : DE X W E a f) (hb : DE X W E b g) : DE X W E (.BinOp a .FloorDiv b pos) (eOp opFdiv f g) := de_op op_fdivN od_fdiv ha hb
theorem de_pow (ha : DE X W E a f) (hb : DE X W E b g) : DE X W E (.BinOp a .Pow b pos) (eOp opPow f g) := de_op op_pow od_pow ha hb
theorem de_neg (ha : DE X W E a f) : DE X W E (.UnaryOp .USub a pos) (eUn opNeg f) := de_un un_neg ud_neg ha
end
end DL

set_option Elab.async false
set_option linter.all false
set_option maxRecDepth 100000
set_option maxHeartbeats 4000000
/-! DL9: built-in calls; min, max. -/
namespace DL
open PySem PySem.Spec PyProof.Rows L2
/-! ### calls of built-ins by values -/
def eCallB (op : Store → List D → Option D) (g : EvL) : Ev := fun env st => (g env st).bind fun as st1 => R.ofO (op st1 as) st1
def CallD (W : Wd) (r : List V → Hp → VK → Prop) (op : Store → List D → Option D) : Prop :=
  ∀ (E : XK) (M : MW) (σ : L2.St) (H : Hp) (env : Ent) (st : Store) (as : List D) (vs : List V) (Q : VK), Sim W M σ H env st → Reps W M H as vs → Fin W E (relD W) σ env (R.ofO (op st as) st) M H Q → r vs H Q
def eCallBK (op : Store → List D → List D → Option D) (g k : EvL) : Ev := fun env st => (g env st).bind fun as st1 => (k env st1).bind fun zs st2 => R.ofO (op st2 as zs) st2
def CallKD (W : Wd) (r : List V → List V → Hp → VK → Prop) (op : Store → List D → List D → Option D) : Prop :=
  ∀ (E : XK) (M : MW) (σ : L2.St) (H : Hp) (env : Ent) (st : Store) (as zs : List D) (vs ws : List V) (Q : VK), Sim W M σ H env st → Reps W M H as vs → Reps W M H zs ws → Fin W E (relD W) σ env (R.ofO (op st as zs) st) M H Q → r vs ws H Q
def DKw (X : Cx) (W : Wd) (E : XK) (kws : List Keyword) (f : EvL) : Prop := PK X kws (lA W E f)
section
variable {X : Cx} {W : Wd} {E : XK} {x : PySem.Str} {p pos : Pos} {e : Expr} {es : List Expr} {f : Ev} {g k : EvL} {id T : String} {r : List V → Hp → VK → Prop} {op : Store → List D → Option D}
theorem lift_call (hd : CallD W r op) {σ : L2.St} {H : Hp} {Q : VK} (q : lE W E (eCallB op g) σ H Q) : tCB r (lA W E g) σ H Q := by
  obtain ⟨M, env, st, S, q⟩ := q
  exact ⟨M, env, st, S, Fin.bind q fun as st1 M1 vs H1 T1 S1 r1 q1 => hd E M1 σ H1 env st1 as vs Q S1 r1 q1⟩
theorem de_callB (hc : CallR X (.builtin id) r) (hd : CallD W r op) (hg : Gl X x) (hm : X.mg x = none) (hv : bootBuiltins x = some (.builtin id)) (ha : DA X W E (e :: es) g) (hn : x ≠ "__name__" := by decide) (hdb : (x == ("__debug__" : PySem.Str)) = false := by decide)
    (he : starEach (e :: es) X.env = (false, eval e X.env) :: starEach es X.env := by rfl) (hpl : (backTo pos (starEach es X.env)).any (·.1) = false := by rfl) : DE X W E (.Call (.Name x p) (e :: es) [] pos) (eCallB op g) :=
  PEmono (pe_callB hc hg hm hv ha hn hdb he hpl) fun σ H Q q => lift_call hd q
theorem de_callTy (hc : CallR X (.type T) r) (hd : CallD W r op) (hg : Gl X x) (hm : X.mg x = none) (hv : bootBuiltins x = some (.type T)) (ha : DA X W E (e :: es) g) (hn : x ≠ "__name__" := by decide) (hdb : (x == ("__debug__" : PySem.Str)) = false := by decide)
    (he : starEach (e :: es) X.env = (false, eval e X.env) :: starEach es X.env := by rfl) (hpl : (backTo pos (starEach es X.env)).any (·.1) = false := by rfl) : DE X W E (.Call (.Name x p) (e :: es) [] pos) (eCallB op g) :=
  PEmono (pe_callTy hc hg hm hv ha hn hdb he hpl) fun σ H Q q => lift_call hd q
end
/-! ### data in order -/
def ordAll (ds : List D) : Bool := ds.all fun a => fit a 40 && notNon a && ds.all fun b => alk a b
theorem ordAll_at {ds : List D} (h : ordAll ds = true) {d : D} (m : d ∈ ds) : fit d 40 = true ∧ notNon d = true ∧ ∀ e ∈ ds, alk d e = true := by
  have q := List.all_eq_true.mp h d m
  simp only [Bool.and_eq_true, List.all_eq_true] at q
  exact ⟨q.1.1, q.1.2, q.2⟩
def btmin (ds : List D) : Nat → Nat → Bool := fun i j => dlt (ds.getD i .non) (ds.getD j .non)
def btmax (ds : List D) : Nat → Nat → Bool := fun i j => dlt (ds.getD j .non) (ds.getD i .non)
theorem vals_getV : ∀ {xs : List V} {us : List Value} {i : Nat} {u : Value}, Vals xs us → us[i]? = some u → ∃ x, xs[i]? = some x ∧ RelV x u
  | _, _, _, _, .nil, e => by simp at e
  | _, _, 0, _, .cons r _, e => by simp at e; subst e; exact ⟨_, rfl, r⟩
  | _, _, i + 1, _, .cons _ t, e => by
    obtain ⟨x, h1, h2⟩ := vals_getV (i := i) t (by simpa using e)
    exact ⟨x, by simpa using h1, h2⟩
theorem get_len {α β : Type} {xs : List α} {ys : List β} (l : xs.length = ys.length) {i : Nat} {x : α} (e : xs[i]? = some x) : ∃ y, ys[i]? = some y := by
  have h := (List.getElem?_eq_some_iff.mp e).1
  exact ⟨ys[i], List.getElem?_eq_getElem (by omega)⟩

/-! ### min -/
section
variable {X : Cx}
theorem cmpIn_min {pins : List (Addr × Obj)} {σ : L2.St} {H : Hp} {s : Shared} {a : Addr} {ys : List V} {ds : List D} {its : List Value} (I : Inv X pins σ H s) (hu : X.A.units + 64 < cLine) (rv : Vals ys its)
    (hd : ∀ (i : Nat) (y : V) (d : D), ys[i]? = some y → ds[i]? = some d → Dp X.K H y (toP d)) (ok : ordAll ds = true) (len : ys.length = ds.length) (A : Around) (eu : A.units ≤ X.A.units + 2) :
    PySem.CmpIn X.prog X.w A .Lt s.heap (fun i v => its.toArray[i]? = some v) (btmin ds) := by
  intro i j vi vj s' Q E k hi hj q
  have hi' : its[i]? = some vi := by simpa using hi
  have hj' : its[j]? = some vj := by simpa using hj
  obtain ⟨yi, ei, ri⟩ := vals_getV rv hi'
  obtain ⟨yj, ej, rj⟩ := vals_getV rv hj'
  obtain ⟨di, fi⟩ := get_len len ei
  obtain ⟨dj, fj⟩ := get_len len ej
  obtain ⟨as, r1⟩ := Dp.reads I _ _ _ (hd i yi di ei fi) ri
  obtain ⟨bs, r2⟩ := Dp.reads I _ _ _ (hd j yj dj ej fj) rj
  have m1 := List.mem_of_getElem? fi
  have m2 := List.mem_of_getElem? fj
  obtain ⟨o1, o2, o3⟩ := ordAll_at ok m1
  obtain ⟨p1, p2, p3⟩ := ordAll_at ok m2
  have al := o3 dj m2
  have al2 := p3 di m1
  refine PySem.W.rcLt_alike _ _ A s' vi vj _ _ (PySem.W.reads_keeps k r1) (PySem.W.reads_keeps k r2) (alike_toP _ _ al) (toP_non o1 o2) ?_ X.prog X.w E Q ?_
  · have z := (plain_toP di 40 o1).2
    omega
  · have e : PySem.W.dataLt (toP di) (toP dj) = btmin ds i j := by
      unfold btmin
      rw [List.getD_eq_getElem?_getD, List.getD_eq_getElem?_getD, fi, fj]
      exact dataLt_toP di dj 40 40 o1 p1 al
    rw [e]
    exact q
def rBestmin (K : PySem.W.Frag) : List V → Hp → VK → Prop := fun vs H Q => ∃ (a : Addr) (ys : List V) (ds : List D), vs = [.ref a] ∧ (SqL K H a ys ∨ SqT K H a ys) ∧ ys.length = ds.length ∧ ds ≠ [] ∧ (∀ (i : Nat) (y : V) (d : D), ys[i]? = some y → ds[i]? = some d → Dp K H y (toP d)) ∧ ordAll ds = true ∧
  ∀ y, ys[PySem.argBest (btmin ds) (ds.length - 1)]? = some y → Q y H
theorem cr_bestmin (hc : X.calm = true) (hu : X.A.units + 64 < cLine) : CallR X (.builtin "min") (rBestmin X.K) := by
  rintro pins s σ H vs us Q I r ⟨a, ys, ds, rfl, hs, len, ne, hd, ok, q⟩
  rw [Vals.ref1 r]
  have pos : 0 < ds.length := List.length_pos_iff.mpr ne
  rcases hs with hs | hs
  · obtain ⟨its, rv, hl, _⟩ := I.list hs
    have ln : its.toArray.size = ds.length := by rw [List.size_toArray, ← rv.length, len]
    refine PySem.call_min_walkH (PySem.W.iter_listW (A := X.A.in1) (I.ok.hd hc) hl.isList fun s2 e W st hfp hw hk => ?_)
    refine ⟨_, _, _, _, _, _, _, s.heap, btmin ds, rfl, W, st, hfp, by omega, hw, hk, cmpIn_min (a := a) I hu rv hd ok len _ (by show X.A.units + 1 ≤ _; omega), fun v s' hP m => ?_⟩
    obtain ⟨h', tk, rfl, hk'⟩ := PySem.W.moved_old e rfl m
    rw [ln] at hP
    obtain ⟨y, ey, ry⟩ := vals_getV rv (show its[_]? = some v by simpa using hP)
    exact ⟨y, H, I.kept hk', ry, q y ey⟩
  · obtain ⟨its, rv, hl, _⟩ := I.tuple hs
    have ln : its.toArray.size = ds.length := by rw [List.size_toArray, ← rv.length, len]
    refine PySem.call_min_walkH (PySem.W.iter_tupleW (A := X.A.in1) (I.ok.hd hc) hl fun s2 e W st hfp hw hk => ?_)
    refine ⟨_, _, _, _, _, _, _, s.heap, btmin ds, rfl, W, st, hfp, by omega, hw, hk, cmpIn_min (a := a) I hu rv hd ok len _ (by show X.A.units + 1 ≤ _; omega), fun v s' hP m => ?_⟩
    obtain ⟨h', tk, rfl, hk'⟩ := PySem.W.moved_old e rfl m
    rw [ln] at hP
    obtain ⟨y, ey, ry⟩ := vals_getV rv (show its[_]? = some v by simpa using hP)
    exact ⟨y, H, I.kept hk', ry, q y ey⟩
/-- with default= -/
def rDfltmin (K : PySem.W.Frag) : List V → List V → Hp → VK → Prop := fun vs zs H Q => ∃ (a : Addr) (ys : List V) (ds : List D) (z : V), vs = [.ref a] ∧ zs = [z] ∧ SqL K H a ys ∧ ys.length = ds.length ∧ (∀ (i : Nat) (y : V) (d : D), ys[i]? = some y → ds[i]? = some d → Dp K H y (toP d)) ∧ ordAll ds = true ∧ (ds = [] → Q z H) ∧
  ∀ y, ds ≠ [] → ys[PySem.argBest (btmin ds) (ds.length - 1)]? = some y → Q y H
theorem cr_dfltmin (hc : X.calm = true) (hu : X.A.units + 64 < cLine) : CallRK X (.builtin "min") [PySem.Str.ofString "default"] (rDfltmin X.K) := by
  rintro pins s σ H vs us zs ws Q I r rz ⟨a, ys, ds, z, rfl, rfl, hs, len, hd, ok, q0, q⟩
  obtain ⟨w, rfl, rw'⟩ := vals1 rz
  rw [Vals.ref1 r]
  obtain ⟨its, rv, hl, _⟩ := I.list hs
  have ln : its.toArray.size = ds.length := by rw [List.size_toArray, ← rv.length, len]
  refine PySem.call_min_walkD (PySem.W.iter_listW (A := X.A.in1) (I.ok.hd hc) hl.isList fun s2 e W st hfp hw hk => ?_)
  refine ⟨_, _, _, _, _, _, _, s.heap, btmin ds, rfl, W, st, hfp, hw, hk, fun hz s' m => ?_, fun hp => ⟨cmpIn_min (a := a) I hu rv hd ok len _ (by show X.A.units + 1 ≤ _; omega), fun v s' hP m => ?_⟩⟩
  · obtain ⟨h', tk, rfl, hk'⟩ := PySem.W.moved_old e rfl m
    exact ⟨z, H, I.kept hk', rw', q0 (List.eq_nil_of_length_eq_zero (by omega))⟩
  · obtain ⟨h', tk, rfl, hk'⟩ := PySem.W.moved_old e rfl m
    rw [ln] at hP
    obtain ⟨y, ey, ry⟩ := vals_getV rv (show its[_]? = some v by simpa using hP)
    exact ⟨y, H, I.kept hk', ry, q y (by intro z; rw [z] at ln; rw [ln] at hp; exact Nat.lt_irrefl _ hp) ey⟩
/-- min(a, b) -/
theorem two_min {prog : Program} {w : World} {A : Around} {E : Value → Shared → Prop} {s : Shared} {a b : Value} {bt : Nat → Nat → Bool} {Q : Value → Shared → Prop} (hh : A.handled = none)
    (hc : ∀ h : Heap, (∀ c o, s.heap.get? c = some o → h.get? c = some o) → PySem.CmpIn prog w A.in1 .Lt h (fun i v => #[a, b][i]? = some v) bt)
    (h : ∀ v h' tk, #[a, b][PySem.argBest bt 1]? = some v → (∀ c o, s.heap.get? c = some o → h'.get? c = some o) → Q v { s with heap := h', toks := tk }) :
    wpAny (model prog w) A (call (.builtin "min") [a, b]) Q E s := by
  have hname : (toString "min" ++ toString ".loop" : String) = "min.loop" := by decide
  apply call_function_tree F.kind_min F.plain_min F.entry_min (F.args_min2 _ _)
  show wpAny _ A.in1 (Builtin.Builtins.bindParams "min" ["key", "default"] 0 ⟨[], []⟩ >>= _) _ _ s
  refine wpAny_bind (wpAny_of_eq (show Builtin.Builtins.bindParams "min" ["key", "default"] 0 ⟨[], []⟩ = pure [none, none] from rfl) ?_)
  show wpAny _ A.in1 (newTuple [a, b] >>= _) _ _ s
  refine wpAny_bind (wpAny_newObj_type ?_)
  have tup : ({ s with heap := s.heap.push { cls := .type "tuple", data := .seq #[a, b] } } : Shared).heap.IsTuple s.heap.objs.size #[a, b] := ⟨_, Heap.get?_push_size _ rfl, rfl, _, rfl⟩
  refine wpAny_bind (PySem.W.iter_tupleW (A := A.in1) hh tup fun s2 e W st hfp hw hk => ?_)
  have k2 : ∀ c o, s.heap.get? c = some o → s2.heap.get? c = some o := fun c o q => hk c o (Heap.get?_push_of_some _ q)
  refine wpAny_bind (wpAny_newObj_type ?_)
  have nf : s2.heap.objs.size ∉ [({ s with heap := s.heap.push { cls := .type "tuple", data := .seq #[a, b] } } : Shared).heap.objs.size, s.heap.objs.size] := fun hm => Nat.lt_irrefl _ (hfp _ hm)
  rw [hname]
  apply wpAny_pure
  refine ⟨plainId_quiet F.plain_min_loop _, ?_⟩
  refine PySem.codeAny_min_loop_firstH W ({ s with heap := s.heap.push { cls := .type "tuple", data := .seq #[a, b] } } : Shared).heap hw bt (hc _ fun c o q => Heap.get?_push_of_some _ q) s2.heap.objs.size nf (PySem.fresh_in hk) _ (by show 0 < 2; decide)
    (fun c o q => Heap.get?_push_of_some _ (hk c o q)) (W.frame 0 s2 _ s2.toks st (Nat.le_refl _) fun c _ o q => Heap.get?_push_of_some _ q) (Heap.get?_push_size _ rfl) fun v s' hP hm => ?_
  have m2 := Moved.drop_new (tk := s2.toks) hm (Nat.le_refl _)
  obtain ⟨h', tk, rfl, hk'⟩ := PySem.W.moved_old e rfl m2
  exact h v h' tk hP fun c o q => hk' c o (Heap.get?_push_of_some _ q)
def rTwomin (K : PySem.W.Frag) : List V → Hp → VK → Prop := fun vs H Q => ∃ x y d e, vs = [x, y] ∧ Dp K H x (toP d) ∧ Dp K H y (toP e) ∧ ordAll [d, e] = true ∧ Q (if dlt e d then y else x) H
theorem cr_twomin (hc : X.calm = true) (hu : X.A.units + 64 < cLine) : CallR X (.builtin "min") (rTwomin X.K) := by
  rintro pins s σ H vs us Q I r ⟨x, y, d, e, rfl, hx, hy, ok, q⟩
  obtain ⟨u, v, rfl, rx, ry⟩ := vals2 r
  refine two_min (bt := btmin [d, e]) (I.ok.hd hc) (fun h k => ?_) fun w h' tk hP k => ?_
  · intro i j vi vj s' Q' E' k' hi hj q'
    refine cmpIn_min (a := 0) (ys := [x, y]) (its := [u, v]) I hu r (fun n z f e1 e2 => ?_) ok rfl _ (by show X.A.units + 1 ≤ _; omega) i j vi vj s' Q' E' (fun c o z => k' c o (k c o z)) hi hj q'
    match n, e1, e2 with
    | 0, e1, e2 => cases e1; cases e2; exact hx
    | 1, e1, e2 => cases e1; cases e2; exact hy
    | n + 2, e1, e2 => simp at e1
  · refine ⟨if dlt e d then y else x, H, I.kept k, ?_, q⟩
    have eb : PySem.argBest (btmin [d, e]) 1 = if dlt e d then 1 else 0 := rfl
    rw [eb] at hP
    by_cases hb : dlt e d = true
    · rw [if_pos hb] at hP ⊢
      cases hP
      exact ry
    · rw [if_neg hb] at hP ⊢
      cases hP
      exact rx
end
def opmin (st : Store) (as : List D) : Option D := match as with
  | [x] => match items st x with
    | some (d :: ds) => if ordAll (d :: ds) then some (ds.foldl (fun a y => if dlt y a then y else a) d) else none
    | _ => none
  | [x, y] => if ordAll [x, y] then some (if dlt y x then y else x) else none
  | _ => none
def opminD (st : Store) (as zs : List D) : Option D := match as, zs with
  | [x], [z] => match deref st x with
    | .lst [] => some z
    | .lst (d :: ds) => if ordAll (d :: ds) then some (ds.foldl (fun a y => if dlt y a then y else a) d) else none
    | _ => none
  | _, _ => none
theorem bestmin_fold (d : D) (ds : List D) : (d :: ds)[PySem.argBest (btmin (d :: ds)) ds.length]? = some (ds.foldl (fun a y => if dlt y a then y else a) d) := by
  obtain ⟨l, e⟩ := PySem.W.argBest_fold (fun x y => dlt x y) D.non d ds ds.length (Nat.le_refl _)
  rw [List.take_length] at e
  have l' : PySem.argBest (btmin (d :: ds)) ds.length < (d :: ds).length := by
    rw [List.length_cons]
    exact Nat.lt_succ_of_le l
  rw [List.getElem?_eq_getElem l']
  rw [List.getD_eq_getElem?_getD] at e
  have e3 : ((d :: ds)[PySem.argBest (btmin (d :: ds)) ds.length]?).getD D.non = ds.foldl (fun a y => if dlt y a then y else a) d := e
  rw [List.getElem?_eq_getElem l'] at e3
  rw [← e3]
  rfl
section
variable {W : Wd} {K : PySem.W.Frag}
theorem cd_min : CallD W (fun vs H Q => rBestmin K vs H Q ∨ rTwomin K vs H Q) opmin := by
  intro E M σ H env st as vs Q S rs h
  match as, rs, h with
  | [], _, h => exact h.elim
  | [x], .cons (v := v) r .nil, h =>
    simp only [opmin] at h
    cases e : items st x with
    | none => rw [e] at h; exact h.elim
    | some ds =>
      rw [e] at h
      cases ds with
      | nil => exact h.elim
      | cons d ds =>
        simp only at h
        by_cases ok : ordAll (d :: ds) = true
        · rw [if_pos ok] at h
          obtain ⟨p, ys, rfl, rr, sq⟩ := rep_items (K := K) S.s r e
          refine .inl ⟨p, ys, d :: ds, rfl, sq, rr.length.symm, (fun z => nomatch z), fun i y f e1 e2 => ?_, ok, fun y ey => ?_⟩
          · obtain ⟨y', e3, ry⟩ := rr.get e2
            rw [e1] at e3
            cases e3
            exact ry.dp (ordAll_at ok (List.mem_of_getElem? e2)).1
          · obtain ⟨f, ef, rf⟩ := rr.getV ey
            have hb := bestmin_fold d ds
            rw [List.length_cons, Nat.add_sub_cancel] at ef
            rw [hb] at ef
            cases ef
            exact h.give S rf
        · rw [if_neg ok] at h; exact h.elim
  | [x, y], .cons (v := v) r (.cons (v := w) r2 .nil), h =>
    simp only [opmin] at h
    by_cases ok : ordAll [x, y] = true
    · rw [if_pos ok] at h
      have o1 := ordAll_at ok (List.mem_cons_self ..)
      have o2 := ordAll_at ok (List.mem_cons_of_mem _ (List.mem_cons_self ..))
      refine .inr ⟨v, w, x, y, rfl, r.dp o1.1, r2.dp o2.1, ok, ?_⟩
      by_cases hb : dlt y x = true
      · rw [if_pos hb] at h ⊢
        exact h.give S r2
      · rw [if_neg hb] at h ⊢
        exact h.give S r
    · rw [if_neg ok] at h; exact h.elim
  | _ :: _ :: _ :: _, _, h => exact h.elim
theorem ckd_min : CallKD W (rDfltmin K) opminD := by
  intro E M σ H env st as zs vs ws Q S rs rz h
  match as, zs, rs, rz, h with
  | [x], [z], .cons (v := v) r .nil, .cons (v := w) r2 .nil, h =>
    simp only [opminD] at h
    cases e : deref st x with
    | lst ds =>
      rw [e] at h
      obtain ⟨p, ys, rfl, rr, rd⟩ := rep_lst S.s r e
      cases ds with
      | nil =>
        refine ⟨p, ys, [], w, rfl, rfl, .inl rd, rr.length.symm, fun i y f e1 e2 => (by simp at e2), rfl, fun _ => h.give S r2, fun y z => absurd rfl z⟩
      | cons d ds =>
        simp only at h
        by_cases ok : ordAll (d :: ds) = true
        · rw [if_pos ok] at h
          refine ⟨p, ys, d :: ds, w, rfl, rfl, .inl rd, rr.length.symm, fun i y f e1 e2 => ?_, ok, (fun z => nomatch z), fun y _ ey => ?_⟩
          · obtain ⟨y', e3, ry⟩ := rr.get e2
            rw [e1] at e3
            cases e3
            exact ry.dp (ordAll_at ok (List.mem_of_getElem? e2)).1
          · obtain ⟨f, ef, rf⟩ := rr.getV ey
            have hb := bestmin_fold d ds
            rw [List.length_cons, Nat.add_sub_cancel] at ef
            rw [hb] at ef
            cases ef
            exact h.give S rf
        · rw [if_neg ok] at h; exact h.elim
    | _ => rw [e] at h; exact h.elim
  | [], _, _, _, h => exact h.elim
  | _ :: _ :: _, _, _, _, h => exact h.elim
  | [_], [], _, _, h => exact h.elim
  | [_], _ :: _ :: _, _, _, h => exact h.elim
end

/-! ### max -/
section
variable {X : Cx}
theorem cmpIn_max {pins : List (Addr × Obj)} {σ : L2.St} {H : Hp} {s : Shared} {a : Addr} {ys : List V} {ds : List D} {its : List Value} (I : Inv X pins σ H s) (hu : X.A.units + 64 < cLine) (rv : Vals ys its)
    (hd : ∀ (i : Nat) (y : V) (d : D), ys[i]? = some y → ds[i]? = some d → Dp X.K H y (toP d)) (ok : ordAll ds = true) (len : ys.length = ds.length) (A : Around) (eu : A.units ≤ X.A.units + 2) :
    PySem.CmpIn X.prog X.w A .Gt s.heap (fun i v => its.toArray[i]? = some v) (btmax ds) := by
  intro i j vi vj s' Q E k hi hj q
  have hi' : its[i]? = some vi := by simpa using hi
  have hj' : its[j]? = some vj := by simpa using hj
  obtain ⟨yi, ei, ri⟩ := vals_getV rv hi'
  obtain ⟨yj, ej, rj⟩ := vals_getV rv hj'
  obtain ⟨di, fi⟩ := get_len len ei
  obtain ⟨dj, fj⟩ := get_len len ej
  obtain ⟨as, r1⟩ := Dp.reads I _ _ _ (hd i yi di ei fi) ri
  obtain ⟨bs, r2⟩ := Dp.reads I _ _ _ (hd j yj dj ej fj) rj
  have m1 := List.mem_of_getElem? fi
  have m2 := List.mem_of_getElem? fj
  obtain ⟨o1, o2, o3⟩ := ordAll_at ok m1
  obtain ⟨p1, p2, p3⟩ := ordAll_at ok m2
  have al := o3 dj m2
  have al2 := p3 di m1
  refine PySem.W.rcGt_alike _ _ A s' vi vj _ _ (PySem.W.reads_keeps k r1) (PySem.W.reads_keeps k r2) (alike_toP _ _ al) (toP_non o1 o2) ?_ X.prog X.w E Q ?_
  · have z := (plain_toP di 40 o1).2
    omega
  · have e : PySem.W.dataLt (toP dj) (toP di) = btmax ds i j := by
      unfold btmax
      rw [List.getD_eq_getElem?_getD, List.getD_eq_getElem?_getD, fi, fj]
      exact dataLt_toP dj di 40 40 p1 o1 al2
    rw [e]
    exact q
def rBestmax (K : PySem.W.Frag) : List V → Hp → VK → Prop := fun vs H Q => ∃ (a : Addr) (ys : List V) (ds : List D), vs = [.ref a] ∧ (SqL K H a ys ∨ SqT K H a ys) ∧ ys.length = ds.length ∧ ds ≠ [] ∧ (∀ (i : Nat) (y : V) (d : D), ys[i]? = some y → ds[i]? = some d → Dp K H y (toP d)) ∧ ordAll ds = true ∧
  ∀ y, ys[PySem.argBest (btmax ds) (ds.length - 1)]? = some y → Q y H
theorem cr_bestmax (hc : X.calm = true) (hu : X.A.units + 64 < cLine) : CallR X (.builtin "max") (rBestmax X.K) := by
  rintro pins s σ H vs us Q I r ⟨a, ys, ds, rfl, hs, len, ne, hd, ok, q⟩
  rw [Vals.ref1 r]
  have pos : 0 < ds.length := List.length_pos_iff.mpr ne
  rcases hs with hs | hs
  · obtain ⟨its, rv, hl, _⟩ := I.list hs
    have ln : its.toArray.size = ds.length := by rw [List.size_toArray, ← rv.length, len]
    refine PySem.call_max_walkH (PySem.W.iter_listW (A := X.A.in1) (I.ok.hd hc) hl.isList fun s2 e W st hfp hw hk => ?_)
    refine ⟨_, _, _, _, _, _, _, s.heap, btmax ds, rfl, W, st, hfp, by omega, hw, hk, cmpIn_max (a := a) I hu rv hd ok len _ (by show X.A.units + 1 ≤ _; omega), fun v s' hP m => ?_⟩
    obtain ⟨h', tk, rfl, hk'⟩ := PySem.W.moved_old e rfl m
    rw [ln] at hP
    obtain ⟨y, ey, ry⟩ := vals_getV rv (show its[_]? = some v by simpa using hP)
    exact ⟨y, H, I.kept hk', ry, q y ey⟩
  · obtain ⟨its, rv, hl, _⟩ := I.tuple hs
    have ln : its.toArray.size = ds.length := by rw [List.size_toArray, ← rv.length, len]
    refine PySem.call_max_walkH (PySem.W.iter_tupleW (A := X.A.in1) (I.ok.hd hc) hl fun s2 e W st hfp hw hk => ?_)
    refine ⟨_, _, _, _, _, _, _, s.heap, btmax ds, rfl, W, st, hfp, by omega, hw, hk, cmpIn_max (a := a) I hu rv hd ok len _ (by show X.A.units + 1 ≤ _; omega), fun v s' hP m => ?_⟩
    obtain ⟨h', tk, rfl, hk'⟩ := PySem.W.moved_old e rfl m
    rw [ln] at hP
    obtain ⟨y, ey, ry⟩ := vals_getV rv (show its[_]? = some v by simpa using hP)
    exact ⟨y, H, I.kept hk', ry, q y ey⟩
/-- with default= -/
def rDfltmax (K : PySem.W.Frag) : List V → List V → Hp → VK → Prop := fun vs zs H Q => ∃ (a : Addr) (ys : List V) (ds : List D) (z : V), vs = [.ref a] ∧ zs = [z] ∧ SqL K H a ys ∧ ys.length = ds.length ∧ (∀ (i : Nat) (y : V) (d : D), ys[i]? = some y → ds[i]? = some d → Dp K H y (toP d)) ∧ ordAll ds = true ∧ (ds = [] → Q z H) ∧
  ∀ y, ds ≠ [] → ys[PySem.argBest (btmax ds) (ds.length - 1)]? = some y → Q y H
theorem cr_dfltmax (hc : X.calm = true) (hu : X.A.units + 64 < cLine) : CallRK X (.builtin "max") [PySem.Str.ofString "default"] (rDfltmax X.K) := by
  rintro pins s σ H vs us zs ws Q I r rz ⟨a, ys, ds, z, rfl, rfl, hs, len, hd, ok, q0, q⟩
  obtain ⟨w, rfl, rw'⟩ := vals1 rz
  rw [Vals.ref1 r]
  obtain ⟨its, rv, hl, _⟩ := I.list hs
  have ln : its.toArray.size = ds.length := by rw [List.size_toArray, ← rv.length, len]
  refine PySem.call_max_walkD (PySem.W.iter_listW (A := X.A.in1) (I.ok.hd hc) hl.isList fun s2 e W st hfp hw hk => ?_)
  refine ⟨_, _, _, _, _, _, _, s.heap, btmax ds, rfl, W, st, hfp, hw, hk, fun hz s' m => ?_, fun hp => ⟨cmpIn_max (a := a) I hu rv hd ok len _ (by show X.A.units + 1 ≤ _; omega), fun v s' hP m => ?_⟩⟩
  · obtain ⟨h', tk, rfl, hk'⟩ := PySem.W.moved_old e rfl m
    exact ⟨z, H, I.kept hk', rw', q0 (List.eq_nil_of_length_eq_zero (by omega))⟩
  · obtain ⟨h', tk, rfl, hk'⟩ := PySem.W.moved_old e rfl m
    rw [ln] at hP
    obtain ⟨y, ey, ry⟩ := vals_getV rv (show its[_]? = some v by simpa using hP)
    exact ⟨y, H, I.kept hk', ry, q y (by intro z; rw [z] at ln; rw [ln] at hp; exact Nat.lt_irrefl _ hp) ey⟩
/-- max(a, b) -/
theorem two_max {prog : Program} {w : World} {A : Around} {E : Value → Shared → Prop} {s : Shared} {a b : Value} {bt : Nat → Nat → Bool} {Q : Value → Shared → Prop} (hh : A.handled = none)
    (hc : ∀ h : Heap, (∀ c o, s.heap.get? c = some o → h.get? c = some o) → PySem.CmpIn prog w A.in1 .Gt h (fun i v => #[a, b][i]? = some v) bt)
    (h : ∀ v h' tk, #[a, b][PySem.argBest bt 1]? = some v → (∀ c o, s.heap.get? c = some o → h'.get? c = some o) → Q v { s with heap := h', toks := tk }) :
    wpAny (model prog w) A (call (.builtin "max") [a, b]) Q E s := by
  have hname : (toString "max" ++ toString ".loop" : String) = "max.loop" := by decide
  apply call_function_tree F.kind_max F.plain_max F.entry_max (F.args_max2 _ _)
  show wpAny _ A.in1 (Builtin.Builtins.bindParams "max" ["key", "default"] 0 ⟨[], []⟩ >>= _) _ _ s
  refine wpAny_bind (wpAny_of_eq (show Builtin.Builtins.bindParams "max" ["key", "default"] 0 ⟨[], []⟩ = pure [none, none] from rfl) ?_)
  show wpAny _ A.in1 (newTuple [a, b] >>= _) _ _ s
  refine wpAny_bind (wpAny_newObj_type ?_)
  have tup : ({ s with heap := s.heap.push { cls := .type "tuple", data := .seq #[a, b] } } : Shared).heap.IsTuple s.heap.objs.size #[a, b] := ⟨_, Heap.get?_push_size _ rfl, rfl, _, rfl⟩
  refine wpAny_bind (PySem.W.iter_tupleW (A := A.in1) hh tup fun s2 e W st hfp hw hk => ?_)
  have k2 : ∀ c o, s.heap.get? c = some o → s2.heap.get? c = some o := fun c o q => hk c o (Heap.get?_push_of_some _ q)
  refine wpAny_bind (wpAny_newObj_type ?_)
  have nf : s2.heap.objs.size ∉ [({ s with heap := s.heap.push { cls := .type "tuple", data := .seq #[a, b] } } : Shared).heap.objs.size, s.heap.objs.size] := fun hm => Nat.lt_irrefl _ (hfp _ hm)
  rw [hname]
  apply wpAny_pure
  refine ⟨plainId_quiet F.plain_max_loop _, ?_⟩
  refine PySem.codeAny_max_loop_firstH W ({ s with heap := s.heap.push { cls := .type "tuple", data := .seq #[a, b] } } : Shared).heap hw bt (hc _ fun c o q => Heap.get?_push_of_some _ q) s2.heap.objs.size nf (PySem.fresh_in hk) _ (by show 0 < 2; decide)
    (fun c o q => Heap.get?_push_of_some _ (hk c o q)) (W.frame 0 s2 _ s2.toks st (Nat.le_refl _) fun c _ o q => Heap.get?_push_of_some _ q) (Heap.get?_push_size _ rfl) fun v s' hP hm => ?_
  have m2 := Moved.drop_new (tk := s2.toks) hm (Nat.le_refl _)
  obtain ⟨h', tk, rfl, hk'⟩ := PySem.W.moved_old e rfl m2
  exact h v h' tk hP fun c o q => hk' c o (Heap.get?_push_of_some _ q)
def rTwomax (K : PySem.W.Frag) : List V → Hp → VK → Prop := fun vs H Q => ∃ x y d e, vs = [x, y] ∧ Dp K H x (toP d) ∧ Dp K H y (toP e) ∧ ordAll [d, e] = true ∧ Q (if dlt d e then y else x) H
theorem cr_twomax (hc : X.calm = true) (hu : X.A.units + 64 < cLine) : CallR X (.builtin "max") (rTwomax X.K) := by
  rintro pins s σ H vs us Q I r ⟨x, y, d, e, rfl, hx, hy, ok, q⟩
  obtain ⟨u, v, rfl, rx, ry⟩ := vals2 r
  refine two_max (bt := btmax [d, e]) (I.ok.hd hc) (fun h k => ?_) fun w h' tk hP k => ?_
  · intro i j vi vj s' Q' E' k' hi hj q'
    refine cmpIn_max (a := 0) (ys := [x, y]) (its := [u, v]) I hu r (fun n z f e1 e2 => ?_) ok rfl _ (by show X.A.units + 1 ≤ _; omega) i j vi vj s' Q' E' (fun c o z => k' c o (k c o z)) hi hj q'
    match n, e1, e2 with
    | 0, e1, e2 => cases e1; cases e2; exact hx
    | 1, e1, e2 => cases e1; cases e2; exact hy
    | n + 2, e1, e2 => simp at e1
  · refine ⟨if dlt d e then y else x, H, I.kept k, ?_, q⟩
    have eb : PySem.argBest (btmax [d, e]) 1 = if dlt d e then 1 else 0 := rfl
    rw [eb] at hP
    by_cases hb : dlt d e = true
    · rw [if_pos hb] at hP ⊢
      cases hP
      exact ry
    · rw [if_neg hb] at hP ⊢
      cases hP
      exact rx
end
def opmax (st : Store) (as : List D) : Option D := match as with
  | [x] => match items st x with
    | some (d :: ds) => if ordAll (d :: ds) then some (ds.foldl (fun a y => if dlt a y then y else a) d) else none
    | _ => none
  | [x, y] => if ordAll [x, y] then some (if dlt x y then y else x) else none
  | _ => none
def opmaxD (st : Store) (as zs : List D) : Option D := match as, zs with
  | [x], [z] => match deref st x with
    | .lst [] => some z
    | .lst (d :: ds) => if ordAll (d :: ds) then some (ds.foldl (fun a y => if dlt a y then y else a) d) else none
    | _ => none
  | _, _ => none
theorem bestmax_fold (d : D) (ds : List D) : (d :: ds)[PySem.argBest (btmax (d :: ds)) ds.length]? = some (ds.foldl (fun a y => if dlt a y then y else a) d) := by
  obtain ⟨l, e⟩ := PySem.W.argBest_fold (fun x y => dlt y x) D.non d ds ds.length (Nat.le_refl _)
  rw [List.take_length] at e
  have l' : PySem.argBest (btmax (d :: ds)) ds.length < (d :: ds).length := by
    rw [List.length_cons]
    exact Nat.lt_succ_of_le l
  rw [List.getElem?_eq_getElem l']
  rw [List.getD_eq_getElem?_getD] at e
  have e3 : ((d :: ds)[PySem.argBest (btmax (d :: ds)) ds.length]?).getD D.non = ds.foldl (fun a y => if dlt a y then y else a) d := e
  rw [List.getElem?_eq_getElem l'] at e3
  rw [← e3]
  rfl
section
variable {W : Wd} {K : PySem.W.Frag}
theorem cd_max : CallD W (fun vs H Q => rBestmax K vs H Q ∨ rTwomax K vs H Q) opmax := by
  intro E M σ H env st as vs Q S rs h
  match as, rs, h with
  | [], _, h => exact h.elim
  | [x], .cons (v := v) r .nil, h =>
    simp only [opmax] at h
    cases e : items st x with
    | none => rw [e] at h; exact h.elim
    | some ds =>
      rw [e] at h
      cases ds with
      | nil => exact h.elim
      | cons d ds =>
        simp only at h
        by_cases ok : ordAll (d :: ds) = true
        · rw [if_pos ok] at h
          obtain ⟨p, ys, rfl, rr, sq⟩ := rep_items (K := K) S.s r e
          refine .inl ⟨p, ys, d :: ds, rfl, sq, rr.length.symm, (fun z => nomatch z), fun i y f e1 e2 => ?_, ok, fun y ey => ?_⟩
          · obtain ⟨y', e3, ry⟩ := rr.get e2
            rw [e1] at e3
            cases e3
            exact ry.dp (ordAll_at ok (List.mem_of_getElem? e2)).1
          · obtain ⟨f, ef, rf⟩ := rr.getV ey
            have hb := bestmax_fold d ds
            rw [List.length_cons, Nat.add_sub_cancel] at ef
            rw [hb] at ef
            cases ef
            exact h.give S rf
        · rw [if_neg ok] at h; exact h.elim
  | [x, y], .cons (v := v) r (.cons (v := w) r2 .nil), h =>
    simp only [opmax] at h
    by_cases ok : ordAll [x, y] = true
    · rw [if_pos ok] at h
      have o1 := ordAll_at ok (List.mem_cons_self ..)
      have o2 := ordAll_at ok (List.mem_cons_of_mem _ (List.mem_cons_self ..))
      refine .inr ⟨v, w, x, y, rfl, r.dp o1.1, r2.dp o2.1, ok, ?_⟩
      by_cases hb : dlt x y = true
      · rw [if_pos hb] at h ⊢
        exact h.give S r2
      · rw [if_neg hb] at h ⊢
        exact h.give S r
    · rw [if_neg ok] at h; exact h.elim
  | _ :: _ :: _ :: _, _, h => exact h.elim
theorem ckd_max : CallKD W (rDfltmax K) opmaxD := by
  intro E M σ H env st as zs vs ws Q S rs rz h
  match as, zs, rs, rz, h with
  | [x], [z], .cons (v := v) r .nil, .cons (v := w) r2 .nil, h =>
    simp only [opmaxD] at h
    cases e : deref st x with
    | lst ds =>
      rw [e] at h
      obtain ⟨p, ys, rfl, rr, rd⟩ := rep_lst S.s r e
      cases ds with
      | nil =>
        refine ⟨p, ys, [], w, rfl, rfl, .inl rd, rr.length.symm, fun i y f e1 e2 => (by simp at e2), rfl, fun _ => h.give S r2, fun y z => absurd rfl z⟩
      | cons d ds =>
        simp only at h
        by_cases ok : ordAll (d :: ds) = true
        · rw [if_pos ok] at h
          refine ⟨p, ys, d :: ds, w, rfl, rfl, .inl rd, rr.length.symm, fun i y f e1 e2 => ?_, ok, (fun z => nomatch z), fun y _ ey => ?_⟩
          · obtain ⟨y', e3, ry⟩ := rr.get e2
            rw [e1] at e3
            cases e3
            exact ry.dp (ordAll_at ok (List.mem_of_getElem? e2)).1
          · obtain ⟨f, ef, rf⟩ := rr.getV ey
            have hb := bestmax_fold d ds
            rw [List.length_cons, Nat.add_sub_cancel] at ef
            rw [hb] at ef
            cases ef
            exact h.give S rf
        · rw [if_neg ok] at h; exact h.elim
    | _ => rw [e] at h; exact h.elim
  | [], _, _, _, h => exact h.elim
  | _ :: _ :: _, _, _, _, h => exact h.elim
  | [_], [], _, _, h => exact h.elim
  | [_], _ :: _ :: _, _, _, h => exact h.elim
end
end DL

set_option Elab.async false
set_option linter.all false
set_option maxRecDepth 100000
set_option maxHeartbeats 4000000
/-! DL10: len, tuple, list, sorted, sum, abs, int, ranges, repr. -/
namespace DL
open PySem PySem.Spec PyProof.Rows L2
/-! ### new lists by calls -/
def nCallB (op : Store → List D → Option (List D)) (g : EvL) : EvL := fun env st => (g env st).bind fun as st1 => R.ofO (op st1 as) st1
def CallN (W : Wd) (r : List V → Hp → VK → Prop) (op : Store → List D → Option (List D)) : Prop :=
  ∀ (E : XK) (M : MW) (σ : L2.St) (H : Hp) (env : Ent) (st : Store) (as : List D) (vs : List V) (Q : VK), Sim W M σ H env st → Reps W M H as vs → FinN W E σ env (R.ofO (op st as) st) M H Q → r vs H Q
theorem FinN.give {W : Wd} {E : XK} {σ : L2.St} {env : Ent} {M : MW} {H : Hp} {st : Store} {ds : List D} {vs : List V} {Q : VK} (h : FinN W E σ env (.ok ds st) M H Q) (S : Sim W M σ H env st) (r : Reps W M H ds vs) : ∀ p, H p = none → Q (.ref p) (upd H p (.lst vs)) := h M vs H .refl S r
section
variable {X : Cx} {W : Wd} {E : XK} {x : PySem.Str} {p pos : Pos} {e : Expr} {es : List Expr} {g : EvL} {id T : String} {r : List V → Hp → VK → Prop} {op : Store → List D → Option (List D)}
theorem lift_callN (hd : CallN W r op) {σ : L2.St} {H : Hp} {Q : VK} (q : lN W E (nCallB op g) σ H Q) : tCB r (lA W E g) σ H Q := by
  obtain ⟨M, env, st, S, q⟩ := q
  exact ⟨M, env, st, S, Fin.bind q fun as st1 M1 vs H1 T1 S1 r1 q1 => hd E M1 σ H1 env st1 as vs Q S1 r1 q1⟩
theorem dn_callB (hc : CallR X (.builtin id) r) (hd : CallN W r op) (hg : Gl X x) (hm : X.mg x = none) (hv : bootBuiltins x = some (.builtin id)) (ha : DA X W E (e :: es) g) (hn : x ≠ "__name__" := by decide) (hdb : (x == ("__debug__" : PySem.Str)) = false := by decide)
    (he : starEach (e :: es) X.env = (false, eval e X.env) :: starEach es X.env := by rfl) (hpl : (backTo pos (starEach es X.env)).any (·.1) = false := by rfl) : DN X W E (.Call (.Name x p) (e :: es) [] pos) (nCallB op g) :=
  PEmono (pe_callB hc hg hm hv ha hn hdb he hpl) fun σ H Q q => lift_callN hd q
theorem dn_callTy (hc : CallR X (.type T) r) (hd : CallN W r op) (hg : Gl X x) (hm : X.mg x = none) (hv : bootBuiltins x = some (.type T)) (ha : DA X W E (e :: es) g) (hn : x ≠ "__name__" := by decide) (hdb : (x == ("__debug__" : PySem.Str)) = false := by decide)
    (he : starEach (e :: es) X.env = (false, eval e X.env) :: starEach es X.env := by rfl) (hpl : (backTo pos (starEach es X.env)).any (·.1) = false := by rfl) : DN X W E (.Call (.Name x p) (e :: es) [] pos) (nCallB op g) :=
  PEmono (pe_callTy hc hg hm hv ha hn hdb he hpl) fun σ H Q q => lift_callN hd q
end
/-! ### len -/
def opLen (st : Store) (as : List D) : Option D := match as with
  | [x] => match items st x with
    | some ds => some (.int ds.length)
    | none => none
  | _ => none
theorem cd_len {W : Wd} {K : PySem.W.Frag} : CallD W (fun xs H Q => ∃ p ys, xs = [.ref p] ∧ (SqL K H p ys ∨ SqT K H p ys) ∧ Q (.int ys.length) H) opLen := by
  intro E M σ H env st as vs Q S rs h
  match as, rs, h with
  | [x], .cons r .nil, h =>
    simp only [opLen] at h
    cases e : items st x with
    | none => rw [e] at h; exact h.elim
    | some ds =>
      rw [e] at h
      obtain ⟨p, ys, rfl, rr, sq⟩ := rep_items (K := K) S.s r e
      refine ⟨p, ys, rfl, sq, ?_⟩
      rw [← rr.length]
      exact h.give S (.int _)
  | [], _, h => exact h.elim
  | _ :: _ :: _, _, h => exact h.elim
/-! ### tuple(x), list(x) -/
def opTuple (st : Store) (as : List D) : Option D := match as with
  | [x] => match items st x with
    | some ds => some (.tup ds)
    | none => none
  | _ => none
theorem items_tup {W : Wd} {M : MW} {H : Hp} {st : Store} (S : SimS W M H st) {d : D} {v : V} {ds : List D} (r : Rep W M H d v) (e : items st d = some ds) :
    (∃ a vs, v = .ref a ∧ Reps W M H ds vs ∧ Rd H a (.lst vs)) ∨ (∃ a vs, v = .ref a ∧ Reps W M H ds vs ∧ H a = some (.tup vs)) := by
  unfold items at e
  rcases deref_cases S r with q | ⟨m, ds', a, vs, rfl, e1, e2, rfl, e3, e4, e5⟩
  · rw [q] at e
    cases r with
    | tup h r => cases e; exact .inr ⟨_, _, rfl, r, h⟩
    | lst h m r => cases e; exact .inl ⟨_, _, rfl, r, h⟩
    | _ => cases e
  · rw [e2] at e
    cases e
    exact .inl ⟨_, _, rfl, e5, .inl e4⟩
theorem cd_tuple {W : Wd} {K : PySem.W.Frag} : CallD W (fun xs H Q => ∃ p ys, xs = [.ref p] ∧ ((SqL K H p ys ∧ ∀ l, H l = none → Q (.ref l) (upd H l (.tup ys))) ∨ (SqT K H p ys ∧ Q (.ref p) H))) opTuple := by
  intro E M σ H env st as vs Q S rs h
  match as, rs, h with
  | [x], .cons r .nil, h =>
    simp only [opTuple] at h
    cases e : items st x with
    | none => rw [e] at h; exact h.elim
    | some ds =>
      rw [e] at h
      rcases items_tup S.s r e with ⟨a, ys, rfl, rr, rd⟩ | ⟨a, ys, rfl, rr, ht⟩
      · exact ⟨a, ys, rfl, .inl ⟨.inl rd, h.tup S rr⟩⟩
      · exact ⟨a, ys, rfl, .inr ⟨.inl (.inl ht), h.give S (.tup ht rr)⟩⟩
  | [], _, h => exact h.elim
  | _ :: _ :: _, _, h => exact h.elim
def opList (st : Store) (as : List D) : Option (List D) := match as with
  | [x] => items st x
  | _ => none
theorem cn_list {W : Wd} {K : PySem.W.Frag} : CallN W (fun xs H Q => ∃ p ys, xs = [.ref p] ∧ (SqL K H p ys ∨ SqT K H p ys) ∧ ∀ l, H l = none → Q (.ref l) (upd H l (.lst ys))) opList := by
  intro E M σ H env st as vs Q S rs h
  match as, rs, h with
  | [x], .cons r .nil, h =>
    simp only [opList] at h
    cases e : items st x with
    | none => rw [e] at h; exact h.elim
    | some ds =>
      rw [e] at h
      obtain ⟨p, ys, rfl, rr, sq⟩ := rep_items (K := K) S.s r e
      exact ⟨p, ys, rfl, sq, h.give S rr⟩
  | [], _, h => exact h.elim
  | _ :: _ :: _, _, h => exact h.elim
/-! ### ranges -/
def rgD (a b : Int) : List D := (List.range (b - a).toNat).map fun i => D.int (a + (i : Nat))
theorem rep_rg {W : Wd} {M : MW} {H : Hp} (a b : Int) : Reps W M H (rgD a b) (rgV a b) := by
  unfold rgD rgV
  generalize List.range (b - a).toNat = l
  induction l with
  | nil => exact .nil
  | cons x l ih => exact .cons (.int _) ih
def bigR : Int := 16777216
def rgOk (a b : Int) : Bool := decide (-16777216 ≤ a) && decide (a ≤ 16777216) && decide (-16777216 ≤ b) && decide (b ≤ 16777216) && decide (b - a ≤ 16777216)
theorem rgOk_ok {a b : Int} (h : rgOk a b = true) : RgOk a b := by
  simp only [rgOk, Bool.and_eq_true, decide_eq_true_eq] at h
  exact ⟨by omega, by omega, by omega, by omega, by omega⟩
/-- the ends of a range as two ints -/
abbrev EvR := Ent → Store → R (Int × Int)
def DR (X : Cx) (W : Wd) (E : XK) (e : Expr) (f : EvR) : Prop := ∃ t, PRg X e t ∧ ∀ (σ : L2.St) (H : Hp) (Q : Int → Int → Hp → Prop), Lift W E (fun _ _ a b => a = b) f σ H (fun p H1 => Q p.1 p.2 H1) → t σ H Q
def gRg1 (f : Ev) : EvR := fun env st => (f env st).bind fun a st1 => match a with
  | .int n => .ok (0, n) st1
  | _ => .no
def gRg2 (f g : Ev) : EvR := fun env st => (f env st).bind fun a st1 => (g env st1).bind fun b st2 => match a with
  | .int i => match b with
    | .int j => .ok (i, j) st2
    | _ => .no
  | _ => .no
section
variable {X : Cx} {W : Wd} {E : XK} {e a b : Expr} {f g : Ev} {k : EvR} {p pos : Pos}
theorem dr_1 (hg : Gl X "range") (hm : X.mg "range" = none) (ha : DE X W E a f) (na : starEach [a] X.env = (false, eval a X.env) :: starEach [] X.env := by rfl) : DR X W E (.Call (.Name "range" p) [a] [] pos) (gRg1 f) :=
  ⟨_, prg_1 hg hm ha na, fun σ H Q ⟨M, env, st, S, q⟩ => ⟨M, env, st, S, Fin.bind q fun d st1 M1 x H1 T1 S1 r1 q1 => by
    cases d with
    | int n => cases r1; exact ⟨n, rfl, q1 M1 (0, n) H1 .refl S1 rfl⟩
    | _ => exact q1.elim⟩⟩
theorem dr_2 (hg : Gl X "range") (hm : X.mg "range" = none) (ha : DE X W E a f) (hb : DE X W E b g) (na : starEach [a, b] X.env = (false, eval a X.env) :: starEach [b] X.env := by rfl)
    (nb : starEach [b] X.env = (false, eval b X.env) :: starEach [] X.env := by rfl) (hp : (backTo pos (starEach [b] X.env)).any (·.1) = false := by rfl) : DR X W E (.Call (.Name "range" p) [a, b] [] pos) (gRg2 f g) :=
  ⟨_, prg_2 hg hm ha hb na nb hp, fun σ H Q ⟨M, env, st, S, q⟩ => ⟨M, env, st, S, Fin.bind q fun d st1 M1 x H1 T1 S1 r1 q1 => ⟨M1, env, st1, S1, Fin.bind q1 fun d2 st2 M2 y H2 T2 S2 r2 q2 => by
    cases d with
    | int i =>
      cases d2 with
      | int j => cases r1; cases r2; exact ⟨i, j, rfl, rfl, q2 M2 (i, j) H2 .refl S2 rfl⟩
      | _ => exact q2.elim
    | _ => exact q2.elim⟩⟩⟩
def nListRg (k : EvR) : EvL := fun env st => (k env st).bind fun p st1 => if rgOk p.1 p.2 then .ok (rgD p.1 p.2) st1 else .no
def eTupRg (k : EvR) : Ev := fun env st => (k env st).bind fun p st1 => if rgOk p.1 p.2 then .ok (.tup (rgD p.1 p.2)) st1 else .no
theorem dn_listRg (hc : X.calm = true) (hg : Gl X "list") (hm : X.mg "list" = none) (he : DR X W E e k) (na : starEach [e] X.env = (false, eval e X.env) :: starEach [] X.env := by rfl) : DN X W E (.Call (.Name "list" p) [e] [] pos) (nListRg k) := by
  obtain ⟨t, pt, ht⟩ := he
  refine PEmono (pe_listRg hc hg hm pt na) fun σ H Q ⟨M, env, st, S, q⟩ => ht σ H _ ⟨M, env, st, S, Fin.bind q fun p st1 M1 p' H1 T1 S1 e1 q1 => ?_⟩
  cases e1
  by_cases ok : rgOk p.1 p.2 = true
  · rw [if_pos ok] at q1
    exact ⟨rgOk_ok ok, fun z hz => q1 M1 _ H1 .refl S1 (rep_rg _ _) z hz⟩
  · rw [if_neg ok] at q1; exact q1.elim
theorem de_tupRg (hc : X.calm = true) (hg : Gl X "tuple") (hm : X.mg "tuple" = none) (he : DR X W E e k) (na : starEach [e] X.env = (false, eval e X.env) :: starEach [] X.env := by rfl) : DE X W E (.Call (.Name "tuple" p) [e] [] pos) (eTupRg k) := by
  obtain ⟨t, pt, ht⟩ := he
  refine PEmono (pe_tupRg hc hg hm pt na) fun σ H Q ⟨M, env, st, S, q⟩ => ht σ H _ ⟨M, env, st, S, Fin.bind q fun p st1 M1 p' H1 T1 S1 e1 q1 => ?_⟩
  cases e1
  by_cases ok : rgOk p.1 p.2 = true
  · rw [if_pos ok] at q1
    exact ⟨rgOk_ok ok, q1.tup S1 (rep_rg _ _)⟩
  · rw [if_neg ok] at q1; exact q1.elim
end
/-! ### sum, abs, int -/
def allInt : List D → Option (List Int)
  | [] => some []
  | .int i :: ds => (allInt ds).map (i :: ·)
  | _ => none
theorem allInt_rep {W : Wd} {M : MW} {H : Hp} : ∀ {ds : List D} {vs : List V} {ns : List Int}, Reps W M H ds vs → allInt ds = some ns → vs = ns.map V.int
  | _, _, _, .nil, e => by simp [allInt] at e; subst e; rfl
  | _, _, ns, .cons (d := d) h r, e => by
    cases d with
    | int i =>
      cases h
      simp only [allInt, Option.map_eq_some_iff] at e
      obtain ⟨ms, e1, rfl⟩ := e
      rw [allInt_rep r e1]
      rfl
    | _ => simp [allInt] at e
def opSum (st : Store) (as : List D) : Option D := match as with
  | [x] => match deref st x with
    | .lst ds => (allInt ds).map fun ns => .int ns.sum
    | _ => none
  | _ => none
theorem cd_sum {W : Wd} {K : PySem.W.Frag} : CallD W (rSum K) opSum := by
  intro E M σ H env st as vs Q S rs h
  match as, rs, h with
  | [x], .cons r .nil, h =>
    simp only [opSum] at h
    cases e : deref st x with
    | lst ds =>
      rw [e] at h
      obtain ⟨p, ys, rfl, rr, rd⟩ := rep_lst S.s r e
      cases e2 : allInt ds with
      | none => simp only [e2] at h; exact h.elim
      | some ns =>
        simp only [e2] at h
        refine ⟨p, ns, rfl, ?_, h.give S (.int _)⟩
        rw [← allInt_rep rr e2]
        exact .inl rd
    | _ => rw [e] at h; exact h.elim
  | [], _, h => exact h.elim
  | _ :: _ :: _, _, h => exact h.elim
def opAbs (_ : Store) (as : List D) : Option D := match as with
  | [.int i] => some (.int (if i < 0 then -i else i))
  | _ => none
theorem cd_abs {W : Wd} : CallD W (fun xs H Q => ∃ i, xs = [.int i] ∧ Q (.int (if i < 0 then -i else i)) H) opAbs := by
  intro E M σ H env st as vs Q S rs h
  match as, rs, h with
  | [.int i], .cons (.int _) .nil, h => exact ⟨i, rfl, h.give S (.int _)⟩
  | [.non], _, h => exact h.elim
  | [.bl _], _, h => exact h.elim
  | [.str _], _, h => exact h.elim
  | [.tup _], _, h => exact h.elim
  | [.lst _], _, h => exact h.elim
  | [.ref _], _, h => exact h.elim
  | [.fn _], _, h => exact h.elim
  | [], _, h => exact h.elim
  | x :: _ :: _, _, h => cases x <;> exact h.elim
def opInt (_ : Store) (as : List D) : Option D := match as with
  | [.int i] => some (.int i)
  | _ => none
theorem cd_int {W : Wd} : CallD W (fun xs H Q => (∃ i, xs = [.int i] ∧ Q (.int i) H) ∨ ∃ k, xs = [.bl k] ∧ Q (.int (if k then 1 else 0)) H) opInt := by
  intro E M σ H env st as vs Q S rs h
  match as, rs, h with
  | [.int i], .cons (.int _) .nil, h => exact .inl ⟨i, rfl, h.give S (.int _)⟩
  | [.non], _, h => exact h.elim
  | [.bl _], _, h => exact h.elim
  | [.str _], _, h => exact h.elim
  | [.tup _], _, h => exact h.elim
  | [.lst _], _, h => exact h.elim
  | [.ref _], _, h => exact h.elim
  | [.fn _], _, h => exact h.elim
  | [], _, h => exact h.elim
  | x :: _ :: _, _, h => cases x <;> exact h.elim
end DL

set_option Elab.async false
set_option linter.all false
set_option maxRecDepth 100000
set_option maxHeartbeats 4000000
/-! DL11: sorted, repr. -/
namespace DL
open PySem PySem.Spec PyProof.Rows L2
/-! ### a sort that the kernel can run -/
section
variable {α : Type}
def ins (le : α → α → Bool) (x : α) : List α → List α
  | [] => [x]
  | y :: ys => if le x y then x :: y :: ys else y :: ins le x ys
def isort (le : α → α → Bool) : List α → List α
  | [] => []
  | x :: xs => ins le x (isort le xs)
theorem ins_mem {le : α → α → Bool} {x z : α} : ∀ {ys : List α}, z ∈ ins le x ys ↔ z = x ∨ z ∈ ys
  | [] => by simp [ins]
  | y :: ys => by
    unfold ins
    split
    · simp
    · rw [List.mem_cons, ins_mem, List.mem_cons]
      constructor
      · rintro (h | h | h) <;> simp [h]
      · rintro (h | h | h) <;> simp [h]
theorem isort_mem {le : α → α → Bool} {z : α} : ∀ {xs : List α}, z ∈ isort le xs ↔ z ∈ xs
  | [] => Iff.rfl
  | x :: xs => by
    show z ∈ ins le x (isort le xs) ↔ _
    rw [ins_mem, isort_mem, List.mem_cons]
theorem ins_length {le : α → α → Bool} {x : α} : ∀ {ys : List α}, (ins le x ys).length = ys.length + 1
  | [] => rfl
  | y :: ys => by
    unfold ins
    split
    · rfl
    · rw [List.length_cons, ins_length, List.length_cons]
theorem isort_length {le : α → α → Bool} : ∀ {xs : List α}, (isort le xs).length = xs.length
  | [] => rfl
  | x :: xs => by
    show (ins le x (isort le xs)).length = _
    rw [ins_length, isort_length, List.length_cons]
theorem ins_sorted {le : α → α → Bool} (T : PySem.W.TotalLe le) {x : α} : ∀ {ys : List α}, ys.Pairwise (fun a b => le a b = true) → (ins le x ys).Pairwise fun a b => le a b = true
  | [], _ => by simp [ins]
  | y :: ys, h => by
    unfold ins
    rw [List.pairwise_cons] at h
    split
    · rename_i l
      rw [List.pairwise_cons]
      refine ⟨fun z hz => ?_, List.pairwise_cons.mpr h⟩
      rcases List.mem_cons.mp hz with e | hz
      · rw [e]; exact l
      · exact T.trans _ _ _ l (h.1 z hz)
    · rename_i l
      rw [List.pairwise_cons]
      refine ⟨fun z hz => ?_, ins_sorted T h.2⟩
      rcases ins_mem.mp hz with e | hz
      · rw [e]
        exact (T.total x y).elim (fun q => absurd q l) id
      · exact h.1 z hz
theorem isort_sorted {le : α → α → Bool} (T : PySem.W.TotalLe le) : ∀ {xs : List α}, (isort le xs).Pairwise fun a b => le a b = true
  | [] => List.Pairwise.nil
  | _ :: _ => ins_sorted T (isort_sorted T)
theorem ins_filter {le : α → α → Bool} (T : PySem.W.TotalLe le) {x c : α} : ∀ {ys : List α}, (ins le x ys).filter (PySem.W.sameRank le c) = (x :: ys).filter (PySem.W.sameRank le c)
  | [] => rfl
  | y :: ys => by
    unfold ins
    split
    · rfl
    · rename_i l
      rw [List.filter_cons (x := y), ins_filter T]
      by_cases hx : PySem.W.sameRank le c x = true
      · have hy : ¬ PySem.W.sameRank le c y = true := fun hy => by
          simp only [PySem.W.sameRank, Bool.and_eq_true] at hx hy
          exact l (T.trans _ _ _ hx.2 hy.1)
        rw [if_neg hy, List.filter_cons, if_pos hx, List.filter_cons, if_pos hx, List.filter_cons, if_neg hy]
      · rw [List.filter_cons, if_neg hx, List.filter_cons (x := x), if_neg hx, List.filter_cons (x := y)]
theorem isort_filter {le : α → α → Bool} (T : PySem.W.TotalLe le) {c : α} : ∀ {xs : List α}, (isort le xs).filter (PySem.W.sameRank le c) = xs.filter (PySem.W.sameRank le c)
  | [] => rfl
  | x :: xs => by
    show (ins le x (isort le xs)).filter _ = _
    rw [ins_filter T, List.filter_cons, isort_filter T, List.filter_cons]
theorem isort_eq {le : α → α → Bool} (T : PySem.W.TotalLe le) (xs : List α) : isort le xs = xs.mergeSort le :=
  PySem.W.sort_unique T (isort_sorted T) fun c => isort_filter T
theorem ins_congr {le le' : α → α → Bool} {x : α} : ∀ {ys : List α}, (∀ y ∈ ys, le x y = le' x y) → ins le x ys = ins le' x ys
  | [], _ => rfl
  | y :: ys, h => by
    unfold ins
    rw [h y (List.mem_cons_self ..), ins_congr fun z hz => h z (List.mem_cons_of_mem _ hz)]
theorem isort_congr {le le' : α → α → Bool} : ∀ {xs : List α}, (∀ a ∈ xs, ∀ b ∈ xs, le a b = le' a b) → isort le xs = isort le' xs
  | [], _ => rfl
  | x :: xs, h => by
    show ins le x (isort le xs) = ins le' x (isort le' xs)
    rw [isort_congr fun a ha b hb => h a (List.mem_cons_of_mem _ ha) b (List.mem_cons_of_mem _ hb)]
    exact ins_congr fun y hy => h x (List.mem_cons_self ..) y (List.mem_cons_of_mem _ (isort_mem.mp hy))
end
def dle (a b : D) : Bool := !dlt b a
def isTup : D → Bool
  | .tup (_ :: _) => true
  | _ => false
def noTup : D → Bool
  | .tup _ => false
  | .non => false
  | _ => true
/-- each comparable with each, of one kind -/
def sortOk (ds : List D) : Bool := (ds.all fun a => fit a 40 && ds.all fun b => alk a b) && (ds.all isTup || ds.all noTup)
theorem toPs_map : ∀ ds : List D, toPs ds = ds.map toP
  | [] => rfl
  | d :: ds => by
    show toP d :: toPs ds = toP d :: ds.map toP
    rw [toPs_map ds]
theorem sortOk_fit {ds : List D} (h : sortOk ds = true) {d : D} (m : d ∈ ds) : fit d 40 = true ∧ ∀ e ∈ ds, alk d e = true := by
  simp only [sortOk, Bool.and_eq_true, List.all_eq_true] at h
  exact h.1 d m
section
variable {β : Type} {enc : β → D} {bs : List β}
theorem sortOk_alike (h : sortOk (bs.map enc) = true) : PySem.W.AllAlike (bs.map fun b => toP (enc b)) := by
  intro x hx y hy
  obtain ⟨a, ha, rfl⟩ := List.mem_map.mp hx
  obtain ⟨b, hb, rfl⟩ := List.mem_map.mp hy
  exact alike_toP _ _ ((sortOk_fit h (List.mem_map_of_mem ha)).2 _ (List.mem_map_of_mem hb))
theorem sortOk_sortable (h : sortOk (bs.map enc) = true) : PySem.W.Sortable (bs.map fun b => toP (enc b)) := by
  have q := h
  simp only [sortOk, Bool.and_eq_true, Bool.or_eq_true] at q
  rcases q.2 with q | q
  · refine .inl fun x hx => ?_
    obtain ⟨a, ha, rfl⟩ := List.mem_map.mp hx
    have t := List.all_eq_true.mp q _ (List.mem_map_of_mem ha)
    cases e : enc a with
    | tup xs =>
      rw [e] at t
      cases xs with
      | nil => cases t
      | cons y ys => exact ⟨toP y, toPs ys, rfl⟩
    | _ => rw [e] at t; cases t
  · refine .inr fun x hx => ?_
    obtain ⟨a, ha, rfl⟩ := List.mem_map.mp hx
    have t := List.all_eq_true.mp q _ (List.mem_map_of_mem ha)
    have f := (sortOk_fit h (List.mem_map_of_mem ha)).1
    cases e : enc a <;> rw [e] at t f <;> simp_all [noTup, toP, fit]
end
def rSortA (K : PySem.W.Frag) : List V → Hp → VK → Prop := fun vs H Q => ∃ (a : Addr) (ys : List V) (ds : List D) (RR : D → V → Prop), vs = [.ref a] ∧ SqL K H a ys ∧ ds.length ≤ sizeLine ∧ Paired RR ds ys ∧ (∀ d y, RR d y → fit d 40 = true → Dp K H y (toP d)) ∧ sortOk ds = true ∧
  ∀ ys' p, Paired RR (isort dle ds) ys' → H p = none → Q (.ref p) (upd H p (.lst ys'))
theorem paired_zip {α β : Type} {F : α → β → Prop} : ∀ {as : List α} {bs : List β}, Paired F as bs → ∀ p ∈ as.zip bs, F p.1 p.2
  | _, _, .nil, p, h => by simp at h
  | _, _, .cons r t, p, h => by
    rw [List.zip_cons_cons] at h
    rcases List.mem_cons.mp h with e | h
    · rw [e]; exact r
    · exact paired_zip t p h
theorem paired_map {α β : Type} {F : α → β → Prop} : ∀ {l : List (α × β)}, (∀ p ∈ l, F p.1 p.2) → Paired F (l.map (·.1)) (l.map (·.2))
  | [], _ => .nil
  | p :: l, h => .cons (h p (List.mem_cons_self ..)) (paired_map fun q hq => h q (List.mem_cons_of_mem _ hq))
theorem zip_fst {α β : Type} : ∀ {as : List α} {bs : List β}, as.length = bs.length → (as.zip bs).map (·.1) = as
  | [], _, _ => rfl
  | a :: as, b :: bs, h => by
    rw [List.zip_cons_cons, List.map_cons, zip_fst (by simpa using h)]
theorem each_zip {RV : V → Value → Prop} : ∀ {ds : List D} {ys : List V} {us : List Value}, ds.length = ys.length → Paired RV ys us → PySem.W.EachIs (fun (u : Value) (b : D × V) => RV b.2 u) us (ds.zip ys)
  | [], [], _, _, .nil => .nil
  | d :: ds, y :: ys, _, h, .cons r t => .cons r (each_zip (by simpa using h) t)
theorem each_vals : ∀ {us : List Value} {bs : List (D × V)}, PySem.W.EachIs (fun (u : Value) (b : D × V) => RelV b.2 u) us bs → Vals (bs.map (·.2)) us
  | _, _, .nil => .nil
  | _, _, .cons r t => .cons r (each_vals t)
theorem each_imp {R R' : Value → (D × V) → Prop} : ∀ {us : List Value} {bs : List (D × V)}, PySem.W.EachIs R us bs → (∀ u b, b ∈ bs → R u b → R' u b) → PySem.W.EachIs R' us bs
  | _, _, .nil, _ => .nil
  | _, _, .cons r t, h => .cons (h _ _ (List.mem_cons_self ..) r) (each_imp t fun u b hb => h u b (List.mem_cons_of_mem _ hb))
theorem dataLe_total : PySem.W.TotalLe (PySem.W.dataLe false (fun b : D × V => toP b.1)) := PySem.W.sortLe_total _ _ _
theorem cr_sortA {X : Cx} (hu : X.A.units + 64 < cLine) : CallR X (.builtin "sorted") (rSortA X.K) := by
  rintro pins s σ H vs us Q I r ⟨a, ys, ds, RR, rfl, hs, hz, pr, hdp, ok, q⟩
  obtain ⟨its, rv, hl, _⟩ := I.list hs
  rw [Vals.ref1 r]
  have len : ds.length = ys.length := Paired.length pr
  have e1 : (ds.zip ys).map (fun b => b.1) = ds := zip_fst len
  have ok' : sortOk ((ds.zip ys).map (fun b => b.1)) = true := by rw [e1]; exact ok
  have ez := each_zip (RV := RelV) len rv
  have fitz : ∀ b ∈ ds.zip ys, fit b.1 40 = true := fun b hb => (sortOk_fit ok (by rw [← e1]; exact List.mem_map_of_mem hb)).1
  refine PySem.W.sorted_data (R := fun u b => RelV b.2 u) (enc := fun b : D × V => toP b.1) (bs := ds.zip ys) hl.isList ez (each_imp ez fun u b hb ru => ?_) (sortOk_alike (enc := fun b : D × V => b.1) ok') (sortOk_sortable (enc := fun b : D × V => b.1) ok') ?_ (fun b hb => ?_) fun out h1 h2 => ?_
  · obtain ⟨as, rr⟩ := Dp.reads I _ _ _ (hdp b.1 b.2 (paired_zip pr b hb) (fitz b hb)) ru
    exact ⟨as, rr⟩
  · rw [List.length_zip, len, Nat.min_self, ← len]; exact hz
  · have := (plain_toP b.1 40 (fitz b hb)).2
    omega
  · obtain ⟨ep, he'⟩ := PyProof.Rows.sortedAll_at s.heap its out.toArray
    have es : (ds.zip ys).mergeSort (PySem.W.dataLe false (fun b : D × V => toP b.1)) = isort (fun a b : D × V => dle a.1 b.1) (ds.zip ys) := by
      rw [← isort_eq dataLe_total]
      refine isort_congr fun a ha b hb => ?_
      rw [PySem.W.dataLe_eq]
      show (!PySem.W.dataLt (toP b.1) (toP a.1)) = !dlt b.1 a.1
      have ma : a.1 ∈ ds := by rw [← e1]; exact List.mem_map_of_mem ha
      have mb : b.1 ∈ ds := by rw [← e1]; exact List.mem_map_of_mem hb
      rw [dataLt_toP _ _ 40 40 (fitz b hb) (fitz a ha) ((sortOk_fit ok mb).2 _ ma)]
    rw [es] at h2
    have ef : (isort (fun a b : D × V => dle a.1 b.1) (ds.zip ys)).map (·.1) = isort dle ds := by
      have gen : ∀ l : List (D × V), (isort (fun a b : D × V => dle a.1 b.1) l).map (·.1) = isort dle (l.map (·.1)) := by
        intro l
        induction l with
        | nil => rfl
        | cons x l ih =>
          show (ins _ x (isort _ l)).map (·.1) = ins dle x.1 (isort dle (l.map (·.1)))
          rw [← ih]
          generalize isort (fun a b : D × V => dle a.1 b.1) l = m
          induction m with
          | nil => rfl
          | cons y m ih2 =>
            unfold ins
            rw [List.map_cons]
            by_cases h : dle x.1 y.1 = true
            · rw [if_pos h]
              show x.1 :: y.1 :: m.map (·.1) = if dle x.1 y.1 = true then _ else _
              rw [if_pos h]
            · rw [if_neg h, List.map_cons, ih2]
              show y.1 :: ins dle x.1 (m.map (·.1)) = if dle x.1 y.1 = true then _ else _
              rw [if_neg h]
      rw [gen, e1]
    have vv := each_vals h2
    have pp : Paired RR (isort dle ds) ((isort (fun a b : D × V => dle a.1 b.1) (ds.zip ys)).map (·.2)) := by
      rw [← ef]
      exact paired_map fun p hp => paired_zip pr p (isort_mem.mp hp)
    refine ⟨.ref _, upd H (s.heap.objs.size + 1) (.lst ((isort (fun a b : D × V => dle a.1 b.1) (ds.zip ys)).map (·.2))), I.laid (t' := s.toks) (fun _ _ => PyProof.Rows.sortedAll_old) (Nat.le_succ _) ⟨?_, out, ep, vv, by simpa using he'⟩, rfl, q _ _ pp (I.hok.fresh (Nat.le_succ _))⟩
    rw [List.length_map, isort_length, List.length_zip, ← len, Nat.min_self]
    exact hz
def opSorted (st : Store) (as : List D) : Option (List D) := match as with
  | [x] => match deref st x with
    | .lst ds => if sortOk ds && sOk ds.length then some (isort dle ds) else none
    | _ => none
  | _ => none
theorem reps_paired {W : Wd} {M : MW} {H : Hp} : ∀ {ds : List D} {vs : List V}, Reps W M H ds vs → Paired (fun d v => Rep W M H d v) ds vs
  | _, _, .nil => .nil
  | _, _, .cons h r => .cons h (reps_paired r)
theorem paired_reps {W : Wd} {M : MW} {H : Hp} : ∀ {ds : List D} {vs : List V}, Paired (fun d v => Rep W M H d v) ds vs → Reps W M H ds vs
  | _, _, .nil => .nil
  | _, _, .cons h r => .cons h (paired_reps r)
theorem cn_sorted {W : Wd} {K : PySem.W.Frag} : CallN W (rSortA K) opSorted := by
  intro E M σ H env st as vs Q S rs h
  match as, rs, h with
  | [x], .cons r .nil, h =>
    simp only [opSorted] at h
    cases e : deref st x with
    | lst ds =>
      rw [e] at h
      simp only at h
      by_cases ok : (sortOk ds && sOk ds.length) = true
      · rw [if_pos ok] at h
        rw [Bool.and_eq_true] at ok
        obtain ⟨p, ys, rfl, rr, rd⟩ := rep_lst S.s r e
        exact ⟨p, ys, ds, fun d y => Rep W M H d y, rfl, .inl rd, sOk_le ok.2, reps_paired rr, fun d y ry f => ry.dp f, ok.1, fun ys' z pz hz => h.give S (paired_reps pz) z hz⟩
      · rw [if_neg ok] at h; exact h.elim
    | _ => rw [e] at h; exact h.elim
  | [], _, h => exact h.elim
  | _ :: _ :: _, _, h => exact h.elim

/-! ### repr -/
mutual
/-- the very same datum -/
def ideq : D → D → Bool
  | .non, y => match y with | .non => true | _ => false
  | .bl a, y => match y with | .bl b => a == b | _ => false
  | .int i, y => match y with | .int j => decide (i = j) | _ => false
  | .str x, y => match y with | .str z => decide (x = z) | _ => false
  | .tup xs, y => match y with | .tup ys => ideqs xs ys | _ => false
  | .lst xs, y => match y with | .lst ys => ideqs xs ys | _ => false
  | .ref _, _ => false
  | .fn _, _ => false
def ideqs : List D → List D → Bool
  | [], ys => match ys with | [] => true | _ :: _ => false
  | x :: xs, ys => match ys with | [] => false | y :: ys => ideq x y && ideqs xs ys
end
mutual
theorem ideq_eq : ∀ (a b : D), ideq a b = true → a = b
  | .non, b, h => by cases b <;> simp_all [ideq]
  | .bl x, b, h => by cases b <;> simp_all [ideq]
  | .int x, b, h => by cases b <;> simp_all [ideq]
  | .str x, b, h => by cases b <;> simp_all [ideq]
  | .tup xs, b, h => by
    cases b with
    | tup ys => rw [ideqs_eq xs ys (by simpa [ideq] using h)]
    | _ => simp_all [ideq]
  | .lst xs, b, h => by
    cases b with
    | lst ys => rw [ideqs_eq xs ys (by simpa [ideq] using h)]
    | _ => simp_all [ideq]
  | .ref _, _, h => by simp [ideq] at h
  | .fn _, _, h => by simp [ideq] at h
theorem ideqs_eq : ∀ (a b : List D), ideqs a b = true → a = b
  | [], [], _ => rfl
  | [], _ :: _, h => by simp [ideqs] at h
  | _ :: _, [], h => by simp [ideqs] at h
  | x :: xs, y :: ys, h => by
    simp only [ideqs, Bool.and_eq_true] at h
    rw [ideq_eq x y h.1, ideqs_eq xs ys h.2]
end
mutual
theorem ideq_self : ∀ (a : D) (n : Nat), fit a n = true → ideq a a = true
  | .non, _, _ => rfl
  | .bl x, _, _ => by simp [ideq]
  | .int x, _, _ => by simp [ideq]
  | .str x, _, _ => by simp [ideq]
  | .tup xs, 0, h => by simp [fit] at h
  | .tup xs, n + 1, h => by simp only [ideq]; exact ideqs_self xs n (by simpa [fit] using h)
  | .lst xs, 0, h => by simp [fit] at h
  | .lst xs, n + 1, h => by simp only [ideq]; exact ideqs_self xs n (by simpa [fit] using h)
  | .ref _, _, h => by simp [fit] at h
  | .fn _, _, h => by simp [fit] at h
theorem ideqs_self : ∀ (a : List D) (n : Nat), fits a n = true → ideqs a a = true
  | [], _, _ => rfl
  | x :: xs, n, h => by
    simp only [fits, Bool.and_eq_true] at h
    simp only [ideqs, Bool.and_eq_true]
    exact ⟨ideq_self x n h.1, ideqs_self xs n h.2⟩
end
mutual
/-- leaves whose text is short -/
def shortD : D → Bool
  | .non => true
  | .bl _ => true
  | .int i => decide (i.natAbs < 10000000000000000000000000000000000000000)
  | .str x => x.cps.toList.all fun c => decide (c < 256)
  | .tup xs => shortDs xs
  | .lst xs => shortDs xs
  | .ref _ => false
  | .fn _ => false
def shortDs : List D → Bool
  | [] => true
  | x :: xs => shortD x && shortDs xs
end
mutual
def bulkD : D → Nat
  | .str x => x.cps.size
  | .tup xs => bulkDs xs
  | .lst xs => bulkDs xs
  | .non => 0
  | .bl _ => 0
  | .int _ => 0
  | .ref _ => 0
  | .fn _ => 0
def bulkDs : List D → Nat
  | [] => 0
  | x :: xs => bulkD x + 1 + bulkDs xs
end
theorem ten40 : (10 : Nat) ^ 40 = 10000000000000000000000000000000000000000 := by decide +kernel
mutual
theorem short_toP : ∀ (d : D), shortD d = true → (toP d).leavesShort 41 = true ∧ (toP d).showable = true ∧ (toP d).bulk = bulkD d
  | .non, _ => ⟨rfl, rfl, rfl⟩
  | .bl _, _ => ⟨rfl, rfl, rfl⟩
  | .int i, h => by
    have h : i.natAbs < 10000000000000000000000000000000000000000 := by simpa [shortD] using h
    refine ⟨?_, ?_, rfl⟩
    · show decide ((PyData.shown (.int i)).length ≤ 41) = true
      have z := int_text_length_le10 (a := i) (k := 40) (by decide) (by rw [ten40]; exact h)
      apply decide_eq_true
      show (Str.ofString (toString i)).length ≤ 41
      rw [PySem.ofString_length]
      exact z
    · show decide (i.natAbs.log2 < 1920) = true
      apply decide_eq_true
      by_cases z : i.natAbs = 0
      · rw [z]; decide
      · rw [Nat.log2_lt z]
        refine Nat.lt_trans h ?_
        decide +kernel
  | .str x, h => by
    refine ⟨?_, rfl, rfl⟩
    show (x.cps.toList.all fun c => decide (c < 16 ^ 8)) = true
    have h : (x.cps.toList.all fun c => decide (c < 256)) = true := by simpa only [shortD] using h
    rw [List.all_eq_true] at h ⊢
    intro c hc
    have q := of_decide_eq_true (h c hc)
    exact decide_eq_true (Nat.lt_trans q (by decide))
  | .tup xs, h => by
    have q := short_toPs xs (by simpa [shortD] using h)
    exact q
  | .lst xs, h => by
    have q := short_toPs xs (by simpa [shortD] using h)
    exact q
  | .ref _, h => by simp [shortD] at h
  | .fn _, h => by simp [shortD] at h
theorem short_toPs : ∀ (ds : List D), shortDs ds = true → PyData.leavesShortAll 41 (toPs ds) = true ∧ PyData.showableAll (toPs ds) = true ∧ PyData.bulkAll (toPs ds) = bulkDs ds
  | [], _ => ⟨rfl, rfl, rfl⟩
  | d :: ds, h => by
    simp only [shortDs, Bool.and_eq_true] at h
    have q := short_toP d h.1
    have r := short_toPs ds h.2
    refine ⟨?_, ?_, ?_⟩
    · show (PyData.leavesShort 41 (toP d) && PyData.leavesShortAll 41 (toPs ds)) = true
      rw [q.1, r.1]; rfl
    · show (PyData.showable (toP d) && PyData.showableAll (toPs ds)) = true
      rw [q.2.1, r.2.1]; rfl
    · show PyData.bulk (toP d) + 1 + PyData.bulkAll (toPs ds) = bulkD d + 1 + bulkDs ds
      rw [q.2.2, r.2.2]
end
def reprOk (d : D) : Bool := fit d 40 && shortD d && Nat.ble (bulkD d) 300000
theorem noDict_plain : ∀ (d : D) (n : Nat), fit d n = true → (toP d).hasDict = false := by
  have gen : ∀ n, (∀ d : D, fit d n = true → (toP d).hasDict = false) → ∀ ds : List D, fits ds n = true → PyData.hasDictAll (toPs ds) = false := by
    intro n ih ds
    induction ds with
    | nil => intro _; rfl
    | cons d ds ihd =>
      intro h
      simp only [fits, Bool.and_eq_true] at h
      show (PyData.hasDict (toP d) || PyData.hasDictAll (toPs ds)) = false
      rw [ih d h.1, ihd h.2]
      rfl
  intro d n
  induction n generalizing d with
  | zero => intro h; cases d <;> simp_all [fit, toP, PyData.hasDict]
  | succ n ih =>
    intro h
    cases d with
    | tup xs => exact gen n (fun d => ih d) xs (by simpa [fit] using h)
    | lst xs => exact gen n (fun d => ih d) xs (by simpa [fit] using h)
    | _ => simp_all [fit, toP, PyData.hasDict]
def rReprA (K : PySem.W.Frag) : List V → Hp → VK → Prop := fun xs H Q => ∃ x d, xs = [x] ∧ Dp K H x d ∧ (d.showable = true ∧ d.hasDict = false ∧ d.depth ≤ 40 ∧ d.shown.length ≤ sizeLine) ∧ Q (.str d.shown) H
theorem cr_repr {X : Cx} (hg : X.A.guards = some []) (hu : X.A.units + 64 < cLine) : CallR X (.builtin "repr") (rReprA X.K) := by
  rintro pins s σ H vs us Q I r ⟨x, d, rfl, hd, ⟨p1, p2, p3, p4⟩, q⟩
  obtain ⟨u, rfl, ru⟩ := vals1 r
  cases hd with
  | non => cases ru; exact P.repr_of_none ⟨.str "None", H, I.tok _, ⟨_, rfl⟩, q⟩
  | bl b =>
    cases ru
    cases b with
    | false => exact P.repr_of_bool ⟨.str "False", H, I.tok _, ⟨_, rfl⟩, q⟩
    | true => exact P.repr_of_bool ⟨.str "True", H, I.tok _, ⟨_, rfl⟩, q⟩
  | int i => obtain ⟨t, rfl⟩ := ru; exact P.repr_of_int (of_decide_eq_true p1) ⟨.str (toString i), H, I.tok _, ⟨_, rfl⟩, q⟩
  | str z => obtain ⟨t, rfl⟩ := ru; exact P.repr_of_str ⟨.str (reprText z), H, I.tok _, ⟨_, rfl⟩, q⟩ p4
  | lst h1 h2 =>
    obtain ⟨as, rr⟩ := Dp.reads I _ _ _ (.lst h1 h2) ru
    cases ru
    exact repr_of_reads' rr p1 (fun z => by rw [p2] at z; cases z) hg (by omega) (fun _ _ z => z) (fun h' u tk k => ⟨.str _, H, I.kept k, ⟨_, rfl⟩, q⟩) p4
  | tup h1 h2 =>
    obtain ⟨as, rr⟩ := Dp.reads I _ _ _ (.tup h1 h2) ru
    cases ru
    exact repr_of_reads' rr p1 (fun z => by rw [p2] at z; cases z) hg (by omega) (fun _ _ z => z) (fun h' u tk k => ⟨.str _, H, I.kept k, ⟨_, rfl⟩, q⟩) p4
theorem reprOk_toP {d : D} (h : reprOk d = true) : fit d 40 = true ∧ ((toP d).showable = true ∧ (toP d).hasDict = false ∧ (toP d).depth ≤ 40 ∧ (toP d).shown.length ≤ sizeLine) := by
  simp only [reprOk, Bool.and_eq_true] at h
  obtain ⟨⟨h1, h2⟩, h3⟩ := h
  have q := short_toP d h2
  refine ⟨h1, q.2.1, noDict_plain d 40 h1, (plain_toP d 40 h1).2, ?_⟩
  have b := PyData.shown_le_bulk 41 (by decide) (toP d) q.1
  rw [q.2.2] at b
  have b2 := Nat.le_of_ble_eq_true h3
  rw [sizeLine_eq]
  omega
/-- repr(a) == repr(b), where they are the same -/
def eLike (f g : Ev) : Ev := fun env st => (f env st).bind fun a st1 => if reprOk (deref st1 a) then (g env st1).bind fun b st2 => if ideq (deref st1 a) (deref st2 b) then .ok (.bl true) st2 else .no else .no
section
variable {X : Cx} {W : Wd} {E : XK} {a b : Expr} {f g : Ev} {p1 p2 q1 q2 pos : Pos}
theorem de_like (hA : X.A.guards = some []) (hu : X.A.units + 64 < cLine) (hg : Gl X "repr") (hm : X.mg "repr" = none) (ha : DE X W E a f) (hb : DE X W E b g)
    (s1 : starEach [a] X.env = (false, eval a X.env) :: starEach [] X.env := by rfl) (s2 : starEach [b] X.env = (false, eval b X.env) :: starEach [] X.env := by rfl)
    (l1 : (backTo q1 (starEach [] X.env)).any (·.1) = false := by rfl) (l2 : (backTo q2 (starEach [] X.env)).any (·.1) = false := by rfl) :
    DE X W E (.Compare (.Call (.Name "repr" p1) [a] [] q1) [.Eq] [.Call (.Name "repr" p2) [b] [] q2] pos) (eLike f g) :=
  PEmono (pe_cmpR op_eq (pe_callB (cr_repr hA hu) hg hm (by decide +kernel) (pa_cons ha pa_nil s1) (by decide) (by decide) s1 l1) (pe_callB (cr_repr hA hu) hg hm (by decide +kernel) (pa_cons hb pa_nil s2) (by decide) (by decide) s2 l2) (nomark _)) fun σ H Q ⟨M, env, st, S, q⟩ =>
    ⟨M, env, st, S, Fin.bind q fun d st1 M1 x H1 T1 S1 r1 z1 => by
      by_cases ok : reprOk (deref st1 d) = true
      · rw [if_pos ok] at z1
        obtain ⟨f1, f2⟩ := reprOk_toP ok
        refine ⟨x, _, rfl, rep_dp S1.s r1 f1, f2, M1, env, st1, S1, Fin.bind z1 fun e st2 M2 y H2 T2 S2 r2 z2 => ?_⟩
        by_cases id : ideq (deref st1 d) (deref st2 e) = true
        · rw [if_pos id] at z2
          have ee := ideq_eq _ _ id
          have f3 : fit (deref st2 e) 40 = true := by rw [← ee]; exact f1
          refine ⟨y, _, rfl, rep_dp S2.s r2 f3, by rw [← ee]; exact f2, rfl, ?_⟩
          rw [← ee, decide_eq_true rfl]
          exact z2.give S2 (.bl true)
        · rw [if_neg id] at z2
          exact z2.elim
      · rw [if_neg ok] at z1
        exact z1.elim⟩
end
end DL

set_option Elab.async false
set_option linter.all false
set_option maxRecDepth 100000
set_option maxHeartbeats 4000000
/-! DL12: targets, what is walked, comprehensions. -/
namespace DL
open PySem PySem.Spec PyProof.Rows L2
/-! ### targets -/
abbrev TgD := D → Ent → Option Ent
def tgN (i : Nat) : TgD := fun d env => some (env.set i (some d))
def setAll : List Nat → List D → Ent → Option Ent
  | [], [], env => some env
  | i :: is, d :: ds, env => setAll is ds (env.set i (some d))
  | _, _, _ => none
def tgT (is : List Nat) : TgD := fun d env => match d with
  | .tup ds => setAll is ds env
  | _ => none
def DG (X : Cx) (W : Wd) (tg : Expr) (T : TgD) (is : List Nat) : Prop :=
  ∃ t : TG, PG X tg t ∧ ∀ (M : MW) (σ : L2.St) (H : Hp) (env env' : Ent) (st : Store) (d : D) (v : V) (Q : L2.St → Hp → Prop), Sim W M σ H env st → Rep W M H d v → T d env = some env' →
    (∀ σ', Sim W M σ' H env' st → (∀ ws, (∀ i ∈ is, i ∈ ws) → wipe σ' ws = wipe σ ws) → Q σ' H) → t v σ H Q
def DGs (X : Cx) (W : Wd) (tgs : List Expr) (is : List Nat) : Prop :=
  ∃ t : TGs, PGs X tgs t ∧ tgs.length = is.length ∧ ∀ (M : MW) (σ : L2.St) (H : Hp) (env env' : Ent) (st : Store) (ds : List D) (vs : List V) (Q : L2.St → Hp → Prop), Sim W M σ H env st → Reps W M H ds vs → setAll is ds env = some env' →
    (∀ σ', Sim W M σ' H env' st → (∀ ws, (∀ i ∈ is, i ∈ ws) → wipe σ' ws = wipe σ ws) → Q σ' H) → t vs σ H Q
theorem wipe_in {σ : L2.St} {i : Nat} : ∀ {ws : List Nat}, i ∈ ws → (wipe σ ws)[i]? = if i < σ.length then some none else none
  | w :: ws, h => by
    unfold wipe
    by_cases e : w = i
    · subst e
      by_cases l : w < σ.length
      · rw [if_pos l, List.getElem?_set_self (by rw [wipe_length]; exact l)]
      · rw [if_neg l, List.getElem?_eq_none (by rw [List.length_set, wipe_length]; omega)]
    · rw [List.getElem?_set_ne e]
      exact wipe_in ((List.mem_cons.mp h).resolve_left fun z => e z.symm)
theorem wipe_set {σ : L2.St} {i : Nat} {x : Option V} {ws : List Nat} (h : i ∈ ws) : wipe (σ.set i x) ws = wipe σ ws := by
  apply List.ext_getElem?
  intro j
  by_cases m : j ∈ ws
  · rw [wipe_in m, wipe_in m, List.length_set]
  · rw [wipe_out m, wipe_out m, List.getElem?_set_ne]
    rintro rfl
    exact m h
section
variable {X : Cx} {W : Wd} {pos : Pos}
theorem dg_name {i : Nat} {x : PySem.Str} (hN : X.N.Nodup) (hi : X.N[i]? = some x := by rfl) (hx : Loc X.env.scope x := by first | exact .inl rfl | exact .inr rfl) (hf : X.fn x = true ∨ X.env.scope.names.lookup x = some .local := by first | exact .inl rfl | exact .inr rfl) : DG X W (.Name x pos) (tgN i) [i] :=
  ⟨_, pg_name hN hi hx hf, fun M σ H env env' st d v Q S r e q => by
    cases e
    exact q _ (S.set r) fun ws h => wipe_set (h i (List.mem_singleton.mpr rfl))⟩
theorem dgs_nil : DGs X W [] [] := ⟨_, pgs_nil, rfl, fun M σ H env env' st ds vs Q S r e q => by
  cases r with
  | nil => cases e; exact ⟨rfl, q σ S fun _ _ => rfl⟩
  | cons _ _ => cases e⟩
theorem dgs_cons {i : Nat} {x : PySem.Str} {es : List Expr} {is : List Nat} (h1 : DG X W (.Name x pos) (tgN i) [i]) (h2 : DGs X W es is)
    (hs : (assignEach (.Name x pos :: es) X.env).map (·.2) = assign (.Name x pos) X.env :: (assignEach es X.env).map (·.2) := by rfl) : DGs X W (.Name x pos :: es) (i :: is) := by
  obtain ⟨t, pt, ht⟩ := h1
  obtain ⟨u, pu, lu, hu⟩ := h2
  refine ⟨_, pgs_cons pt pu hs, by simp [lu], fun M σ H env env' st ds vs Q S r e q => ?_⟩
  cases r with
  | nil => cases e
  | cons r1 rs =>
    refine ⟨_, _, rfl, ht M σ H env _ st _ _ _ S r1 rfl fun σ1 S1 w1 => ?_⟩
    refine hu M σ1 H _ env' st _ _ Q S1 rs e fun σ2 S2 w2 => q σ2 S2 fun ws hw => ?_
    rw [w2 ws fun j hj => hw j (List.mem_cons_of_mem _ hj), w1 ws fun j hj => hw j (by rw [List.mem_singleton.mp hj]; exact List.mem_cons_self ..)]
theorem dg_tup {es : List Expr} {k : Nat} {is : List Nat} (hc : X.calm = true) (h : DGs X W es is) (hn : (assignEach es X.env).length = es.length := by rfl) (hst : (assignEach es X.env).findIdx? (·.1) = none := by rfl) : DG X W (.Tuple es k pos) (tgT is) is := by
  obtain ⟨t, pt, lt, ht⟩ := h
  refine ⟨_, pg_tup (n := es.length) hc pt hn hst, fun M σ H env env' st d v Q S r e q => ?_⟩
  cases r with
  | tup h1 r1 =>
    refine ⟨_, _, rfl, .inl (.inl h1), ?_, ht M σ H env env' st _ _ Q S r1 e q⟩
    have gen : ∀ (is : List Nat) (ds : List D) (env : Ent), setAll is ds env = some env' → ds.length = is.length := by
      intro is
      induction is with
      | nil => intro ds env h; cases ds with
        | nil => rfl
        | cons _ _ => cases h
      | cons i is ih => intro ds env h; cases ds with
        | nil => cases h
        | cons d ds => rw [List.length_cons, List.length_cons, ih ds _ h]
    rw [← r1.length, gen is _ env e, ← lt]
  | _ => cases e
end
/-! ### what is walked -/
inductive Src where
  | vals (ds : List D)
  | cell (n : Nat)
def Src.get (src : Src) (st : Store) : Option (List D) := match src with
  | .vals ds => some ds
  | .cell n => match st[n]? with
    | some (.lst ds) => some ds
    | _ => none
abbrev EvS := Ent → Store → R Src
def ItOk (W : Wd) (M : MW) (H : Hp) (src : Src) (J : It) : Prop :=
  ∀ (i : Nat) (M' : MW) (H' : Hp) (st : Store) (ds : List D), Stp M H M' H' → SimS W M' H' st → src.get st = some ds →
    (i < ds.length → J.go i H' ∧ ∀ x H'', J.yld i H' x H'' → (∀ a o, H' a = some o → H'' a = some o) ∧ ∃ d, ds[i]? = some d ∧ Rep W M' H'' d x) ∧ (ds.length ≤ i → J.stop i H')
def FinI (W : Wd) (E : XK) (σ : L2.St) (env : Ent) (r : R Src) (M : MW) (H : Hp) (Q : It → Hp → Prop) : Prop :=
  match r with
  | .ok src st' => ∀ (M' : MW) (H' : Hp) (J : It), Stp M H M' H' → Sim W M' σ H' env st' → ItOk W M' H' src J → Q J H'
  | .ex c xs st' => ∀ (M' : MW) (H' : Hp) (cls : Value) (dx : Option Addr), Stp M H M' H' → SimS W M' H' st' → W.XR M' H' c xs cls dx → E cls dx H'
  | .no => False
def DI (X : Cx) (W : Wd) (E : XK) (tg iter : Expr) (f : EvS) : Prop :=
  ∃ wi : TI, PI X tg iter wi ∧ ∀ (σ : L2.St) (H : Hp) (Q : It → Hp → Prop), (∃ (M : MW) (env : Ent) (st : Store), Sim W M σ H env st ∧ FinI W E σ env (f env st) M H Q) → wi σ H Q
theorem FinI.step {W : Wd} {E : XK} {σ : L2.St} {env : Ent} {r : R Src} {M M1 : MW} {H H1 : Hp} {Q : It → Hp → Prop} (s : Stp M H M1 H1) (h : FinI W E σ env r M H Q) : FinI W E σ env r M1 H1 Q := by
  cases r with
  | ok src st' => exact fun M' H' J t => h M' H' J (s.trans t)
  | ex c xs st' => exact fun M' H' cls dx t => h M' H' cls dx (s.trans t)
  | no => exact h
theorem Fin.bindI {α β : Type} {W : Wd} {E : XK} {rel : MW → Hp → α → β → Prop} {σ : L2.St} {env : Ent} {r : R α} {k : α → Store → R Src} {M : MW} {H : Hp} {Q : β → Hp → Prop} {Q2 : It → Hp → Prop}
    (h : FinI W E σ env (r.bind k) M H Q2)
    (hk : ∀ a st' M' b H', Stp M H M' H' → Sim W M' σ H' env st' → rel M' H' a b → FinI W E σ env (k a st') M' H' Q2 → Q b H') : Fin W E rel σ env r M H Q := by
  cases r with
  | ok a st' => exact fun M' b H' t S r => hk a st' M' b H' t S r (FinI.step t h)
  | ex c xs st' => exact h
  | no => exact h
section
variable {X : Cx} {tg : Expr}
/-- a list or a tuple, walked -/
theorem pi_seq {l : Expr} {tl : TE} (hl : PE X l tl) : PI X tg l (fun σ H Q => tl σ H fun x H1 => (∃ a, x = .ref a ∧ (∃ xs, SqL X.K H1 a xs) ∧ Q (Itl X.K a) H1) ∨ ∃ a, x = .ref a ∧ (∃ xs, SqT X.K H1 a xs) ∧ Q (Itt X.K a) H1) where
  run := by
    intro pins z σ H Q I h
    refine thn (hl.run pins z σ H _ I h) ?_
    rintro v s1 ⟨x, H1, I1, r1, q1⟩
    have young : ∀ b, b ∈ [s1.heap.objs.size] → FpOk X pins H1 b := by
      intro b hb
      rw [List.mem_singleton.mp hb]
      exact I1.fpOk (Nat.le_refl _) (I1.hok.fresh (Nat.le_refl _))
    rcases q1 with ⟨a, rfl, ⟨xs, sq⟩, q⟩ | ⟨a, rfl, ⟨xs, sq⟩, q⟩
    · cases r1
      obtain ⟨its, rv, p, hz⟩ := I1.list sq
      apply wpAny_pyIter_list p.isList
      exact ⟨s1.heap.objs.size, _, _, _, H1, rfl, I1.kept (t' := s1.toks) fun b o e => Heap.get?_push_of_some _ e, turn_list a _, ⟨_, Heap.get?_push_size _ rfl, rfl, rfl⟩, young, q⟩
    · cases r1
      obtain ⟨its, rv, p, hz⟩ := I1.tuple sq
      apply wpAny_pyIter_tuple (show s1.heap.IsTuple a its.toArray from p)
      exact ⟨s1.heap.objs.size, _, _, _, H1, rfl, I1.kept (t' := s1.toks) fun b o e => Heap.get?_push_of_some _ e, turn_tuple a _, ⟨_, Heap.get?_push_size _ rfl, rfl, rfl⟩, young, q⟩
end
def srcOf (st : Store) (d : D) : Option Src := match d with
  | .lst ds => some (.vals ds)
  | .tup ds => some (.vals ds)
  | .ref n => match st[n]? with
    | some (.lst _) => some (.cell n)
    | _ => none
  | _ => none
def iSeq (f : Ev) : EvS := fun env st => (f env st).bind fun a st1 => R.ofO (srcOf st1 a) st1
section
variable {W : Wd} {M : MW} {H : Hp} {K : PySem.W.Frag}
theorem it_lst {a : Addr} {vs : List V} {ds : List D} (h : Rd H a (.lst vs)) (m : ¬ M.mu a) (r : Reps W M H ds vs) : ItOk W M H (.vals ds) (Itl K a) := by
  intro i M' H' st es T S e
  cases e
  have h' := T.rd h m
  have r' := r.mono T
  refine ⟨fun l => ?_, fun l => ⟨vs, .inl h', by rw [← r.length]; exact l⟩⟩
  obtain ⟨v, ev, rv⟩ := r'.get (List.getElem?_eq_getElem l)
  refine ⟨⟨vs, v, .inl h', ev⟩, fun x H'' y => ?_⟩
  obtain ⟨rfl, y⟩ := y
  have := y vs (.inl h')
  rw [ev] at this
  cases this
  exact ⟨fun _ _ z => z, _, List.getElem?_eq_getElem l, rv⟩
theorem it_tup {a : Addr} {vs : List V} {ds : List D} (h : H a = some (.tup vs)) (r : Reps W M H ds vs) : ItOk W M H (.vals ds) (Itt K a) := by
  intro i M' H' st es T S e
  cases e
  have h' := T.keep _ _ h (.inr (.inr notMutTup))
  have r' := r.mono T
  refine ⟨fun l => ?_, fun l => ⟨vs, .inl (.inl h'), by rw [← r.length]; exact l⟩⟩
  obtain ⟨v, ev, rv⟩ := r'.get (List.getElem?_eq_getElem l)
  refine ⟨⟨vs, v, .inl (.inl h'), ev⟩, fun x H'' y => ?_⟩
  obtain ⟨rfl, y⟩ := y
  have := y vs (.inl (.inl h'))
  rw [ev] at this
  cases this
  exact ⟨fun _ _ z => z, _, List.getElem?_eq_getElem l, rv⟩
theorem it_cell {n : Nat} {a : Addr} (h : M.rho[n]? = some a) : ItOk W M H (.cell n) (Itl K a) := by
  intro i M' H' st es T S e
  have h' : M'.rho[n]? = some a := by
    obtain ⟨more, e⟩ := T.pre
    rw [e, List.getElem?_append_left (List.getElem?_eq_some_iff.mp h).1]
    exact h
  unfold Src.get at e
  cases c : st[n]? with
  | none => simp [c] at e
  | some c' =>
    cases c' with
    | dct _ => simp [c] at e
    | lst ds =>
      simp only [c] at e
      cases e
      have ok := S.cell n _ a c h'
      cases ok with
      | lst hh rr =>
        rename_i vs
        refine ⟨fun l => ?_, fun l => ⟨vs, .inl (.inl hh), by rw [← rr.length]; exact l⟩⟩
        obtain ⟨v, ev, rv⟩ := rr.get (List.getElem?_eq_getElem l)
        refine ⟨⟨vs, v, .inl (.inl hh), ev⟩, fun x H'' y => ?_⟩
        obtain ⟨rfl, y⟩ := y
        have := y vs (.inl (.inl hh))
        rw [ev] at this
        cases this
        exact ⟨fun _ _ z => z, _, List.getElem?_eq_getElem l, rv⟩
theorem it_rng (lo : Int) (n : Nat) : ItOk W M H (.vals ((List.range n).map fun i => D.int (lo + (i : Nat)))) (Itr lo n) := by
  intro i M' H' st es T S e
  cases e
  rw [List.length_map, List.length_range]
  refine ⟨fun l => ⟨l, fun x H'' y => ?_⟩, fun l => l⟩
  obtain ⟨rfl, rfl⟩ := y
  refine ⟨fun _ _ z => z, .int (lo + i), ?_, .int _⟩
  rw [List.getElem?_map, List.getElem?_range l]
  rfl
end
section
variable {X : Cx} {W : Wd} {E : XK} {tg e a b : Expr} {f g : Ev} {k : EvR} {p pos : Pos}
theorem di_seq (h : DE X W E e f) : DI X W E tg e (iSeq f) :=
  ⟨_, pi_seq h, fun σ H Q ⟨M, env, st, S, q⟩ => ⟨M, env, st, S, Fin.bindI q fun d st1 M1 x H1 T1 S1 r1 q1 => by
    cases r1 with
    | lst hh m r => exact .inl ⟨_, rfl, ⟨_, .inl hh⟩, q1 M1 H1 _ .refl S1 (it_lst hh m r)⟩
    | tup hh r => exact .inr ⟨_, rfl, ⟨_, .inl (.inl hh)⟩, q1 M1 H1 _ .refl S1 (it_tup hh r)⟩
    | ref hh =>
      rename_i n a
      simp only [srcOf] at q1
      cases c : st1[n]? with
      | none => simp only [c] at q1; exact q1.elim
      | some c' =>
        cases c' with
        | dct _ => simp only [c] at q1; exact q1.elim
        | lst ds =>
          simp only [c] at q1
          have ok := S1.s.cell n _ a c hh
          cases ok with
          | lst h2 r2 => exact .inl ⟨_, rfl, ⟨_, .inl (.inl h2)⟩, q1 M1 H1 _ .refl S1 (it_cell hh)⟩
    | _ => exact q1.elim⟩⟩
def iRg1 (f : Ev) : EvS := fun env st => (f env st).bind fun a st1 => match a with
  | .int n => if rgOk 0 n then .ok (.vals (rgD 0 n)) st1 else .no
  | _ => .no
def iRg2 (f g : Ev) : EvS := fun env st => (f env st).bind fun a st1 => (g env st1).bind fun b st2 => match a with
  | .int i => match b with
    | .int j => if rgOk i j then .ok (.vals (rgD i j)) st2 else .no
    | _ => .no
  | _ => .no
theorem di_rg1 (hg : Gl X "range") (hm : X.mg "range" = none) (ha : DE X W E a f) (hs : starEach [a] X.env = [(false, eval a X.env)] := by rfl) : DI X W E tg (.Call (.Name "range" p) [a] [] pos) (iRg1 f) :=
  ⟨_, pi_range1 hg hm (pa_cons ha pa_nil hs) hs, fun σ H Q ⟨M, env, st, S, q⟩ => ⟨M, env, st, S, Fin.bindI q fun d st1 M1 x H1 T1 S1 r1 q1 => by
    cases d with
    | int n =>
      cases r1
      simp only at q1
      by_cases ok : rgOk 0 n = true
      · rw [if_pos ok] at q1
        obtain ⟨b1, b2, b3, b4, _⟩ := rgOk_ok ok
        refine ⟨n, rfl, b3, b4, q1 M1 H1 _ .refl S1 ?_⟩
        have := it_rng (W := W) (M := M1) (H := H1) 0 n.toNat
        unfold rgD
        rw [Int.sub_zero]
        exact this
      · rw [if_neg ok] at q1; exact q1.elim
    | _ => exact q1.elim⟩⟩
theorem di_rg2 (hg : Gl X "range") (hm : X.mg "range" = none) (ha : DE X W E a f) (hb : DE X W E b g) (hs : starEach [a, b] X.env = [(false, eval a X.env), (false, eval b X.env)] := by rfl) (hs2 : starEach [b] X.env = [(false, eval b X.env)] := by rfl) :
    DI X W E tg (.Call (.Name "range" p) [a, b] [] pos) (iRg2 f g) :=
  ⟨_, pi_range2 hg hm (pa_cons ha (pa_cons hb pa_nil hs2) (by rw [hs, hs2])) hs hs2, fun σ H Q ⟨M, env, st, S, q⟩ => ⟨M, env, st, S, Fin.bindI q fun d st1 M1 x H1 T1 S1 r1 q1 => ⟨M1, env, st1, S1, Fin.bindI q1 fun d2 st2 M2 y H2 T2 S2 r2 q2 => by
    cases d with
    | int i =>
      cases d2 with
      | int j =>
        cases r1
        cases r2
        simp only at q2
        by_cases ok : rgOk i j = true
        · rw [if_pos ok] at q2
          obtain ⟨b1, b2, b3, b4, _⟩ := rgOk_ok ok
          exact ⟨i, j, rfl, ⟨b1, b2, b3, b4⟩, q2 M2 H2 _ .refl S2 (it_rng i _)⟩
        · rw [if_neg ok] at q2; exact q2.elim
      | _ => exact q2.elim
    | _ => exact q2.elim⟩⟩⟩
end
end DL

set_option Elab.async false
set_option linter.all false
set_option maxRecDepth 100000
set_option maxHeartbeats 4000000
/-! DL13: comprehensions. -/
namespace DL
open PySem PySem.Spec PyProof.Rows L2
def wipeE (env : Ent) : List Nat → Ent
  | [] => env
  | v :: vs => (wipeE env vs).set v none
theorem wipeE_length (env : Ent) : ∀ vs : List Nat, (wipeE env vs).length = env.length
  | [] => rfl
  | v :: vs => by unfold wipeE; rw [List.length_set, wipeE_length env vs]
theorem wipeE_some {env : Ent} {i : Nat} {d : D} : ∀ {vs : List Nat}, (wipeE env vs)[i]? = some (some d) → env[i]? = some (some d) ∧ i ∉ vs
  | [], h => ⟨h, by simp⟩
  | v :: vs, h => by
    unfold wipeE at h
    by_cases e : v = i
    · subst e
      by_cases l : v < (wipeE env vs).length
      · rw [List.getElem?_set_self l] at h; cases h
      · rw [List.getElem?_eq_none (by simpa using l)] at h; cases h
    · rw [List.getElem?_set_ne e] at h
      obtain ⟨h1, h2⟩ := wipeE_some h
      exact ⟨h1, fun m => (List.mem_cons.mp m).elim (fun z => e z.symm) h2⟩
theorem Sim.wipe {W : Wd} {M : MW} {σ : L2.St} {H : Hp} {env : Ent} {st : Store} (S : Sim W M σ H env st) (vs : List Nat) : Sim W M (L2.wipe σ vs) H (wipeE env vs) st :=
  ⟨S.s, by rw [wipeE_length, wipe_length]; exact S.len, fun i d e => by
    obtain ⟨e1, n⟩ := wipeE_some e
    obtain ⟨v, h, r⟩ := S.var i d e1
    exact ⟨v, by rw [wipe_out n]; exact h, r⟩⟩
/-- an outcome without an exception -/
def noEx {α : Type} (r : R α) : R α := match r with
  | .ex _ _ _ => .no
  | r => r
def tYesD : EvB := fun _ st => .ok true st
def DTs (X : Cx) (W : Wd) (E : XK) (ifs : List Expr) (p : EvB) : Prop := PTs X ifs (lT W E p)
/-- one turn: nothing, or a new item -/
def lcTurn (T : TgD) (p : EvB) (f : Ev) (d : D) (env : Ent) (st : Store) : R (Option D) := match T d env with
  | none => .no
  | some env1 => (noEx (p env1 st)).bind fun k st1 => if k then (noEx (f env1 st1)).bind fun y st2 => .ok (some y) st2 else .ok none st1
def lcVals (T : TgD) (p : EvB) (f : Ev) (env : Ent) : List D → Store → R (List D)
  | [], st => .ok [] st
  | d :: ds, st => (lcTurn T p f d env st).bind fun o st1 => match o with
    | some y => (lcVals T p f env ds st1).bind fun ys st2 => .ok (y :: ys) st2
    | none => lcVals T p f env ds st1
def lcCell (n : Nat) (T : TgD) (p : EvB) (f : Ev) (env : Ent) : Nat → Nat → Store → R (List D)
  | 0, _, _ => .no
  | fuel + 1, i, st => match (Src.cell n).get st with
    | none => .no
    | some ds => match ds[i]? with
      | none => .ok [] st
      | some d => (lcTurn T p f d env st).bind fun o st1 => match o with
        | some y => (lcCell n T p f env fuel (i + 1) st1).bind fun ys st2 => .ok (y :: ys) st2
        | none => lcCell n T p f env fuel (i + 1) st1
/-- from turn i on, with so many turns at most -/
def lcFrom (src : Src) (T : TgD) (p : EvB) (f : Ev) (env : Ent) (m i : Nat) (st : Store) : R (List D) := match src with
  | .vals ds => lcVals T p f env (ds.drop i) st
  | .cell n => lcCell n T p f env m i st
def lcMost (src : Src) (st : Store) : Nat := match src with
  | .vals ds => ds.length
  | .cell n => match (Src.cell n).get st with
    | some ds => ds.length + 1
    | none => 0
def nLc (it : EvS) (T : TgD) (p : EvB) (f : Ev) (vs : List Nat) : EvL := fun env st => (it env st).bind fun src st1 =>
  match lcFrom src T p f (wipeE env vs) (lcMost src st1) 0 st1 with
  | .ok ds st2 => if sOk ds.length then .ok ds st2 else .no
  | _ => .no
/-- one step of the walk from i -/
theorem lcFrom_step {src : Src} {T : TgD} {p : EvB} {f : Ev} {env : Ent} {m i : Nat} {st st2 : Store} {ds : List D} (hm : ∀ es, src = .vals es → m + i = es.length) (h : lcFrom src T p f env m i st = .ok ds st2) :
    ∃ es, src.get st = some es ∧ ((es.length ≤ i ∧ ds = [] ∧ st2 = st) ∨ ∃ d o st1, i < es.length ∧ es[i]? = some d ∧ lcTurn T p f d env st = .ok o st1 ∧ ∃ m' ds', m = m' + 1 ∧ lcFrom src T p f env m' (i + 1) st1 = .ok ds' st2 ∧ ds = (match o with | some y => y :: ds' | none => ds') ∧ ∀ es, src = .vals es → m' + (i + 1) = es.length) := by
  cases src with
  | vals es =>
    have hl := hm es rfl
    refine ⟨es, rfl, ?_⟩
    simp only [lcFrom] at h
    by_cases l : i < es.length
    · refine .inr ?_
      rw [List.drop_eq_getElem_cons l] at h
      simp only [lcVals] at h
      cases e : lcTurn T p f es[i] env st with
      | ok o st1 =>
        rw [e] at h
        simp only [R.bind] at h
        refine ⟨es[i], o, st1, l, List.getElem?_eq_getElem l, e, m - 1, ?_⟩
        cases o with
        | some y =>
          simp only at h
          cases e2 : lcVals T p f env (es.drop (i + 1)) st1 with
          | ok ys st3 =>
            rw [e2] at h
            simp only [R.bind] at h
            cases h
            exact ⟨ys, by omega, e2, rfl, fun es' z => by cases z; omega⟩
          | ex c xs st3 => rw [e2] at h; cases h
          | no => rw [e2] at h; cases h
        | none =>
          simp only at h
          exact ⟨ds, by omega, h, rfl, fun es' z => by cases z; omega⟩
      | ex c xs st3 => rw [e] at h; cases h
      | no => rw [e] at h; cases h
    · rw [List.drop_eq_nil_of_le (by omega)] at h
      simp only [lcVals] at h
      cases h
      exact .inl ⟨by omega, rfl, rfl⟩
  | cell n =>
    simp only [lcFrom] at h
    cases m with
    | zero => simp only [lcCell] at h; cases h
    | succ m =>
      simp only [lcCell] at h
      cases g : (Src.cell n).get st with
      | none => rw [g] at h; cases h
      | some es =>
        rw [g] at h
        simp only at h
        refine ⟨es, rfl, ?_⟩
        cases gi : es[i]? with
        | none =>
          rw [gi] at h
          cases h
          exact .inl ⟨List.getElem?_eq_none_iff.mp gi, rfl, rfl⟩
        | some d =>
          rw [gi] at h
          simp only at h
          refine .inr ?_
          have l := (List.getElem?_eq_some_iff.mp gi).1
          cases e : lcTurn T p f d env st with
          | ok o st1 =>
            rw [e] at h
            simp only [R.bind] at h
            refine ⟨d, o, st1, l, rfl, e, m, ?_⟩
            cases o with
            | some y =>
              simp only at h
              cases e2 : lcCell n T p f env m (i + 1) st1 with
              | ok ys st3 =>
                rw [e2] at h
                simp only [R.bind] at h
                cases h
                exact ⟨ys, rfl, e2, rfl, fun es' z => by cases z⟩
              | ex c xs st3 => rw [e2] at h; cases h
              | no => rw [e2] at h; cases h
            | none =>
              simp only at h
              exact ⟨ds, rfl, h, rfl, fun es' z => by cases z⟩
          | ex c xs st3 => rw [e] at h; cases h
          | no => rw [e] at h; cases h
theorem noEx_ok {α : Type} {r : R α} {a : α} {st : Store} (h : noEx r = .ok a st) : r = .ok a st := by
  cases r with
  | ok b s => exact h
  | ex c xs s => cases h
  | no => cases h
theorem bind_ok {α β : Type} {r : R α} {k : α → Store → R β} {b : β} {st : Store} (h : r.bind k = .ok b st) : ∃ a s, r = .ok a s ∧ k a s = .ok b st := by
  cases r with
  | ok a s => exact ⟨a, s, rfl, h⟩
  | ex c xs s => cases h
  | no => cases h
/-- nothing that is represented leans on an address that is marked and no cell -/
theorem apart {W : Wd} {M : MW} {H H2 : Hp} {p : Addr} {xs : List V} (hp : H p = some (.lst xs)) (hr : p ∉ M.rho) (hm : M.mu p) (ag : ∀ a, a ≠ p → H2 a = H a) :
    (∀ {ds vs}, Reps W M H ds vs → Reps W M H2 ds vs) ∧ (∀ {d v}, Rep W M H d v → Rep W M H2 d v) ∧ ∀ {st}, SimS W M H st → SimS W M H2 st := by
  have hold : ∀ a o, H a = some o → a ≠ p → H2 a = some o := fun a o h n => by rw [ag a n]; exact h
  have tups : ∀ a vs, H a = some (HO.tup vs) → H2 a = some (HO.tup vs) := fun a vs h => hold a _ h (by rintro rfl; rw [hp] at h; cases h)
  have lsts : ∀ a vs, Rd H a (HO.lst vs) → ¬ M.mu a → Rd H2 a (HO.lst vs) := fun a vs h n => by
    have ne : a ≠ p := by rintro rfl; exact n hm
    rcases h with h | ⟨o, h⟩
    · exact .inl (hold a _ h ne)
    · exact .inr ⟨o, hold a _ h ne⟩
  have gen1 : ∀ {d v}, Rep W M H d v → Rep W M H2 d v := by
    intro d v r
    exact Rep.rec (motive_1 := fun d v _ => Rep W M H2 d v) (motive_2 := fun ds vs _ => Reps W M H2 ds vs)
      .non .bl .int .str (fun h _ ih => .tup (tups _ _ h) ih) (fun h m _ ih => .lst (lsts _ _ h m) m ih) .ref .fn .nil (fun _ _ ih ihs => .cons ih ihs) r
  have gen : ∀ {ds vs}, Reps W M H ds vs → Reps W M H2 ds vs := by
    intro ds vs r
    exact Reps.rec (motive_1 := fun d v _ => Rep W M H2 d v) (motive_2 := fun ds vs _ => Reps W M H2 ds vs)
      .non .bl .int .str (fun h _ ih => .tup (tups _ _ h) ih) (fun h m _ ih => .lst (lsts _ _ h m) m ih) .ref .fn .nil (fun _ _ ih ihs => .cons ih ihs) r
  refine ⟨gen, gen1, fun S => ⟨S.len, S.nd, S.mu, fun n c a e1 e2 => ?_⟩⟩
  have na : a ≠ p := by rintro rfl; exact hr (List.mem_of_getElem? e2)
  have ok := S.cell n c a e1 e2
  cases ok with
  | lst h r => exact .lst (hold _ _ h na) (gen r)
  | dct h k r => exact .dct (hold _ _ h na) k (gen r)
theorem Sim.apart {W : Wd} {M : MW} {σ : L2.St} {H H2 : Hp} {env : Ent} {st : Store} {p : Addr} {xs : List V} (S : Sim W M σ H env st) (hp : H p = some (.lst xs)) (hr : p ∉ M.rho) (hm : M.mu p) (ag : ∀ a, a ≠ p → H2 a = H a) : Sim W M σ H2 env st := by
  obtain ⟨_, g, gs⟩ := DL.apart (W := W) hp hr hm ag
  exact ⟨gs S.s, S.len, fun i d e => let ⟨v, h, r⟩ := S.var i d e; ⟨v, h, g r⟩⟩
theorem Stp.apart {M M' : MW} {H H' H2 : Hp} {p : Addr} (T : Stp M H M' H') (hn : H p = Option.none) (ag : ∀ a, a ≠ p → H2 a = H' a) : Stp M H M' H2 := by
  have ne : ∀ a o, H a = some o → a ≠ p := fun a o h => by rintro rfl; rw [hn] at h; cases h
  exact ⟨fun a o h c => by rw [ag a (ne a o h)]; exact T.keep a o h c, T.pre, T.fresh, T.mu, fun a o h => by rw [ag a (ne a o h)]; exact T.there a o h⟩
theorem wipe_wipe {σ : L2.St} {ws : List Nat} : L2.wipe (L2.wipe σ ws) ws = L2.wipe σ ws := by
  apply List.ext_getElem?
  intro j
  by_cases m : j ∈ ws
  · rw [wipe_in m, wipe_in m, wipe_length]
  · rw [wipe_out m]
section
variable {X : Cx} {W : Wd} {E : XK} {tg iter elt : Expr} {ifs : List Expr} {it : EvS} {T : TgD} {p : EvB} {f : Ev} {is : List Nat} {own : List (PySem.Str × Nat)} {scope : Scope} {pos : Pos}
theorem dts_nil : DTs X W E [] tYesD := ⟨fun pins s σ H Q I ⟨M, env, st, S, q⟩ => pts_nil.run pins s σ H Q I (q M true H .refl S rfl)⟩
theorem dts_one {c : Expr} (h : DT X W E c p) : DTs X W E [c] p := pts_one h
/-- the reading of the comprehension, from the data's -/
theorem lc_read {wi : TI} {t : TG} (hwi : ∀ (σ : L2.St) (H : Hp) (Q : It → Hp → Prop), (∃ (M : MW) (env : Ent) (st : Store), Sim W M σ H env st ∧ FinI W E σ env (it env st) M H Q) → wi σ H Q)
    (ht : ∀ (M : MW) (σ : L2.St) (H : Hp) (env env' : Ent) (st : Store) (d : D) (v : V) (Q : L2.St → Hp → Prop), Sim W M σ H env st → Rep W M H d v → T d env = some env' →
      (∀ σ', Sim W M σ' H env' st → (∀ ws, (∀ i ∈ is, i ∈ ws) → L2.wipe σ' ws = L2.wipe σ ws) → Q σ' H) → t v σ H Q)
    (hv : ∀ i ∈ is, i ∈ own.map (·.2)) {σ : L2.St} {H : Hp} {Q : VK} (q : lN W E (nLc it T p f (own.map (·.2))) σ H Q) : tLc wi t (lT W E0 p) (lE W E0 f) (own.map (·.2)) σ H Q := by
  obtain ⟨M, env, st, S, q⟩ := q
  refine hwi σ H _ ⟨M, env, st, S, ?_⟩
  unfold FinN nLc at q
  cases e : it env st with
  | ex c xs st' => rw [e] at q; exact q
  | no => rw [e] at q; exact q
  | ok src st1 =>
    rw [e] at q
    intro M1 H1 J T1 S1 ok D hD
    simp only [R.bind] at q
    cases e2 : lcFrom src T p f (wipeE env (own.map (·.2))) (lcMost src st1) 0 st1 with
    | ex c xs st' => rw [e2] at q; exact q.elim
    | no => rw [e2] at q; exact q.elim
    | ok ds st2 =>
      rw [e2] at q
      simp only at q
      by_cases hs : sOk ds.length = true
      · rw [if_pos hs] at q
        have hs' := sOk_le hs
        -- the made list stands at D, marked as one that is written
        refine ⟨fun i m H' => ∃ (M' : MW) (st' : Store) (done rest : List DL.D) (vs : List V), Stp M1 H1 M' H' ∧ Sim W M' σ H' env st' ∧ M'.mu D ∧ D ∉ M'.rho ∧ H' D = some (.lst vs) ∧ Reps W M' H' done vs ∧ done ++ rest = ds ∧
            lcFrom src T p f (wipeE env (own.map (·.2))) m i st' = .ok rest st2 ∧ ∀ es, src = .vals es → m + i = es.length, ⟨lcMost src st1, ?_⟩, fun i m H' w => ?_⟩
        · have T2 : Stp M1 H1 ⟨fun a => M1.mu a ∨ a = D, M1.rho⟩ (upd H1 D (.lst [])) :=
            ⟨fun a u h _ => updNew hD a u h, ⟨[], by simp⟩, fun a h => .inl h, fun a u h => ⟨fun z => z.elim (fun z => z) fun z => absurd z (ne_of_none h hD), .inl⟩, fun a u h => ⟨u, updNew hD a u h⟩⟩
          have nD : D ∉ M1.rho := fun z => by obtain ⟨u, h⟩ := S1.s.here z; rw [hD] at h; cases h
          refine ⟨⟨fun a => M1.mu a ∨ a = D, M1.rho⟩, st1, [], ds, [], T2, S1.step T2 ⟨S1.s.len, S1.s.nd, fun a h => .inl (S1.s.mu a h), fun n c a e1 e2 => (S1.s.cell n c a e1 e2).mono T2 (updNew hD a)⟩, .inr rfl, nD, upd_same, .nil, rfl, e2, fun es z => ?_⟩
          subst z
          rfl
        · obtain ⟨M', st', done, rest, vs, T2, S2, mD, nD, hDl, rd, eq, run, hm⟩ := w
          obtain ⟨es, ge, st3⟩ := lcFrom_step hm run
          obtain ⟨go, stop⟩ := ok i M' H' st' es T2 S2.s ge
          rcases st3 with ⟨l, rfl, rfl⟩ | ⟨d, o, st4, l, ed, turn, m', rest', rfl, run', er, hm'⟩
          · refine .inl ⟨stop l, ?_⟩
            rw [List.append_nil] at eq
            subst eq
            have ag : ∀ a, a ≠ D → (fun b => if b = D then none else H' b) a = H' a := fun a n => if_neg n
            obtain ⟨g, _, _⟩ := DL.apart (W := W) hDl nD mD ag
            have e3 : upd (fun b => if b = D then none else H' b) D (.lst vs) = H' := by
              funext b
              unfold upd
              by_cases hb : b = D
              · subst hb; rw [if_pos rfl, hDl]
              · rw [if_neg hb]
                show (if b = D then none else H' b) = _
                rw [if_neg hb]
            have fin := q M' vs _ (T1.trans (T2.apart hD ag)) (S2.apart hDl nD mD ag) (g rd) D (if_pos rfl)
            rw [e3] at fin
            exact fin
          · refine .inr ⟨(go l).1, fun H3 => ∃ (M3 : MW) (st3 : Store) (done' : List DL.D) (vs' : List V), Stp M1 H1 M3 H3 ∧ Sim W M3 σ H3 env st3 ∧ M3.mu D ∧ D ∉ M3.rho ∧ H3 D = some (.lst vs') ∧ Reps W M3 H3 done' vs' ∧ done' ++ rest' = ds ∧ lcFrom src T p f (wipeE env (own.map (·.2))) m' (i + 1) st3 = .ok rest' st2, fun H3 ⟨M3, st3, done', vs', a1, a2, a3, a4, a5, a6, a7, a8⟩ => ⟨m', Nat.lt_succ_self _, M3, st3, done', rest', vs', a1, a2, a3, a4, a5, a6, a7, a8, hm'⟩, fun x H3 y => ?_⟩
            obtain ⟨gr, d', ed', rx⟩ := (go l).2 x H3 y
            rw [ed] at ed'
            cases ed'
            have S3 : Sim W M' σ H3 env st' := S2.grow gr
            have hD3 := gr _ _ hDl
            unfold lcTurn at turn
            cases et : T d (wipeE env (own.map (·.2))) with
            | none => rw [et] at turn; cases turn
            | some env1 =>
              rw [et] at turn
              simp only at turn
              obtain ⟨k, st5, ek, turn⟩ := bind_ok turn
              have ek := noEx_ok ek
              refine ht M' _ H3 _ env1 st' d x _ (S3.wipe _) rx et fun σ2 S4 w2 => ⟨?_, M', env1, st', S4, ?_⟩
              · rw [w2 _ hv, wipe_wipe]
              · rw [ek]
                intro M4 b H4 T4 S5 eb
                cases eb
                have keep4 := T4.keep _ _ hD3 (.inl nD)
                have mu4 : M4.mu D := (T4.mu _ _ hD3).mpr mD
                have nr4 : D ∉ M4.rho := fun z => (T4.fresh D z).elim nD fun z => by rw [hD3] at z; cases z
                have TT4 : Stp M1 H1 M4 H4 := (T2.trans (Stp.grow gr)).trans T4
                cases k with
                | false =>
                  rw [if_neg Bool.false_ne_true] at turn ⊢
                  cases turn
                  subst er
                  exact ⟨M4, _, done, vs, TT4, (S3.step T4 S5.s), mu4, nr4, keep4, (rd.mono (Stp.grow gr)).mono T4, eq, run'⟩
                | true =>
                  rw [if_pos rfl] at turn ⊢
                  obtain ⟨yv, st6, ey, turn⟩ := bind_ok turn
                  have ey := noEx_ok ey
                  cases turn
                  refine ⟨M4, env1, st5, S5, ?_⟩
                  rw [ey]
                  intro M5 yy H5 T5 S6 ry
                  have keep5 := T5.keep _ _ keep4 (.inl nr4)
                  have mu5 : M5.mu D := (T5.mu _ _ keep4).mpr mu4
                  have nr5 : D ∉ M5.rho := fun z => (T5.fresh D z).elim nr4 fun z => by rw [keep4] at z; cases z
                  have rd5 := ((rd.mono (Stp.grow gr)).mono T4).mono T5
                  have ag : ∀ a, a ≠ D → upd H5 D (.lst (vs ++ [yy])) a = H5 a := fun a n => upd_ne n
                  obtain ⟨g, g1, _⟩ := DL.apart (W := W) keep5 nr5 mu5 ag
                  subst er
                  refine ⟨vs, keep5, ?_, M5, _, done ++ [yv], vs ++ [yy], (TT4.trans T5).apart hD ag, ((S3.step T4 S5.s).step T5 S6.s).apart keep5 nr5 mu5 ag, mu5, nr5, upd_same, (g rd5).append (.cons (g1 ry) .nil), by rw [← eq]; simp, run'⟩
                  have : done.length < ds.length := by rw [← eq]; simp
                  rw [← rd.length]
                  omega
      · rw [if_neg hs] at q; exact q.elim

theorem dn_lc (hc : X.calm = true) (hN : X.N.Nodup) (hi : DI X W E tg iter it) (ok : BlkOk X.N X.env.scope scope own)
    (hg : ∃ t : TG, (∀ (s : Shared) (H : Hp) (C : Addr) (cl : List (PySem.Str × Addr)) (fp : List Addr), PG (X.blk s H scope (compEnvC scope cl C X.env) fp) tg t) ∧
      ∀ (M : MW) (σ : L2.St) (H : Hp) (env env' : Ent) (st : Store) (d : D) (v : V) (Q : L2.St → Hp → Prop), Sim W M σ H env st → Rep W M H d v → T d env = some env' →
        (∀ σ', Sim W M σ' H env' st → (∀ ws, (∀ i ∈ is, i ∈ ws) → L2.wipe σ' ws = L2.wipe σ ws) → Q σ' H) → t v σ H Q)
    (ht : ∀ (s : Shared) (H : Hp) (C : Addr) (cl : List (PySem.Str × Addr)) (fp : List Addr), DTs (X.blk s H scope (compEnvC scope cl C X.env) fp) W E0 ifs p)
    (he : ∀ (s : Shared) (H : Hp) (C : Addr) (cl : List (PySem.Str × Addr)) (fp : List Addr), DE (X.blk s H scope (compEnvC scope cl C X.env) fp) W E0 elt f)
    (hv : ∀ i ∈ is, i ∈ own.map (·.2)) (hs : ∀ x, foldedSetIterable iter X.env x = pure x := by intro _; rfl) :
    DN X W E (.ListComp elt [⟨tg, iter, ifs, 0⟩] scope pos) (nLc it T p f (own.map (·.2))) := by
  obtain ⟨wi, pw, hw⟩ := hi
  obtain ⟨t, pt, htt⟩ := hg
  exact PEmono (pe_lc hc hN pw ok pt ht he hs) fun σ H Q q => lc_read hw htt hv q
end
end DL

set_option Elab.async false
set_option linter.all false
set_option maxRecDepth 100000
set_option maxHeartbeats 4000000
/-! DL14: statements, defs, calls. -/
namespace DL
open PySem PySem.Spec PyProof.Rows L2
/-! ### targets of a comprehension -/
def TgRead (W : Wd) (t : TG) (T : TgD) (is : List Nat) : Prop :=
  ∀ (M : MW) (σ : L2.St) (H : Hp) (env env' : Ent) (st : Store) (d : D) (v : V) (Q : L2.St → Hp → Prop), Sim W M σ H env st → Rep W M H d v → T d env = some env' →
    (∀ σ', Sim W M σ' H env' st → (∀ ws, (∀ i ∈ is, i ∈ ws) → L2.wipe σ' ws = L2.wipe σ ws) → Q σ' H) → t v σ H Q
def gsOf : List Nat → TGs
  | [] => gNil
  | i :: is => gCons (gName i) (gsOf is)
section
variable {W : Wd}
theorem tr_name {i : Nat} : TgRead W (gName i) (tgN i) [i] := fun M σ H env env' st d v Q S r e q => by
  cases e
  exact q _ (S.set r) fun ws h => wipe_set (h i (List.mem_singleton.mpr rfl))
theorem tr_names : ∀ (is : List Nat) (M : MW) (σ : L2.St) (H : Hp) (env env' : Ent) (st : Store) (ds : List D) (vs : List V) (Q : L2.St → Hp → Prop), Sim W M σ H env st → Reps W M H ds vs → setAll is ds env = some env' →
    (∀ σ', Sim W M σ' H env' st → (∀ ws, (∀ i ∈ is, i ∈ ws) → L2.wipe σ' ws = L2.wipe σ ws) → Q σ' H) → gsOf is vs σ H Q
  | [], M, σ, H, env, env', st, ds, vs, Q, S, r, e, q => by
    cases r with
    | nil => cases e; exact ⟨rfl, q σ S fun _ _ => rfl⟩
    | cons _ _ => cases e
  | i :: is, M, σ, H, env, env', st, ds, vs, Q, S, r, e, q => by
    cases r with
    | nil => cases e
    | cons r1 rs =>
      refine ⟨_, _, rfl, ?_⟩
      refine tr_names is M _ H _ env' st _ _ Q (S.set r1) rs e fun σ2 S2 w2 => q σ2 S2 fun ws hw => ?_
      rw [w2 ws fun j hj => hw j (List.mem_cons_of_mem _ hj), wipe_set (hw i (List.mem_cons_self ..))]
theorem setAll_len : ∀ {is : List Nat} {ds : List D} {env env' : Ent}, setAll is ds env = some env' → ds.length = is.length
  | [], [], _, _, _ => rfl
  | [], _ :: _, _, _, h => by cases h
  | _ :: _, [], _, _, h => by cases h
  | _ :: is, _ :: ds, _, _, h => by rw [List.length_cons, List.length_cons, setAll_len (is := is) h]
theorem tr_tup {K : PySem.W.Frag} {is : List Nat} {n : Nat} (hn : is.length = n) : TgRead W (gTup K n (gsOf is)) (tgT is) is := fun M σ H env env' st d v Q S r e q => by
  cases r with
  | tup h1 r1 => exact ⟨_, _, rfl, .inl (.inl h1), by rw [← r1.length, setAll_len e, hn], tr_names is M σ H env env' st _ _ Q S r1 e q⟩
  | _ => cases e
end
/-! ### statements -/
inductive Out where
  | nx | bk | ct
  | rt (d : D)
abbrev EvT := Ent → Store → R (Out × Ent)
def FinS (W : Wd) (E : XK) (r : R (Out × Ent)) (M : MW) (H : Hp) (D0 : Ends) : Prop :=
  match r with
  | .ok (.nx, env') st' => ∀ (M' : MW) (σ' : L2.St) (H' : Hp), Stp M H M' H' → Sim W M' σ' H' env' st' → D0.nx σ' H'
  | .ok (.bk, env') st' => ∀ (M' : MW) (σ' : L2.St) (H' : Hp), Stp M H M' H' → Sim W M' σ' H' env' st' → D0.bk σ' H'
  | .ok (.ct, env') st' => ∀ (M' : MW) (σ' : L2.St) (H' : Hp), Stp M H M' H' → Sim W M' σ' H' env' st' → D0.ct σ' H'
  | .ok (.rt d, _) st' => ∀ (M' : MW) (v : V) (H' : Hp), Stp M H M' H' → SimS W M' H' st' → Rep W M' H' d v → D0.rt v H'
  | .ex c xs st' => ∀ (M' : MW) (H' : Hp) (cls : Value) (dx : Option Addr), Stp M H M' H' → SimS W M' H' st' → W.XR M' H' c xs cls dx → E cls dx H'
  | .no => False
theorem FinS.step {W : Wd} {E : XK} {r : R (Out × Ent)} {M M1 : MW} {H H1 : Hp} {D0 : Ends} (s : Stp M H M1 H1) (h : FinS W E r M H D0) : FinS W E r M1 H1 D0 := by
  match r, h with
  | .ok (.nx, _) _, h => exact fun M' σ' H' t => h M' σ' H' (s.trans t)
  | .ok (.bk, _) _, h => exact fun M' σ' H' t => h M' σ' H' (s.trans t)
  | .ok (.ct, _) _, h => exact fun M' σ' H' t => h M' σ' H' (s.trans t)
  | .ok (.rt _, _) _, h => exact fun M' v H' t => h M' v H' (s.trans t)
  | .ex _ _ _, h => exact fun M' H' cls dx t => h M' H' cls dx (s.trans t)
  | .no, h => exact h
def lS (W : Wd) (E : XK) (f : EvT) : TS := fun D0 σ H => ∃ (M : MW) (env : Ent) (st : Store), Sim W M σ H env st ∧ FinS W E (f env st) M H D0
def DS (X : Cx) (W : Wd) (E : XK) (s : Stmt) (f : EvT) : Prop := PS X s (lS W E f)
def DSs (X : Cx) (W : Wd) (E : XK) (s : List Stmt) (f : EvT) : Prop := PSs X s (lS W E f)
theorem Fin.bindS {α β : Type} {W : Wd} {E : XK} {rel : MW → Hp → α → β → Prop} {σ : L2.St} {env : Ent} {r : R α} {k : α → Store → R (Out × Ent)} {M : MW} {H : Hp} {Q : β → Hp → Prop} {D0 : Ends}
    (h : FinS W E (r.bind k) M H D0)
    (hk : ∀ a st' M' b H', Stp M H M' H' → Sim W M' σ H' env st' → rel M' H' a b → FinS W E (k a st') M' H' D0 → Q b H') : Fin W E rel σ env r M H Q := by
  cases r with
  | ok a st' => exact fun M' b H' t S r => hk a st' M' b H' t S r (h.step t)
  | ex c xs st' => exact h
  | no => exact h
def sNx : EvT := fun env st => .ok (.nx, env) st
def sBk : EvT := fun env st => .ok (.bk, env) st
def sCt : EvT := fun env st => .ok (.ct, env) st
def sSeq (f g : EvT) : EvT := fun env st => (f env st).bind fun o st1 => match o with
  | (.nx, env1) => g env1 st1
  | o => .ok o st1
def sRet (f : Ev) : EvT := fun env st => (f env st).bind fun d st1 => .ok (.rt d, env) st1
def sRetN : EvT := fun env st => .ok (.rt .non, env) st
def sExpr (f : Ev) : EvT := fun env st => (f env st).bind fun _ st1 => .ok (.nx, env) st1
def sIf (p : EvB) (f g : EvT) : EvT := fun env st => (p env st).bind fun k st1 => if k then f env st1 else g env st1
def sAsg (f : Ev) (T : TgD) : EvT := fun env st => (f env st).bind fun d st1 => match T d env with
  | some env1 => .ok (.nx, env1) st1
  | none => .no
def sPar (i j : Nat) (f g : Ev) : EvT := fun env st => (f env st).bind fun a st1 => (g env st1).bind fun b st2 => .ok (.nx, (env.set i (some a)).set j (some b)) st2
def sAug (i : Nat) (op : Store → D → D → Option D) (f : Ev) : EvT := fun env st => match env[i]? with
  | some (some a) => (f env st).bind fun b st1 => match op st1 a b with
    | some d => .ok (.nx, env.set i (some d)) st1
    | none => .no
  | _ => .no
section
variable {X : Cx} {W : Wd} {E : XK} {s : Stmt} {ss : List Stmt} {f g : EvT} {e a b c : Expr} {x y : Ev} {p : EvB} {pos pos' : Pos}
theorem dss_nil : DSs X W E [] sNx := PSsmono pss_nil fun D0 σ H ⟨M, env, st, S, q⟩ => q M σ H .refl S
theorem dss_cons (h1 : DS X W E s f) (h2 : DSs X W E ss g) : DSs X W E (s :: ss) (sSeq f g) :=
  PSsmono (pss_cons h1 h2) fun D0 σ H ⟨M, env, st, S, q⟩ => ⟨M, env, st, S, by
    unfold sSeq at q
    match hf : f env st, q with
    | .ok (.nx, env1) st1, q => exact fun M' σ' H' t S' => ⟨M', env1, st1, S', FinS.step t q⟩
    | .ok (.bk, env1) st1, q => exact q
    | .ok (.ct, env1) st1, q => exact q
    | .ok (.rt d, env1) st1, q => exact q
    | .ex _ _ _, q => exact q
    | .no, q => exact q⟩
theorem dss_one (h1 : DS X W E s f) : DSs X W E [s] f := pss_one h1
theorem ds_pass : DS X W E (.Pass pos) sNx := PSmono ps_pass fun D0 σ H ⟨M, env, st, S, q⟩ => q M σ H .refl S
theorem ds_break : DS X W E (.Break pos) sBk := PSmono ps_break fun D0 σ H ⟨M, env, st, S, q⟩ => q M σ H .refl S
theorem ds_continue : DS X W E (.Continue pos) sCt := PSmono ps_continue fun D0 σ H ⟨M, env, st, S, q⟩ => q M σ H .refl S
theorem ds_expr (h : DE X W E e x) (hs : swapsWith e none pos.line X.env = pure false := by rfl) : DS X W E (.Expr e pos) (sExpr x) :=
  PSmono (ps_expr h hs) fun D0 σ H ⟨M, env, st, S, q⟩ => ⟨M, env, st, S, Fin.bindS q fun d st1 M1 v H1 T1 S1 r1 q1 => q1 M1 σ H1 .refl S1⟩
theorem ds_ret (h : DE X W E e x) : DS X W E (.Return (some e) pos) (sRet x) :=
  PSmono (ps_ret h) fun D0 σ H ⟨M, env, st, S, q⟩ => ⟨M, env, st, S, Fin.bindS q fun d st1 M1 v H1 T1 S1 r1 q1 => q1 M1 v H1 .refl S1.s r1⟩
theorem ds_retN : DS X W E (.Return none pos) sRetN := PSmono ps_retN fun D0 σ H ⟨M, env, st, S, q⟩ => q M .non H .refl S.s .non
theorem ds_if {tb eb : List Stmt} (h : DT X W E c p) (h1 : DSs X W E tb f) (h2 : DSs X W E eb g) : DS X W E (.If c tb eb pos) (sIf p f g) :=
  PSmono (ps_if h h1 h2) fun D0 σ H ⟨M, env, st, S, q⟩ => ⟨M, env, st, S, Fin.bindS q fun k st1 M1 k' H1 T1 S1 e1 q1 => by
    subst e1
    cases k with
    | true => rw [if_pos rfl]; exact ⟨M1, env, st1, S1, q1⟩
    | false => rw [if_neg Bool.false_ne_true]; exact ⟨M1, env, st1, S1, q1⟩⟩
theorem ds_set {i : Nat} {n : PySem.Str} (hN : X.N.Nodup) (hi : X.N[i]? = some n) (hx : Loc X.env.scope n) (h : DE X W E e x) (hs : swapsWith e (some (.Name n pos')) pos.line X.env = pure false := by rfl) (hf : X.fn n = true ∨ X.env.scope.names.lookup n = some .local := by first | exact .inl rfl | exact .inr rfl | assumption) :
    DS X W E (.Assign [.Name n pos'] e pos) (sAsg x (tgN i)) :=
  PSmono (ps_set hN hi hx h hs hf) fun D0 σ H ⟨M, env, st, S, q⟩ => ⟨M, env, st, S, Fin.bindS q fun d st1 M1 v H1 T1 S1 r1 q1 => q1 M1 _ H1 .refl (S1.set r1)⟩
theorem ds_asg {tg : Expr} {T : TgD} {is : List Nat} (h : DE X W E e x) (hg : DG X W tg T is) (hs : swapsWithSole [tg] e pos.line X.env = pure false := by rfl) (hw : swappedStores [tg] e X.env = pure none := by rfl)
    (h1 : (assignEach [tg] X.env).map (·.2) = [assign tg X.env] := by rfl) : DS X W E (.Assign [tg] e pos) (sAsg x T) := by
  obtain ⟨t, pt, ht⟩ := hg
  refine PSmono (ps_asg h pt hs hw h1) fun D0 σ H ⟨M, env, st, S, q⟩ => ⟨M, env, st, S, Fin.bindS q fun d st1 M1 v H1 T1 S1 r1 q1 => ?_⟩
  cases e1 : T d env with
  | none => rw [e1] at q1; exact q1.elim
  | some env1 => rw [e1] at q1; exact ht M1 σ H1 env env1 st1 d v _ S1 r1 e1 fun σ' S' _ => q1 M1 σ' H1 .refl S'
theorem ds_par {i j : Nat} {n m : PySem.Str} {px py pt : Pos} {kt k2 pt2} (hc : X.calm = true) (hN : X.N.Nodup) (hi : X.N[i]? = some n) (hj : X.N[j]? = some m) (hij : i ≠ j)
    (hx : X.env.scope.names.lookup n = some .local) (hy : X.env.scope.names.lookup m = some .local) (ha : DE X W E a x) (hb : DE X W E b y)
    (hw : swappedStores [.Tuple [.Name n px, .Name m py] kt pt] (.Tuple [a, b] k2 pt2) X.env = pure (some [n, m]))
    (s1 : starEach [a, b] X.env = (false, eval a X.env) :: starEach [b] X.env := by rfl) (s2 : starEach [b] X.env = (false, eval b X.env) :: starEach [] X.env := by rfl)
    (hs : swapsWithSole [.Tuple [.Name n px, .Name m py] kt pt] (.Tuple [a, b] k2 pt2) pos.line X.env = pure false := by rfl) :
    DS X W E (.Assign [.Tuple [.Name n px, .Name m py] kt pt] (.Tuple [a, b] k2 pt2) pos) (sPar i j x y) :=
  PSmono (ps_par hc hN hi hj hij hx hy (pa_cons ha (pa_cons hb pa_nil s2) s1) hw hs) fun D0 σ H ⟨M, env, st, S, q⟩ => ⟨M, env, st, S, Fin.bindS q fun d1 st1 M1 v1 H1 T1 S1 r1 q1 => ⟨M1, env, st1, S1, Fin.bindS q1 fun d2 st2 M2 v2 H2 T2 S2 r2 q2 =>
    ⟨v1, v2, rfl, q2 M2 _ H2 .refl ((S2.set (r1.mono T2)).set r2)⟩⟩⟩
theorem ds_aug {i : Nat} {n : PySem.Str} {op : Operator} {r : R2} {opD : Store → D → D → Option D} (hN : X.N.Nodup) (hi : X.N[i]? = some n) (hx : Loc X.env.scope n) (ho : OpR X (inplaceOp op) r) (hd : OpD W r opD) (h : DE X W E e x)
    (hf : X.fn n = true ∨ X.env.scope.names.lookup n = some .local := by first | exact .inl rfl | exact .inr rfl | assumption) : DS X W E (.AugAssign (.Name n pos') op e pos) (sAug i opD x) :=
  PSmono (ps_aug hN hi hx h (ti := r) ho hf) fun D0 σ H ⟨M, env, st, S, q⟩ => by
    unfold sAug at q
    cases e1 : env[i]? with
    | none => rw [e1] at q; exact q.elim
    | some o =>
      cases o with
      | none => rw [e1] at q; exact q.elim
      | some d0 =>
        rw [e1] at q
        simp only at q
        obtain ⟨v0, ev, r0⟩ := S.var i d0 e1
        refine ⟨v0, ev, M, env, st, S, Fin.bindS q fun d st1 M1 v H1 T1 S1 r1 q1 => hd E M1 σ H1 env st1 d0 d v0 v _ S1 (r0.mono T1) r1 ?_⟩
        cases e2 : opD st1 d0 d with
        | none => rw [e2] at q1; exact q1.elim
        | some dd =>
          rw [e2] at q1
          exact fun M2 w H2 T2 S2 r2 => q1 M2 _ H2 T2 (S2.set r2)
/-! ### for -/
def forVals (T : TgD) (body : EvT) : List D → Ent → Store → R (Out × Ent)
  | [], env, st => .ok (.nx, env) st
  | d :: ds, env, st => match T d env with
    | none => .no
    | some env1 => (body env1 st).bind fun o st2 => match o with
      | (.nx, env2) => forVals T body ds env2 st2
      | (.ct, env2) => forVals T body ds env2 st2
      | (.bk, env2) => .ok (.nx, env2) st2
      | (.rt d, env2) => .ok (.rt d, env2) st2
def forCell (n : Nat) (T : TgD) (body : EvT) : Nat → Nat → Ent → Store → R (Out × Ent)
  | 0, _, _, _ => .no
  | fuel + 1, i, env, st => match (Src.cell n).get st with
    | none => .no
    | some ds => match ds[i]? with
      | none => .ok (.nx, env) st
      | some d => match T d env with
        | none => .no
        | some env1 => (body env1 st).bind fun o st2 => match o with
          | (.nx, env2) => forCell n T body fuel (i + 1) env2 st2
          | (.ct, env2) => forCell n T body fuel (i + 1) env2 st2
          | (.bk, env2) => .ok (.nx, env2) st2
          | (.rt d, env2) => .ok (.rt d, env2) st2
def sFor (fuel : Nat) (it : EvS) (T : TgD) (body : EvT) : EvT := fun env st => (it env st).bind fun src st1 => match src with
  | .vals ds => forVals T body ds env st1
  | .cell n => forCell n T body fuel 0 env st1
theorem ds_for {fuel : Nat} {tg iter : Expr} {body : List Stmt} {it : EvS} {T : TgD} {is : List Nat} (hp : PassesOwn (model X.prog X.w) X.A X.env X.xe) (hc : X.calm = true) (hi : DI X W E tg iter it) (hg : DG X W tg T is) (hb : DSs X W E body f)
    (hs : ∀ x, foldedSetIterable iter X.env x = pure x := by intro _; rfl) : DS X W E (.For tg iter body [] pos) (sFor fuel it T f) := by
  obtain ⟨wi, pw, hw⟩ := hi
  obtain ⟨t, pt, ht⟩ := hg
  refine PSmono (ps_for hp hc pw pt hb hs) fun D0 σ H ⟨M, env, st, S, q⟩ => hw σ H _ ⟨M, env, st, S, ?_⟩
  unfold sFor at q
  cases e : it env st with
  | ex c xs st' => rw [e] at q; exact q
  | no => rw [e] at q; exact q
  | ok src st1 =>
    rw [e] at q
    intro M1 H1 J T1 S1 ok
    have q := FinS.step T1 q
    simp only [R.bind] at q
    have body_ok : ∀ {M' : MW} {σ' : L2.St} {H' : Hp} {env' : Ent} {st' : Store} {i : Nat} {es : List D} {m : Nat} {W' : Nat → Nat → L2.St → Hp → Prop} {rest : Ent → Store → R (Out × Ent)} {env1 : Ent} {d : D}, Stp M1 H1 M' H' → Sim W M' σ' H' env' st' → src.get st' = some es → es[i]? = some d → T d env' = some env1 →
        FinS W E ((f env1 st').bind fun o st2 => match o with | (.nx, env2) => rest env2 st2 | (.ct, env2) => rest env2 st2 | (.bk, env2) => .ok (.nx, env2) st2 | (.rt d, env2) => .ok (.rt d, env2) st2) M' H' D0 →
        (∀ M2 σ2 H2 env2 st2, Stp M1 H1 M2 H2 → Sim W M2 σ2 H2 env2 st2 → FinS W E (rest env2 st2) M2 H2 D0 → W' (i + 1) m σ2 H2) →
        J.go i H' ∧ ∃ N : L2.St → Hp → Prop, (∀ σ2 H2, N σ2 H2 → ∃ m', m' < m + 1 ∧ W' (i + 1) m' σ2 H2) ∧ ∀ x H3, J.yld i H' x H3 → t x σ' H3 fun σ2 H2 => lS W E f { D0 with nx := N, ct := N, bk := D0.nx } σ2 H2 := by
      intro M' σ' H' env' st' i es m W' rest env1 d TT SS ge ed et fin go
      have l := (List.getElem?_eq_some_iff.mp ed).1
      obtain ⟨g1, g2⟩ := (ok i M' H' st' es TT SS.s ge).1 l
      refine ⟨g1, fun σ2 H2 => W' (i + 1) m σ2 H2, fun σ2 H2 w => ⟨m, Nat.lt_succ_self _, w⟩, fun x H3 y => ?_⟩
      obtain ⟨gr, d', ed', rx⟩ := g2 x H3 y
      rw [ed] at ed'
      cases ed'
      have S3 := SS.grow gr
      refine ht M' σ' H3 env' env1 st' d x _ S3 rx et fun σ2 S4 _ => ⟨M', env1, st', S4, ?_⟩
      have fin := FinS.step (Stp.grow gr) fin
      match hf : f env1 st', fin with
      | .ok (.nx, env2) st2, fin => exact fun M5 σ5 H5 T5 S5 => go M5 σ5 H5 env2 st2 ((TT.trans (Stp.grow gr)).trans T5) S5 (FinS.step T5 fin)
      | .ok (.ct, env2) st2, fin => exact fun M5 σ5 H5 T5 S5 => go M5 σ5 H5 env2 st2 ((TT.trans (Stp.grow gr)).trans T5) S5 (FinS.step T5 fin)
      | .ok (.bk, env2) st2, fin => exact fin
      | .ok (.rt _, env2) st2, fin => exact fin
      | .ex _ _ _, fin => exact fin
      | .no, fin => exact fin
    cases src with
    | vals ds =>
      simp only at q
      refine ⟨fun i m σ' H' => ∃ (M' : MW) (env' : Ent) (st' : Store), Stp M1 H1 M' H' ∧ Sim W M' σ' H' env' st' ∧ m + i = ds.length ∧ FinS W E (forVals T f (ds.drop i) env' st') M' H' D0, ⟨ds.length, M1, env, st1, .refl, S1, rfl, q⟩, ?_⟩
      rintro i m σ' H' ⟨M', env', st', TT, SS, hm, fin⟩
      by_cases l : i < ds.length
      · rw [List.drop_eq_getElem_cons l] at fin
        simp only [forVals] at fin
        cases et : T ds[i] env' with
        | none => rw [et] at fin; exact fin.elim
        | some env1 =>
          rw [et] at fin
          obtain ⟨m', rfl⟩ : ∃ m', m = m' + 1 := ⟨m - 1, by omega⟩
          exact .inr (body_ok (m := m') (W' := (fun i m σ' H' => ∃ (M' : MW) (env' : Ent) (st' : Store), Stp M1 H1 M' H' ∧ Sim W M' σ' H' env' st' ∧ m + i = ds.length ∧ FinS W E (forVals T f (ds.drop i) env' st') M' H' D0)) (rest := forVals T f (ds.drop (i + 1))) TT SS rfl (List.getElem?_eq_getElem l) et fin fun M2 σ2 H2 env2 st2 T2 S2 fin2 => ⟨M2, env2, st2, T2, S2, by omega, fin2⟩)
      · rw [List.drop_eq_nil_of_le (by omega)] at fin
        exact .inl ⟨(ok i M' H' st' ds TT SS.s rfl).2 (by omega), fin M' σ' H' .refl SS⟩
    | cell n =>
      simp only at q
      refine ⟨fun i m σ' H' => ∃ (M' : MW) (env' : Ent) (st' : Store), Stp M1 H1 M' H' ∧ Sim W M' σ' H' env' st' ∧ FinS W E (forCell n T f m i env' st') M' H' D0, ⟨fuel, M1, env, st1, .refl, S1, q⟩, ?_⟩
      rintro i m σ' H' ⟨M', env', st', TT, SS, fin⟩
      cases m with
      | zero => simp only [forCell] at fin; exact fin.elim
      | succ m =>
        simp only [forCell] at fin
        cases ge : (Src.cell n).get st' with
        | none => rw [ge] at fin; exact fin.elim
        | some es =>
          rw [ge] at fin
          simp only at fin
          cases gi : es[i]? with
          | none =>
            rw [gi] at fin
            exact .inl ⟨(ok i M' H' st' es TT SS.s ge).2 (List.getElem?_eq_none_iff.mp gi), fin M' σ' H' .refl SS⟩
          | some d =>
            rw [gi] at fin
            simp only at fin
            cases et : T d env' with
            | none => rw [et] at fin; exact fin.elim
            | some env1 =>
              rw [et] at fin
              exact .inr (body_ok (m := m) (W' := (fun i m σ' H' => ∃ (M' : MW) (env' : Ent) (st' : Store), Stp M1 H1 M' H' ∧ Sim W M' σ' H' env' st' ∧ FinS W E (forCell n T f m i env' st') M' H' D0)) (rest := forCell n T f m (i + 1)) TT SS ge gi et fin fun M2 σ2 H2 env2 st2 T2 S2 fin2 => ⟨M2, env2, st2, T2, S2, fin2⟩)
/-! ### while -/
def whileGo (p : EvB) (body : EvT) : Nat → Ent → Store → R (Out × Ent)
  | 0, _, _ => .no
  | fuel + 1, env, st => (p env st).bind fun k st1 => if k then (body env st1).bind fun o st2 => match o with
      | (.nx, env2) => whileGo p body fuel env2 st2
      | (.ct, env2) => whileGo p body fuel env2 st2
      | (.bk, env2) => .ok (.nx, env2) st2
      | (.rt d, env2) => .ok (.rt d, env2) st2
    else .ok (.nx, env) st1
def sWhile (fuel : Nat) (p : EvB) (body : EvT) : EvT := whileGo p body fuel
theorem ds_while {fuel : Nat} {body : List Stmt} (hp : PassesOwn (model X.prog X.w) X.A X.env X.xe) (hc : DT X W E c p) (hb : DSs X W E body f) : DS X W E (.While c body [] pos) (sWhile fuel p f) := by
  refine PSmono (ps_while hp hc hb) fun D0 σ H ⟨M, env, st, S, q⟩ => ?_
  refine ⟨fun m σ' H' => ∃ (M' : MW) (env' : Ent) (st' : Store), Sim W M' σ' H' env' st' ∧ FinS W E (whileGo p f m env' st') M' H' D0, ⟨fuel, M, env, st, S, q⟩, ?_⟩
  rintro m σ' H' ⟨M', env', st', SS, fin⟩
  cases m with
  | zero => exact fin.elim
  | succ m =>
    simp only [whileGo] at fin
    refine ⟨M', env', st', SS, Fin.bindS fin fun k st1 M1 k' H1 T1 S1 e1 fin1 => ?_⟩
    subst e1
    cases k with
    | false => rw [if_neg Bool.false_ne_true] at fin1 ⊢; exact fin1 M1 σ' H1 .refl S1
    | true =>
      rw [if_pos rfl] at fin1 ⊢
      refine ⟨fun σ2 H2 => ∃ (M' : MW) (env' : Ent) (st' : Store), Sim W M' σ2 H2 env' st' ∧ FinS W E (whileGo p f m env' st') M' H2 D0, fun σ2 H2 w => ⟨m, Nat.lt_succ_self _, w⟩, M1, env', st1, S1, ?_⟩
      match hf : f env' st1, fin1 with
      | .ok (.nx, env2) st2, fin1 => exact fun M5 σ5 H5 T5 S5 => ⟨M5, env2, st2, S5, FinS.step T5 fin1⟩
      | .ok (.ct, env2) st2, fin1 => exact fun M5 σ5 H5 T5 S5 => ⟨M5, env2, st2, S5, FinS.step T5 fin1⟩
      | .ok (.bk, env2) st2, fin1 => exact fin1
      | .ok (.rt _, env2) st2, fin1 => exact fin1
      | .ex _ _ _, fin1 => exact fin1
      | .no, fin1 => exact fin1
end
end DL

set_option Elab.async false
set_option linter.all false
set_option maxRecDepth 100000
set_option maxHeartbeats 4000000
/-! DL15: defs and their calls. -/
namespace DL
open PySem PySem.Spec PyProof.Rows L2
def FinC (W : Wd) (E : XK) (r : R D) (M : MW) (H : Hp) (Q : VK) : Prop :=
  match r with
  | .ok d st' => ∀ (M' : MW) (v : V) (H' : Hp), Stp M H M' H' → SimS W M' H' st' → Rep W M' H' d v → Q v H'
  | .ex c xs st' => ∀ (M' : MW) (H' : Hp) (cls : Value) (dx : Option Addr), Stp M H M' H' → SimS W M' H' st' → W.XR M' H' c xs cls dx → E cls dx H'
  | .no => False
theorem FinC.step {W : Wd} {E : XK} {r : R D} {M M1 : MW} {H H1 : Hp} {Q : VK} (s : Stp M H M1 H1) (h : FinC W E r M H Q) : FinC W E r M1 H1 Q := by
  cases r with
  | ok a st' => exact fun M' b H' t => h M' b H' (s.trans t)
  | ex c xs st' => exact fun M' H' cls dx t => h M' H' cls dx (s.trans t)
  | no => exact h
def spD (W : Wd) (n : Nat) (g : List D → Store → R D) : Sp := fun vs H Q E => vs.length = n ∧ ∃ (M : MW) (ds : List D) (st : Store), SimS W M H st ∧ Reps W M H ds vs ∧ FinC W E (g ds st) M H Q
def runF (n N : Nat) (f : EvT) : List D → Store → R D := fun ds st => (f (ds.map some ++ List.replicate (N - n) none) st).bind fun o st' => match o with
  | (.nx, _) => .ok .non st'
  | (.rt d, _) => .ok d st'
  | _ => .no
theorem sim_start {W : Wd} {M : MW} {H : Hp} {ds : List D} {vs : List V} {st : Store} {N : List PySem.Str} {n : Nat} (S : SimS W M H st) (r : Reps W M H ds vs) (hn : vs.length = n) : Sim W M (L2.start N vs) H (ds.map some ++ List.replicate (N.length - n) none) st := by
  have l := r.length
  subst hn
  refine ⟨S, by simp [L2.start, l], fun i d e => ?_⟩
  by_cases h : i < ds.length
  · rw [List.getElem?_append_left (by simpa using h), List.getElem?_map] at e
    have e' : ds[i]? = some d := by
      cases q : ds[i]? with
      | none => rw [q] at e; cases e
      | some x => rw [q] at e; cases e; rfl
    obtain ⟨v, h1, h2⟩ := r.get e'
    refine ⟨v, ?_, h2⟩
    unfold L2.start
    rw [List.getElem?_append_left (by simpa [← l] using h), List.getElem?_map, h1]
    rfl
  · rw [List.getElem?_append_right (by simpa using h), List.getElem?_replicate] at e
    split at e <;> cases e
section
variable {P : Program} {w : World} {K : PySem.W.Frag} {mg : PySem.Str → Option Value} {base : Heap} {W : Wd}
theorem gokD {x qual : PySem.Str} {params : Arguments} {body : List Stmt} {scope : Scope} {dvs : List V} {kws : List (PySem.Str × V)} {fa : Addr} {fd : FuncData} {k n m : Nat} {N ps : List PySem.Str} {f : EvT} {T : CXT} (F : FunD K x qual params body scope dvs kws fa fd) (S : FnScope N ps scope)
    (hb : ∀ (cdv : Value) (B : Around) (up : List Env) (z : Shared) (H : Hp) (E : XK), Free k (B.deeper (envOfC qual scope z.heap.objs.size fa cdv)) → DSs (cxOf T P w K mg base N qual scope fa cdv B up z H E) W E body f)
    (hn : ps.length = n := by rfl) (hm : N.length = m := by rfl) :
    GOk P w K mg base T (k + 1) fa fd ps (spD W n (runF n m f)) := by
  subst hn hm
  obtain ⟨oc, od, dV, kV, doc, pm, an, cdv, ct, osl, rfl, lk, hcd, _, _⟩ := F.ex
  refine gok_of lk hcd S (fun vs H Q E h => h.1) fun B up z H vs Q E fr hsp => ⟨_, hb cdv B up z H E fr, ?_⟩
  obtain ⟨hl, M, ds, st, SS, r, fin⟩ := hsp
  refine ⟨M, _, st, sim_start SS r hl, ?_⟩
  unfold runF at fin
  match hf : f (ds.map some ++ List.replicate (N.length - ps.length) none) st, fin with
  | .ok (.nx, env1) st1, fin => exact fun M' σ' H' t S' => fin M' .non H' t S'.s .non
  | .ok (.bk, env1) st1, fin => exact fin.elim
  | .ok (.ct, env1) st1, fin => exact fin.elim
  | .ok (.rt d, env1) st1, fin => exact fin
  | .ex _ _ _, fin => exact fin
  | .no, fin => exact fin
/-- a def that may be called -/
def Cal (P : Program) (w : World) (K : PySem.W.Frag) (mg : PySem.Str → Option Value) (base : Heap) (T : CXT) (W : Wd) (k : Nat) (x : PySem.Str) (i n : Nat) (g : List D → Store → R D) : Prop :=
  ∃ (fd : FuncData) (ps : List PySem.Str), GOk P w K mg base T k (W.F i) fd ps (spD W n g) ∧ mg x = some (.ref (W.F i)) ∧ PySem.W.keepIn K (.ref (W.F i)) = true ∧ Binds K fd ps []
end
/-! ### calls -/
mutual
/-- data without a cell -/
def pur : D → Bool
  | .ref _ => false
  | .tup xs => purs xs
  | .lst xs => purs xs
  | _ => true
def purs : List D → Bool
  | [] => true
  | d :: ds => pur d && purs ds
end
section
variable {W : Wd} {M M' : MW} {H : Hp}
mutual
theorem Rep.re (hm : ∀ a : Addr, ∀ o, H a = some o → ¬ M.mu a → ¬ M'.mu a) : ∀ {d : D} {v : V}, pur d = true → Rep W M H d v → Rep W M' H d v
  | _, _, _, .non => .non
  | _, _, _, .bl b => .bl b
  | _, _, _, .int b => .int b
  | _, _, _, .str b => .str b
  | _, _, p, .tup h r => .tup h (Reps.re hm p r)
  | _, _, p, .lst h m r => .lst h (by
      obtain ⟨o, e⟩ := Rd.some h
      exact hm _ o e m) (Reps.re hm p r)
  | _, _, p, .ref _ => nomatch p
  | _, _, _, .fn n => .fn n
theorem Reps.re (hm : ∀ a : Addr, ∀ o, H a = some o → ¬ M.mu a → ¬ M'.mu a) : ∀ {ds : List D} {vs : List V}, purs ds = true → Reps W M H ds vs → Reps W M' H ds vs
  | _, _, _, .nil => .nil
  | _, _, p, .cons h r => .cons (Rep.re hm (by
      simp only [purs, Bool.and_eq_true] at p; exact p.1) h) (Reps.re hm (by
      simp only [purs, Bool.and_eq_true] at p; exact p.2) r)
end
end
/-- what comes back from a call on an empty store -/
def outD (d : D) (st : Store) : Option D := match d with
  | .ref n => match st[n]? with
    | some (.lst xs) => if purs xs then some (.lst xs) else none
    | _ => none
  | d => if pur d then some d else none
/-- a call that shares the store -/
def eCallR (g : List D → Store → R D) (as : EvL) : Ev := fun env st => (as env st).bind fun ds st1 => g ds st1
/-- a call upon data alone -/
def appP (g : List D → Store → R D) (ds : List D) : Option D := if purs ds then match g ds [] with
  | .ok d st => outD d st
  | _ => none else none
def eCallP (g : List D → Store → R D) (as : EvL) : Ev := fun env st => (as env st).bind fun ds st1 => R.ofO (appP g ds) st1
section
variable {X : Cx} {T : CXT} {W : Wd} {E : XK} {k lv i n : Nat} {x : PySem.Str} {g : List D → Store → R D} {as : EvL} {e : Expr} {es : List Expr} {p pos : Pos}
theorem Fin.call {σ : L2.St} {env : Ent} {r : R D} {M : MW} {H : Hp} {st : Store} {Q : VK} (S : Sim W M σ H env st) (h : Fin W E (relD W) σ env r M H Q) : FinC W E r M H Q := by
  cases r with
  | ok d st' => exact fun M' v H' t S' => h M' v H' t (S.step t S')
  | ex c xs st' => exact h
  | no => exact h
theorem callP {M : MW} {H : Hp} {st : Store} {σ : L2.St} {env : Ent} {Q : VK} {ds : List D} {vs : List V} (S : Sim W M σ H env st) (r : Reps W M H ds vs) (h : Fin W E (relD W) σ env (R.ofO (appP g ds) st) M H Q) (hl : vs.length = n) : spD W n g vs H Q E := by
  unfold appP at h
  by_cases hp : purs ds = true
  · rw [if_pos hp] at h
    let M0 : MW := ⟨M.mu, []⟩
    refine ⟨hl, M0, ds, [], ⟨rfl, List.nodup_nil, fun a m => (nomatch m), fun n c a m => by simp at m⟩, Reps.re (M := M) (M' := M0) (fun _ _ _ m => m) hp r, ?_⟩
    cases hg : g ds [] with
    | ex c xs s => rw [hg] at h; exact h.elim
    | no => rw [hg] at h; exact h.elim
    | ok d s =>
      rw [hg] at h
      simp only at h
      intro M' v H' t S' r'
      let M2 : MW := ⟨fun a => M'.mu a ∧ a ∉ M'.rho, M.rho⟩
      have keep : ∀ a o, H a = some o → H' a = some o := fun a o q => t.keep a o q (.inl (by simp [M0]))
      have old : ∀ a o, H a = some o → a ∉ M'.rho := fun a o q m => by
        rcases t.fresh a m with z | z
        · cases z
        · rw [q] at z; cases z
      have mu2 : ∀ a o, H a = some o → (M2.mu a ↔ M.mu a) := fun a o q => ⟨fun z => (t.mu a o q).mp z.1, fun z => ⟨(t.mu a o q).mpr z, old a o q⟩⟩
      have T2 : Stp M H M2 H' := ⟨fun a o q _ => keep a o q, ⟨[], by simp [M2]⟩, fun a m => .inl m, mu2, fun a o q => ⟨o, keep a o q⟩⟩
      have S2 : SimS W M2 H' st := ⟨S.s.len, S.s.nd, fun a m => by
        obtain ⟨o, q⟩ := S.s.here m
        exact (mu2 a o q).mpr (S.s.mu a m), fun n c a h1 h2 => (S.s.cell n c a h1 h2).mono T2 fun o q => keep a o q⟩
      have wk : ∀ a o, H' a = some o → ¬ M'.mu a → ¬ M2.mu a := fun a o _ m z => m z.1
      cases ho : outD d s with
      | none => rw [ho] at h; exact h.elim
      | some d2 =>
        rw [ho] at h
        refine h M2 v H' T2 (S.step T2 S2) ?_
        have plain : (if pur d = true then some d else none) = some d2 → Rep W M2 H' d2 v := fun q => by
          by_cases pd : pur d = true
          · rw [if_pos pd] at q; cases q; exact r'.re wk pd
          · rw [if_neg pd] at q; cases q
        cases d with
        | ref m =>
          simp only [outD] at ho
          cases r' with
          | ref hm =>
            rename_i a
            cases hc : s[m]? with
            | none => rw [hc] at ho; cases ho
            | some c =>
              rw [hc] at ho
              cases c with
              | dct kvs => cases ho
              | lst xs =>
                simp only at ho
                by_cases px : purs xs = true
                · rw [if_pos px] at ho
                  cases ho
                  cases S'.cell m _ a hc hm with
                  | lst ha rx => exact .lst (.inl ha) (fun z => z.2 (List.mem_of_getElem? hm)) (rx.re wk px)
                · rw [if_neg px] at ho; cases ho
        | non => exact plain ho
        | bl b => exact plain ho
        | int b => exact plain ho
        | str b => exact plain ho
        | tup b => exact plain ho
        | lst b => exact plain ho
        | fn b => exact plain ho
  · rw [if_neg hp] at h; exact h.elim
theorem de_callR (C : Cal X.prog X.w X.K X.mg X.base T W lv x i n g) (fr : Free k X.A) (hx : Passes T X E) (hg : Gl X x) (ha : DA X W E (e :: es) as) (hk : lv ≤ k := by decide) (hn : (e :: es).length = n := by rfl)
    (hdb : (x == ("__debug__" : PySem.Str)) = false := by decide) (he : starEach (e :: es) X.env = (false, eval e X.env) :: starEach es X.env := by rfl) (hpl : (backTo pos (starEach es X.env)).any (·.1) = false := by rfl)
    (hlen : ∀ env st ds st1, as env st = .ok ds st1 → ds.length = n) :
    DE X W E (.Call (.Name x p) (e :: es) [] pos) (eCallR g as) := by
  obtain ⟨fd, ps, G, hm, hkp, hb⟩ := C
  refine PEmono (ge_call G (fr.mono hk) hg hm hkp hb hx ha hdb he hpl) fun σ H Q ⟨M, env, st, S, q⟩ => ⟨M, env, st, S, ?_⟩
  unfold eCallR at q
  cases hf : as env st with
  | ex c xs s => rw [hf] at q; exact q
  | no => rw [hf] at q; exact q
  | ok ds st1 =>
    rw [hf] at q
    intro M1 vs H1 T1 S1 r1
    exact ⟨r1.length.symm.trans (hlen _ _ _ _ hf), M1, ds, st1, S1.s, r1, Fin.call S1 (Fin.step T1 q)⟩
theorem de_callP (C : Cal X.prog X.w X.K X.mg X.base T W lv x i n g) (fr : Free k X.A) (hx : Passes T X E) (hg : Gl X x) (ha : DA X W E (e :: es) as) (hk : lv ≤ k := by decide) (hn : (e :: es).length = n := by rfl)
    (hdb : (x == ("__debug__" : PySem.Str)) = false := by decide) (he : starEach (e :: es) X.env = (false, eval e X.env) :: starEach es X.env := by rfl) (hpl : (backTo pos (starEach es X.env)).any (·.1) = false := by rfl)
    (hlen : ∀ env st ds st1, as env st = .ok ds st1 → ds.length = n) :
    DE X W E (.Call (.Name x p) (e :: es) [] pos) (eCallP g as) := by
  obtain ⟨fd, ps, G, hm, hkp, hb⟩ := C
  refine PEmono (ge_call G (fr.mono hk) hg hm hkp hb hx ha hdb he hpl) fun σ H Q ⟨M, env, st, S, q⟩ => ⟨M, env, st, S, ?_⟩
  unfold eCallP at q
  cases hf : as env st with
  | ex c xs s => rw [hf] at q; exact q
  | no => rw [hf] at q; exact q
  | ok ds st1 =>
    rw [hf] at q
    intro M1 vs H1 T1 S1 r1
    exact callP S1 r1 (Fin.step T1 q) (r1.length.symm.trans (hlen _ _ _ _ hf))
end
/-! lengths of the arguments -/
def LenA (as : EvL) (n : Nat) : Prop := ∀ env st ds st1, as env st = .ok ds st1 → ds.length = n
theorem len_nil : LenA aNil 0 := fun env st ds st1 h => by cases h; rfl
theorem len_cons {f : Ev} {g : EvL} {n : Nat} (h : LenA g n) : LenA (aCons f g) (n + 1) := fun env st ds st1 q => by
  unfold aCons at q
  cases hf : f env st with
  | ex c xs s => rw [hf] at q; cases q
  | no => rw [hf] at q; cases q
  | ok a s =>
    rw [hf] at q
    simp only [R.bind] at q
    cases hg : g env s with
    | ex c xs s => rw [hg] at q; cases q
    | no => rw [hg] at q; cases q
    | ok as s2 => rw [hg] at q; cases q; rw [List.length_cons, h _ _ _ _ hg]
end DL

set_option Elab.async false
set_option linter.all false
set_option maxRecDepth 100000
set_option maxHeartbeats 4000000
/-! DL16: the law's own call, K without the script. -/
namespace DL
open PySem PySem.Spec PyProof.Rows L2
def less (K : PySem.W.Frag) (a : Addr) : PySem.W.Frag := K.filter fun p => !(p.1 == a)
theorem less_at (K : PySem.W.Frag) (a : Addr) : (less K a).lookup a = none := by
  unfold less
  induction K with
  | nil => rfl
  | cons p r ih =>
    obtain ⟨b, x⟩ := p
    by_cases h : b = a
    · subst h; simpa using ih
    · rw [List.filter_cons_of_pos (by simpa using h)]
      have h2 : (a == b) = false := by simpa using fun z : a = b => h z.symm
      rw [List.lookup_cons, h2]
      exact ih
theorem less_ne (K : PySem.W.Frag) {a b : Addr} (h : b ≠ a) : (less K a).lookup b = K.lookup b := by
  unfold less
  induction K with
  | nil => rfl
  | cons p r ih =>
    obtain ⟨c, x⟩ := p
    by_cases q : c = a
    · subst q
      rw [List.filter_cons_of_neg (by simp), List.lookup_cons]
      have h2 : (b == c) = false := by simpa using h
      rw [h2]
      exact ih
    · rw [List.filter_cons_of_pos (by simpa using q), List.lookup_cons, List.lookup_cons, ih]
theorem less_in {K : PySem.W.Frag} {a : Addr} {h : Heap} (X : K.In h) : (less K a).In h := fun b o e => by
  by_cases q : b = a
  · subst q; rw [less_at] at e; cases e
  · rw [less_ne K q] at e; exact X b o e
/-- what stands at a is no def and no code -/
def NoFn (K : PySem.W.Frag) (a : Addr) : Prop := ∀ o, K.lookup a = some o → ∃ vs n, o.data = .seq vs n
theorem NoFn.look {K : PySem.W.Frag} {a b : Addr} {o : Obj} (N : NoFn K a) (h : K.lookup b = some o) (hd : ∀ vs n, o.data ≠ .seq vs n) : (less K a).lookup b = some o := by
  by_cases q : b = a
  · subst q
    obtain ⟨vs, n, e⟩ := N o h
    exact absurd e (hd vs n)
  · rw [less_ne K q, h]
theorem NoFn.funD {K : PySem.W.Frag} {a f : Addr} {fd : FuncData} {x qual : PySem.Str} {params : Arguments} {body : List Stmt} {scope : Scope} (N : NoFn K a) (F : FunD K x qual params body scope [] [] f fd) : FunD (less K a) x qual params body scope [] [] f fd := by
  obtain ⟨oc, od, dV, kV, doc, pm, an, cdv, ct, osl, e, lk, hcd, hD, _⟩ := F.ex
  have kp := F.kp
  refine ⟨⟨oc, od, dV, kV, doc, pm, an, cdv, ct, osl, e, N.look lk (fun _ _ z => by simp at z), ?_, ?_, .inl rfl⟩, ?_⟩
  · unfold PySem.W.codeIn at hcd ⊢
    cases cdv with
    | ref c =>
      simp only at hcd ⊢
      cases hl : K.lookup c with
      | none => rw [hl] at hcd; simp at hcd
      | some o =>
        rw [hl] at hcd
        obtain ⟨c1, d1, dt, s1⟩ := o
        cases dt with
        | fields vs => rw [N.look hl (fun _ _ z => by simp at z)]; exact hcd
        | _ => simp at hcd
    | _ => simp at hcd
  · rcases hD with ⟨h1, h2⟩ | ⟨h1, _⟩
    · exact .inl ⟨h1, h2⟩
    · exact absurd rfl h1
  · show (match (less K a).lookup f with | some ⟨_, _, .func _, _⟩ => true | some ⟨_, _, .cls _, _⟩ => PySem.W.specialIn (less K a) (.ref f) "__call__" == some (some (.builtin "type.__call__")) | _ => false) = true
    rw [N.look lk (fun _ _ z => by simp at z)]
section
/-- the goal that the head leaves -/
theorem gwalk2 {l : PySem.W.OpenLaw} {n k : Nat} {q : Program} {loose : List PySem.Str} {XP : (PySem.Str → Option Value) → Heap → Prop} {YP : World → Heap → Prop} {d : DefRec} {T : World → CXT} {x : PySem.Str}
    (hn : l.most = some n) (hn2 : n ≤ sizeLine) (hdf : d.params.defaults = []) (hr : Room k callerA)
    (F : ∀ (w : World) (mg : PySem.Str → Option Value) (f a : Addr) (h : Heap) (us : List Value), YP w h → h.Ns mainGlobals mg → mg d.name = some (.ref f) → h.get? a = some { cls := .type "list", data := .seq us.toArray } →
      ∃ (K : PySem.W.Frag) (fd : FuncData) (sp : Sp), K.lookup a = none ∧ K.In h ∧ (∀ (s : Shared) (u : Value), BindsTo s fd ⟨[u], []⟩ [(x, u)]) ∧
        (∀ (H : Hp) (ns : List Int), ns.length ≤ n → OnlyAt a H → Rd H a (.lst (ns.map V.int)) → sp [.ref a] H (fun v _ => v = .bl true) fun _ _ _ => False) ∧
        ∀ base : Heap, K.In base → base.Ns mainGlobals mg → GOk l.prog w K mg base (T w) k f fd [x] sp)
    (noT : ∀ (w : World) (H : Hp) (s : Shared) (e : Value) (s' : Shared), T w [] H s (fun _ _ _ => False) e s' → False) :
    PySem.W.WalkO q loose XP YP l.row.toRowW d [] (fun f vs => PySem.call f vs) := by
  apply Att.attach_call hn hdf
  intro w s0 z mg mb f o pm cd doc a us ns G Y ho hd hcd hmg hobj hints hlen hg
  obtain ⟨K, fd, sp, hK, KX, bind, hsp, hF⟩ := F w mg f a _ us Y G.T.g hmg hobj
  exact glaw KX G.T.g G.T.b G.T.builtins G.T.nolimit hg hobj hints (Nat.le_trans hlen hn2) hr hF bind hK (fun H hO hS => hsp H ns hlen hO hS) fun H e s' t => noT w H z e s' t
end
end DL

set_option Elab.async false
set_option linter.all false
set_option maxRecDepth 100000
set_option maxHeartbeats 4000000
/-! DL17: enumerate over a list or a tuple; reversed; range with step. -/
namespace DL
open PySem PySem.Spec PyProof.Rows L2
set_option maxHeartbeats 1000000 in
theorem meets_enum1 {v : Value} {o : Obj} {H : Heap → Prop} (B : Begins v o H) :
    Meets (Builtin.«enumerate.__new__» ⟨[.type "enumerate", v], []⟩) (fun _ R s => H s.heap ∧
      R (.ok (.ret (.ref (s.heap.push o).objs.size))) { s with heap := (s.heap.push o).push { cls := .type "enumerate", data := .fields #[.none, .bool false, .ref s.heap.objs.size, rawInt 0, .none, .none] } }) :=
  .of_wp fun prog w A R s h => by
    obtain ⟨hp, g, d, tk, os⟩ := s; obtain ⟨h1, h⟩ := h
    have hsub := sub_enumerate
    have q1 : ∀ {A' : Around} {E : Value → Shared → Prop} {Q : Value → Shared → Prop}, Q (.ref hp.objs.size) ⟨hp.push o, g, d, tk, os⟩ → wpAny (model prog w) A' (pyIter v) Q E ⟨hp, g, d, tk, os⟩ :=
      fun q => B.iter prog w _ _ ⟨hp, g, d, tk, os⟩ _ h1 q
    wp_walk using q1
    refine wpAny_stack_any fun st => wpAny_pure ?_
    split
    · rename_i c _ _ _ _ _
      cases (c == Value.type "enumerate")
      · wp_walk using q1
        exact ⟨_, rfl, h⟩
      · wp_walk using q1
        exact ⟨_, rfl, h⟩
    · wp_walk using q1
      exact ⟨_, rfl, h⟩
section
variable {prog : Program} {w : World} {A : Around} {E : Value → Shared → Prop} {s : Shared}
theorem call_enum1 {v : Value} {o : Obj} {H : Heap → Prop} {Q : Value → Shared → Prop} (B : Begins v o H) (h1 : H s.heap)
    (h : ∀ h', IsEnum h' (s.heap.objs.size + 1) s.heap.objs.size 0 .none → h'.get? s.heap.objs.size = some o → h'.objs.size = s.heap.objs.size + 2 →
      (∀ b o, s.heap.get? b = some o → h'.get? b = some o) → Q (.ref (s.heap.objs.size + 1)) { s with heap := h' }) :
    wpAny (model prog w) A (call (.type "enumerate") [v]) Q E s := by
  refine callType_new F.called_enumerate (by decide) (F.typeCall_enumerate_1 _) (F.newCall_enumerate_1 _) (fun obj => F.args_object_init_2 obj _) F.entry_enumerate_new
    (meets_enum1 B) ⟨h1, ?_⟩
  have hz : (s.heap.push o).objs.size = s.heap.objs.size + 1 := Heap.size_push ..
  show _ ∧ _
  rw [hz]
  have he : IsEnum ((s.heap.push o).push { cls := .type "enumerate", data := .fields #[.none, .bool false, .ref s.heap.objs.size, rawInt 0, .none, .none] }) (s.heap.objs.size + 1) s.heap.objs.size 0 .none := by
    have := Heap.get?_push_size (s.heap.push o) (o := { cls := .type "enumerate", data := .fields #[.none, .bool false, .ref s.heap.objs.size, rawInt 0, .none, .none] }) rfl
    rw [hz] at this; exact this
  refine ⟨⟨_, he, rfl⟩, h _ he (Heap.get?_push_of_some _ (Heap.get?_push_size _ B.free)) (by rw [Heap.size_push, hz]) fun b o x => Heap.get?_push_of_some _ (Heap.get?_push_of_some _ x)⟩
end
def IteT (K : PySem.W.Frag) (a : Addr) : It :=
  ⟨fun i H => ∃ (xs : List V) (x : V), SqT K H a xs ∧ xs[i]? = some x, fun i H v H' => ∃ T x, v = .ref T ∧ H T = none ∧ H' = upd H T (.tup [.int (i : Nat), x]) ∧ ∀ xs, SqT K H a xs → xs[i]? = some x, fun i H => ∃ xs : List V, SqT K H a xs ∧ xs.length ≤ i⟩
theorem turn_enumT {P : Program} {w : World} {K : PySem.W.Frag} {elts : List Expr} {kk : Nat} {tpos : Pos} (a e it : Addr) (hae : a ≠ it) :
    Turn P w K (.Tuple elts kk tpos) (IteT K a) [e, it] e (fun i h => (∃ old, IsEnum h e it ((i : Nat) : Int) old) ∧ h.IsTupleIter it a i ∧ e ≠ it ∧ a ≠ e) where
  mem := by simp
  obj := fun i h st b hb => by
    obtain ⟨⟨old, he⟩, ⟨o, ho, hc, hd⟩, _⟩ := st
    have e' : b = e ∨ b = it := by simpa using hb
    rcases e' with z | z
    · rw [z]; exact ⟨_, he, fun v q => nomatch q⟩
    · rw [z]; exact ⟨o, ho, fun v q => by rw [hd] at q; cases q⟩
  keep := fun i h h' st k => let ⟨⟨old, he⟩, hi, hne⟩ := st; ⟨⟨old, k e (by simp) _ he⟩, hi.at fun o q => k it (by simp) o q, hne⟩
  item := by
    intro X hP hw hK hc i pins s σ H E I hf st hg
    subst hP hw hK
    obtain ⟨⟨old, he⟩, hit, hne, hne2⟩ := st
    obtain ⟨xs, x, hq, hx⟩ := hg
    obtain ⟨its, rv, p, hz⟩ := I.tuple hq
    obtain ⟨u, hu, ru⟩ := rv.get hx
    have hel : e < s.heap.objs.size := Heap.lt_size he
    have hil : it < s.heap.objs.size := by obtain ⟨_, q, _⟩ := hit; exact Heap.lt_size q
    have p' : s.heap.IsTuple a its.toArray := p
    have D := Draws.tuple (prog := X.prog) (w := X.w) (A := X.A.in1) (I.ok.hd hc) it a hae its.toArray
    have hil2 : i < its.toArray.size := by
      rw [List.size_toArray]; exact (List.getElem?_eq_some_iff.mp hu).1
    refine wpAny_pyNext_enum_itemD D he ⟨hit, p'⟩ hil2 hne (by simp [hne, hne2.symm]) fun x1 h' tk hP ho hs' hT hsz hk => ?_
    have ex : x1 = u := by
      have z : its.toArray[i]? = some u := by simpa using hu
      exact Option.some.inj (hP.symm.trans z)
    subst ex
    refine ⟨_, rfl, wpAny_letOwnedTupleGo_enum (s := { s with heap := h', toks := tk + 1 }) ho fun h'' he' sb => ?_⟩
    have hT2 : h''.get? s.heap.objs.size = some { cls := .type "tuple", data := .seq #[.int i tk, x1] } := (sb.2 _ (Nat.ne_of_gt hel)).trans hT
    have new : ObjOk X.prog X.w (upd H s.heap.objs.size (.tup [.int (i : Nat), x])) h'' s.heap.objs.size (.tup [.int (i : Nat), x]) :=
      ⟨by show 2 ≤ sizeLine; decide, [.int i tk, x1], .cons ⟨_, rfl⟩ (.cons ru .nil), ⟨_, hT2, rfl, _, rfl⟩⟩
    have I1 : Inv X pins σ (upd H s.heap.objs.size (.tup [.int (i : Nat), x])) { s with heap := h'', toks := tk + 1 } :=
      I.turnedNew (ch := [e, it]) (fun b ob hb q => (sb.2 b (fun z => hb (by simp [z]))).trans (hk b ob (fun z => hb (by simp [z])) (fun z => hb (by simp [z])) q)) hf (Nat.le_refl _) new
    refine ⟨.ref s.heap.objs.size, _, I1, rfl, ⟨_, x, rfl, I.hok.fresh (Nat.le_refl _), rfl, fun ys hy => by rw [I.tuple_inj hy hq]; exact hx⟩, ⟨⟨x1, ?_⟩, hs'.1.at fun o q => (sb.2 it (Ne.symm hne)).trans q, hne, hne2⟩, fun b hb => ?_⟩
    · have e1 : ((i + 1 : Nat) : Int) = (i : Int) + 1 := by omega
      rw [e1]; exact he'
    · have hb' : b < s.heap.objs.size := by
        have e' : b = e ∨ b = it := by simpa using hb
        rcases e' with z | z
        · rw [z]; exact hel
        · rw [z]; exact hil
      rw [upd_ne (Nat.ne_of_lt hb')]
      exact (hf b hb).1
  done := by
    intro X hP hw hK hc i pins s σ H E I hf st hg
    subst hP hw hK
    obtain ⟨⟨old, he⟩, hit, hne, hne2⟩ := st
    obtain ⟨xs, hq, hx⟩ := hg
    obtain ⟨its, rv, p, hz⟩ := I.tuple hq
    obtain ⟨f0, f1, f2, f3, f4, f5⟩ := hf it (by simp)
    have hl := rv.length
    have p' : s.heap.IsTuple a its.toArray := p
    have hend : its.toArray[i]? = none := by simp; omega
    have D : Draws X.prog X.w X.A.in1 it [it, a] i (fun _ _ => True) (fun j h => j = i ∧ h.IsTupleIter it a i ∧ h.IsTuple a its.toArray) := {
      live := fun _ _ st => let ⟨o, ho, _⟩ := st.2.1; ⟨o, ho⟩
      frame := fun _ _ _ st hk => ⟨st.1, st.2.1.at fun o e => hk it (by simp) o e, st.2.2.at fun o e => hk a (by simp) o e⟩
      item := fun j s Q E hj st hQ => absurd st.1 (Nat.ne_of_lt hj)
      done := fun s Q E st hE => wpAny_nextOf_tuple_end (show X.A.in1.handled = none from I.ok.hd hc) st.2.1 st.2.2 hend hE }
    exact wpAny_pyNext_enum_endD D he ⟨rfl, hit, p'⟩ fun h' eb => ⟨rfl, I.turned (t' := s.toks) (fun b o hb q => eb b o hb q) f0 f1 f3 f4 f5⟩
  self := fun A i s Q E st h => let ⟨⟨_, he⟩, _⟩ := st; wpAny_pyIter_enum he h
def iEnumA (K : PySem.W.Frag) (te : TE) : TI := fun σ H R => te σ H fun v H1 => ∃ (a : Addr) (xs : List V), v = .ref a ∧ ((SqL K H1 a xs ∧ R (Ite K a) H1) ∨ (SqT K H1 a xs ∧ R (IteT K a) H1))
section
variable {X : Cx}
theorem pi_enumA {e : Expr} {te : TE} {p pos tpos : Pos} {elts : List Expr} {kk : Nat} (hg : Gl X "enumerate") (hm : X.mg "enumerate" = none) (he : PE X e te) (hs : starEach [e] X.env = (false, eval e X.env) :: starEach [] X.env := by rfl) :
    PI X (.Tuple elts kk tpos) (.Call (.Name "enumerate" p) [e] [] pos) (iEnumA X.K te) := by
  refine ⟨fun pins s σ H R I h => ?_⟩
  refine Call_ (ld_blt I hg hm boot_enumerate (PyProof.Rows.callWith_type1 (args_cons (thn (he.run pins s σ H _ I h) fun u s1 ⟨v, H1, I1, r1, q1⟩ => args_nil ?_) hs) hs rfl))
  obtain ⟨a, xs, ev, q⟩ := q1
  subst ev
  obtain rfl : u = Value.ref a := r1
  rcases q with ⟨hq, q⟩ | ⟨hq, q⟩
  · obtain ⟨its, rv, p', hz⟩ := I1.list hq
    refine call_enumerate_list p'.isList fun h' he hit hsz hk => wpAny_pyIter_enum he ?_
    have I2 : Inv X pins σ H1 { s1 with heap := h' } := I1.kept (t' := s1.toks) hk
    refine ⟨s1.heap.objs.size + 1, [s1.heap.objs.size + 1, s1.heap.objs.size], _, _, H1, rfl, I2, turn_enum a (s1.heap.objs.size + 1) s1.heap.objs.size, ⟨⟨.none, he⟩, hit, Nat.succ_ne_self _⟩, fun b hb => ?_, q⟩
    have e' : b = s1.heap.objs.size + 1 ∨ b = s1.heap.objs.size := by simpa using hb
    have hle : s1.heap.objs.size ≤ b := by
      rcases e' with z | z
      · rw [z]; exact Nat.le_add_right _ _
      · rw [z]; exact Nat.le_refl _
    exact I1.fpOk hle (I1.hok.fresh hle)
  · obtain ⟨its, rv, p', hz⟩ := I1.tuple hq
    have pt : s1.heap.IsTuple a its.toArray := p'
    have al : a < s1.heap.objs.size := by obtain ⟨o, q, _⟩ := pt; exact Heap.lt_size q
    refine call_enum1 (B := begins_tuple a its.toArray) pt fun h' he ho hsz hk => wpAny_pyIter_enum he ?_
    have hit : h'.IsTupleIter s1.heap.objs.size a 0 := ⟨_, ho, rfl, rfl⟩
    have I2 : Inv X pins σ H1 { s1 with heap := h' } := I1.kept (t' := s1.toks) hk
    refine ⟨s1.heap.objs.size + 1, [s1.heap.objs.size + 1, s1.heap.objs.size], _, _, H1, rfl, I2, turn_enumT a (s1.heap.objs.size + 1) s1.heap.objs.size (Nat.ne_of_lt al), ⟨⟨.none, he⟩, hit, Nat.succ_ne_self _, Nat.ne_of_lt (Nat.lt_succ_of_lt al)⟩, fun b hb => ?_, q⟩
    have e' : b = s1.heap.objs.size + 1 ∨ b = s1.heap.objs.size := by simpa using hb
    have hle : s1.heap.objs.size ≤ b := by
      rcases e' with z | z
      · rw [z]; exact Nat.le_add_right _ _
      · rw [z]; exact Nat.le_refl _
    exact I1.fpOk hle (I1.hok.fresh hle)
end
/-! ### data -/
def enumGo : Nat → List D → List D
  | _, [] => []
  | i, d :: ds => .tup [.int (i : Nat), d] :: enumGo (i + 1) ds
def enumD (ds : List D) : List D := enumGo 0 ds
theorem enumGo_get : ∀ (ds : List D) (k i : Nat), (enumGo k ds)[i]? = ds[i]?.map fun d => .tup [.int ((k + i : Nat) : Int), d]
  | [], k, i => rfl
  | d :: ds, k, 0 => rfl
  | d :: ds, k, i + 1 => by
    show (enumGo (k + 1) ds)[i]? = _
    rw [enumGo_get ds (k + 1) i, List.getElem?_cons_succ]
    have e : k + 1 + i = k + (i + 1) := by omega
    rw [e]
theorem enumD_len (ds : List D) : (enumD ds).length = ds.length := by
  have : ∀ (ds : List D) (k : Nat), (enumGo k ds).length = ds.length := by
    intro ds
    induction ds with
    | nil => intro k; rfl
    | cons d ds ih => intro k; show (enumGo (k + 1) ds).length + 1 = _; rw [ih, List.length_cons]
  exact this ds 0
def valsOf (d : D) : Option (List D) := match d with
  | .lst ds => some ds
  | .tup ds => some ds
  | _ => none
def iEnum (f : Ev) : EvS := fun env st => (f env st).bind fun a st1 => match valsOf a with
  | some ds => .ok (.vals (enumD ds)) st1
  | none => .no
def iRev (f : Ev) : EvS := fun env st => (f env st).bind fun a st1 => match valsOf a with
  | some ds => .ok (.vals ds.reverse) st1
  | none => .no
/-- i, i - 1, .. above j -/
def downGo : Nat → Int → List D
  | 0, _ => []
  | n + 1, i => .int i :: downGo n (i - 1)
def downOk (i j : Int) : Bool := decide (-1000000000000 < i) && (decide (i < 1000000000000) && (decide (-1000000000000 < j) && decide (j < 1000000000000)))
def iDown (f g h : Ev) : EvS := fun env st => (f env st).bind fun a st1 => (g env st1).bind fun b st2 => (h env st2).bind fun c st3 => match a with
  | .int i => match b with
    | .int j => match c with
      | .int k => if k = -1 then if downOk i j then .ok (.vals (downGo (i - j).toNat i)) st3 else .no else .no
      | _ => .no
    | _ => .no
  | _ => .no
theorem downGo_get : ∀ (n : Nat) (i : Int) (m : Nat), (downGo n i)[m]? = if m < n then some (.int (i + (m : Nat) * (-1))) else none
  | 0, i, m => by simp [downGo]
  | n + 1, i, 0 => by simp [downGo]
  | n + 1, i, m + 1 => by
    show (downGo n (i - 1))[m]? = _
    rw [downGo_get n (i - 1) m]
    by_cases h : m < n
    · rw [if_pos h, if_pos (by omega)]
      congr 2
      omega
    · rw [if_neg h, if_neg (by omega)]
theorem downGo_len : ∀ (n : Nat) (i : Int), (downGo n i).length = n
  | 0, i => rfl
  | n + 1, i => by show (downGo n (i - 1)).length + 1 = _; rw [downGo_len]
section
variable {W : Wd} {M : MW} {H : Hp} {K : PySem.W.Frag}
/-- a value whose items do not change -/
theorem rep_vals {d : D} {v : V} {ds : List D} (r : Rep W M H d v) (e : valsOf d = some ds) : ∃ a vs, v = .ref a ∧ Reps W M H ds vs ∧ ((Rd H a (.lst vs) ∧ ¬ M.mu a) ∨ H a = some (.tup vs)) := by
  cases r with
  | tup h r => cases e; exact ⟨_, _, rfl, r, .inr h⟩
  | lst h m r => cases e; exact ⟨_, _, rfl, r, .inl ⟨h, m⟩⟩
  | _ => cases e
theorem it_enum {a : Addr} {vs : List V} {ds : List D} {G : Hp → List V → Prop} {J : It} (hJ : J = ⟨fun i H => ∃ (xs : List V) (x : V), G H xs ∧ xs[i]? = some x, fun i H v H' => ∃ T x, v = .ref T ∧ H T = none ∧ H' = upd H T (.tup [.int (i : Nat), x]) ∧ ∀ xs, G H xs → xs[i]? = some x, fun i H => ∃ xs : List V, G H xs ∧ xs.length ≤ i⟩)
    (hG : ∀ M' H', Stp M H M' H' → G H' vs) (r : Reps W M H ds vs) : ItOk W M H (.vals (enumD ds)) J := by
  subst hJ
  intro i M' H' st es T S e
  cases e
  have r' := r.mono T
  rw [enumD_len]
  refine ⟨fun l => ?_, fun l => ⟨vs, hG _ _ T, by rw [← r.length]; exact l⟩⟩
  obtain ⟨v, ev, rv⟩ := r'.get (List.getElem?_eq_getElem l)
  refine ⟨⟨vs, v, hG _ _ T, ev⟩, fun x H'' y => ?_⟩
  obtain ⟨t, y, rfl, hn, rfl, hy⟩ := y
  have e2 := hy vs (hG _ _ T)
  rw [ev] at e2
  cases e2
  have k : ∀ a o, H' a = some o → upd H' t (.tup [.int (i : Nat), v]) a = some o := updNew hn
  refine ⟨k, _, ?_, .tup upd_same (.cons (.int _) (.cons (rv.mono (Stp.grow k)) .nil))⟩
  show (enumGo 0 ds)[i]? = _
  rw [enumGo_get, List.getElem?_eq_getElem l, Nat.zero_add]
  rfl
theorem it_rev {a : Addr} {vs : List V} {ds : List D} {G : Hp → List V → Prop} {J : It} (hJ : J = ⟨fun i H => i < vs.length ∧ ∃ (xs : List V) (x : V), G H xs ∧ xs[vs.length - 1 - i]? = some x, fun i H x H' => H' = H ∧ ∀ xs, G H xs → xs[vs.length - 1 - i]? = some x, fun i _ => vs.length ≤ i⟩)
    (hG : ∀ M' H', Stp M H M' H' → G H' vs) (r : Reps W M H ds vs) : ItOk W M H (.vals ds.reverse) J := by
  subst hJ
  intro i M' H' st es T S e
  cases e
  have r' := r.mono T
  have hl := r.length
  rw [List.length_reverse]
  refine ⟨fun l => ?_, fun l => by rw [← hl]; exact l⟩
  have l2 : ds.length - 1 - i < ds.length := by omega
  obtain ⟨v, ev, rv⟩ := r'.get (List.getElem?_eq_getElem l2)
  rw [hl] at ev
  refine ⟨⟨by rw [← hl]; exact l, vs, v, hG _ _ T, ev⟩, fun x H'' y => ?_⟩
  obtain ⟨rfl, hy⟩ := y
  have e2 := hy vs (hG _ _ T)
  rw [ev] at e2
  cases e2
  refine ⟨fun _ _ z => z, _, ?_, rv⟩
  rw [List.getElem?_reverse l, List.getElem?_eq_getElem l2]
end
section
variable {X : Cx} {W : Wd} {E : XK} {tg e a b c : Expr} {f g h : Ev} {p pos : Pos}
theorem di_enum {elts : List Expr} {kk : Nat} {tpos : Pos} (hg : Gl X "enumerate") (hm : X.mg "enumerate" = none) (he : DE X W E e f) (hs : starEach [e] X.env = (false, eval e X.env) :: starEach [] X.env := by rfl) :
    DI X W E (.Tuple elts kk tpos) (.Call (.Name "enumerate" p) [e] [] pos) (iEnum f) :=
  ⟨_, pi_enumA hg hm he hs, fun σ H Q ⟨M, env, st, S, q⟩ => ⟨M, env, st, S, Fin.bindI q fun d st1 M1 x H1 T1 S1 r1 q1 => by
    cases hv : valsOf d with
    | none => rw [hv] at q1; exact q1.elim
    | some ds =>
      rw [hv] at q1
      obtain ⟨a, vs, rfl, r, hh⟩ := rep_vals r1 hv
      refine ⟨a, vs, rfl, ?_⟩
      rcases hh with ⟨hh, hm⟩ | hh
      · exact .inl ⟨.inl hh, q1 M1 H1 _ .refl S1 (it_enum (a := a) (G := fun H xs => SqL X.K H a xs) rfl (fun M' H' T => .inl (T.rd hh hm)) r)⟩
      · exact .inr ⟨.inl (.inl hh), q1 M1 H1 _ .refl S1 (it_enum (a := a) (G := fun H xs => SqT X.K H a xs) rfl (fun M' H' T => .inl (.inl (T.keep _ _ hh (.inr (.inr notMutTup))))) r)⟩⟩⟩
theorem di_rev (hg : Gl X "reversed") (hm : X.mg "reversed" = none) (he : DE X W E e f) (hs : starEach [e] X.env = (false, eval e X.env) :: starEach [] X.env := by rfl) :
    DI X W E tg (.Call (.Name "reversed" p) [e] [] pos) (iRev f) :=
  ⟨_, RT.pi_revA hg hm he hs, fun σ H Q ⟨M, env, st, S, q⟩ => ⟨M, env, st, S, Fin.bindI q fun d st1 M1 x H1 T1 S1 r1 q1 => by
    cases hv : valsOf d with
    | none => rw [hv] at q1; exact q1.elim
    | some ds =>
      rw [hv] at q1
      obtain ⟨a, vs, rfl, r, hh⟩ := rep_vals r1 hv
      refine ⟨a, vs, rfl, ?_⟩
      rcases hh with ⟨hh, hm⟩ | hh
      · exact .inl ⟨.inl hh, q1 M1 H1 _ .refl S1 (it_rev (a := a) (G := fun H xs => SqL X.K H a xs) rfl (fun M' H' T => .inl (T.rd hh hm)) r)⟩
      · exact .inr ⟨.inl (.inl hh), q1 M1 H1 _ .refl S1 (it_rev (a := a) (G := fun H xs => SqT X.K H a xs) rfl (fun M' H' T => .inl (.inl (T.keep _ _ hh (.inr (.inr notMutTup))))) r)⟩⟩⟩
theorem di_down (hg : Gl X "range") (hm : X.mg "range" = none) (ha : DE X W E a f) (hb : DE X W E b g) (hc : DE X W E c h)
    (hs : starEach [a, b, c] X.env = (false, eval a X.env) :: starEach [b, c] X.env := by rfl) (hs2 : starEach [b, c] X.env = (false, eval b X.env) :: starEach [c] X.env := by rfl) (hs3 : starEach [c] X.env = (false, eval c X.env) :: starEach [] X.env := by rfl) (hpl : (backTo pos (starEach [b, c] X.env)).any (·.1) = false := by rfl) :
    DI X W E tg (.Call (.Name "range" p) [a, b, c] [] pos) (iDown f g h) :=
  ⟨_, pi_range3 hg hm (pa_cons ha (pa_cons hb (pa_cons hc pa_nil hs3) hs2) hs) hs hpl, fun σ H Q ⟨M, env, st, S, q⟩ => ⟨M, env, st, S, Fin.bindI q fun d1 st1 M1 x H1 T1 S1 r1 q1 => ⟨M1, env, st1, S1, Fin.bindI q1 fun d2 st2 M2 y H2 T2 S2 r2 q2 => ⟨M2, env, st2, S2, Fin.bindI q2 fun d3 st3 M3 z H3 T3 S3 r3 q3 => by
    cases d1 with
    | int i =>
      cases d2 with
      | int j =>
        cases d3 with
        | int k =>
          simp only at q3
          by_cases hk : k = -1
          · subst hk
            rw [if_pos rfl] at q3
            by_cases hd : downOk i j = true
            · rw [if_pos hd] at q3
              simp only [downOk, Bool.and_eq_true, decide_eq_true_eq] at hd
              cases r1; cases r2; cases r3
              refine ⟨i, j, -1, (i - j).toNat, rfl, RgC.neg (by omega) (by omega) (by omega) (by omega), q3 M3 H3 _ .refl S3 ?_⟩
              intro n M' H' st es T SS e
              cases e
              rw [downGo_len]
              refine ⟨fun l => ⟨l, fun x H'' y => ?_⟩, fun l => l⟩
              obtain ⟨rfl, rfl⟩ := y
              refine ⟨fun _ _ z => z, .int (i + (n : Nat) * (-1)), ?_, .int _⟩
              rw [downGo_get, if_pos l]
            · rw [if_neg hd] at q3; exact q3.elim
          · rw [if_neg hk] at q3; exact q3.elim
        | _ => exact q3.elim
      | _ => exact q3.elim
    | _ => exact q3.elim⟩⟩⟩⟩
end
end DL

set_option Elab.async false
set_option linter.all false
set_option maxRecDepth 100000
set_option maxHeartbeats 4000000
/-! DL18: default=, dicts, append, calls through a slot, statements that are not reached. -/
namespace DL
open PySem PySem.Spec PyProof.Rows L2
section
variable {X : Cx} {W : Wd} {E : XK} {x : PySem.Str} {p pos apos cpos kpos : Pos} {e o : Expr} {es : List Expr} {kws : List Keyword} {g kf : EvL} {f fo : Ev} {id : String} {ks : List PySem.Str} {r : List V → List V → Hp → VK → Prop} {op : Store → List D → List D → Option D} {nm : Option PySem.Str}
theorem dkw_one (h : DE X W E e f) : DKw X W E [⟨nm, e, kpos⟩] (aCons f aNil) :=
  (fun (z : PK X [⟨nm, e, kpos⟩] (tCons (lE W E f) tNil)) => ⟨fun pos pins s σ H Q I ⟨M, env, st, S, q⟩ => z.run pos pins s σ H Q I ⟨M, env, st, S, Fin.bind q fun d st1 M1 v H1 T1 S1 r1 q1 => q1 M1 [v] H1 .refl S1 (.cons r1 .nil)⟩⟩) (pk_cons h pk_nil)
theorem de_callBK (hc : CallRK X (.builtin id) ks r) (hd : CallKD W r op) (hg : Gl X x) (hm : X.mg x = none) (hv : bootBuiltins x = some (.builtin id)) (ha : DA X W E (e :: es) g) (hk : DKw X W E kws kf) (hn : x ≠ "__name__" := by decide) (hdb : (x == ("__debug__" : PySem.Str)) = false := by decide)
    (he : backTo pos (starEach (e :: es) X.env) = (false, eval e X.env) :: backTo pos (starEach es X.env) := by rfl) (hpl : (backTo pos (starEach (e :: es) X.env)).any (·.1) = false := by rfl)
    (hall : (backToKw pos (keywordEach kws X.env)).all (·.1.isSome) = true := by rfl) (hnone : (backToKw pos (keywordEach kws X.env)).any (·.1.isNone) = false := by rfl) (hks : (backToKw pos (keywordEach kws X.env)).filterMap (·.1) = ks := by rfl) :
    DE X W E (.Call (.Name x p) (e :: es) kws pos) (eCallBK op g kf) :=
  PEmono (pe_callBK hc hg hm hv ha hk hn hdb he hpl hall hnone hks) fun σ H Q ⟨M, env, st, S, q⟩ => ⟨M, env, st, S, Fin.bind q fun as st1 M1 vs H1 T1 S1 r1 q1 => ⟨M1, env, st1, S1, Fin.bind q1 fun zs st2 M2 ws H2 T2 S2 r2 q2 => hd E M2 σ H2 env st2 as zs vs ws Q S2 (r1.mono T2) r2 q2⟩⟩
/-! ### append -/
def isLst : Option Cell → Bool
  | some (.lst _) => true
  | _ => false
def eAppend (fo f : Ev) : Ev := fun env st => (fo env st).bind fun a st1 => match a with
  | .ref n => if isLst st1[n]? then (f env st1).bind fun d st2 => match st2[n]? with
      | some (.lst xs) => if sOk (xs.length + 1) then .ok .non (st2.set n (.lst (xs ++ [d]))) else .no
      | _ => .no
    else .no
  | _ => .no
/-- where a cell stands, a list stands -/
theorem SimS.lstAt {M : MW} {H : Hp} {st : Store} {n : Nat} {a : Addr} (S : SimS W M H st) (h : M.rho[n]? = some a) : ∃ c, st[n]? = some c ∧ CellOk W M H c a := by
  have l : n < st.length := by rw [← S.len]; exact (List.getElem?_eq_some_iff.mp h).1
  exact ⟨_, List.getElem?_eq_getElem l, S.cell n _ a (List.getElem?_eq_getElem l) h⟩
theorem Stp.rhoAt {M M' : MW} {H H' : Hp} {n : Nat} {a : Addr} (T : Stp M H M' H') (h : M.rho[n]? = some a) : M'.rho[n]? = some a := by
  obtain ⟨more, e⟩ := T.pre
  rw [e, List.getElem?_append_left (List.getElem?_eq_some_iff.mp h).1]
  exact h
theorem de_append (ho : DE X W E o fo) (he : DE X W E e f)
    (hbase : attributeBase o "append" X.env (eval o X.env) = eval o X.env := by rfl)
    (hfew : ((backTo cpos (starEach [e] X.env)).all (fun x => !x.1) && (backToKw cpos (keywordEach [] X.env)).all (fun x => x.1.isSome)
      && decide ([e].length + ([] : List Keyword).length + (if ([] : List Keyword).isEmpty then 0 else 1) < 30)) = true := by rfl)
    (hline : (apos.endLine == cpos.line) = true := by rfl) (hs : starEach [e] X.env = (false, eval e X.env) :: starEach [] X.env := by rfl) :
    DE X W E (.Call (.Attribute o "append" apos) [e] [] cpos) (eAppend fo f) :=
  PEmono (pe_bm PySem.F.plainAttrs_list PySem.F.slot_list_append PySem.F.type_list_append mt_append ho (pa_cons he pa_nil hs) hbase hfew hline hs) fun σ H Q ⟨M, env, st, S, q⟩ => ⟨M, env, st, S, by
    unfold eAppend at q
    refine Fin.bind q fun a st1 M1 v H1 T1 S1 r1 q1 => ?_
    cases r1 with
    | ref hn =>
      rename_i n p
      simp only at q1
      by_cases hl : isLst st1[n]? = true
      · rw [if_pos hl] at q1
        obtain ⟨c0, hc0, ok0⟩ := S1.s.lstAt hn
        refine ⟨?_, M1, env, st1, S1, Fin.bind q1 fun d st2 M2 w H2 T2 S2 r2 q2 => ?_⟩
        · rw [hc0] at hl
          cases ok0 with
          | lst h _ => exact .inl ⟨rfl, _, .inl (.inl h)⟩
          | dct h _ _ => cases hl
        · have hn2 : M2.rho[n]? = some p := T2.rhoAt hn
          obtain ⟨c2, hc2, ok2⟩ := S2.s.lstAt hn2
          rw [hc2] at q2
          cases ok2 with
          | dct h _ _ => exact q2.elim
          | lst h rr =>
            rename_i xs vs
            simp only at q2
            by_cases hk : sOk (xs.length + 1) = true
            · rw [if_pos hk] at q2
              have hz := sOk_le hk
              rw [rr.length] at hz
              obtain ⟨T3, S3⟩ := written S2.s (o := .lst (vs ++ [w])) (c := .lst (xs ++ [d])) hn2 (by rw [h]; trivial) trivial fun T => .lst upd_same ((rr.mono T).append (.cons (r2.mono T) .nil))
              exact ⟨p, vs, w, rfl, rfl, h, by omega, q2 M2 .non _ T3 (S2.step T3 S3) .non⟩
            · rw [if_neg hk] at q2; exact q2.elim
      · rw [if_neg hl] at q1; exact q1.elim
    | _ => exact q1.elim⟩
end
/-! ### dicts -/
def keyD : D → Option L2.Key
  | .int i => some (.inl i)
  | .str x => some (.inr x)
  | _ => none
def valD (kds : List (L2.Key × D)) (k : L2.Key) : Option D := match kds with
  | [] => none
  | kd :: r => if kd.1 = k then some kd.2 else valD r k
def putD (kds : List (L2.Key × D)) (k : L2.Key) (d : D) : List (L2.Key × D) := match kds with
  | [] => [(k, d)]
  | kd :: r => if kd.1 = k then (k, d) :: r else kd :: putD r k d
def opDGet (st : Store) (a b : D) : Option D := match a with
  | .ref n => match st[n]? with
    | some (.dct kds) => match keyD b with
      | some k => valD kds k
      | none => none
    | _ => none
  | _ => none
theorem keyD_kV {W : Wd} {M : MW} {H : Hp} {d : D} {v : V} {k : L2.Key} (r : Rep W M H d v) (h : keyD d = some k) : v = kV k := by
  cases r <;> cases h <;> rfl
theorem valD_rep {W : Wd} {M : MW} {H : Hp} {k : L2.Key} : ∀ {kds : List (L2.Key × D)} {kvs : List (L2.Key × V)} {d : D}, kds.map (·.1) = kvs.map (·.1) → Reps W M H (kds.map (·.2)) (kvs.map (·.2)) → valD kds k = some d → ∃ v, valV kvs k = some v ∧ Rep W M H d v
  | [], _, _, _, _, h => by cases h
  | kd :: kds, [], _, e, _, _ => by cases e
  | kd :: kds, kv :: kvs, d, e, r, h => by
    simp only [List.map_cons, List.cons.injEq] at e
    obtain ⟨e1, e2⟩ := e
    simp only [List.map_cons] at r
    cases r with
    | cons r1 r2 =>
      unfold valD at h
      by_cases q : kd.1 = k
      · rw [if_pos q] at h
        cases h
        exact ⟨kv.2, valV_pos (e1 ▸ q), r1⟩
      · rw [if_neg q] at h
        rw [valV_neg (fun z => q (e1.trans z))]
        exact valD_rep e2 r2 h
theorem putK_cons {p : L2.Key × V} {r : List (L2.Key × V)} {k : L2.Key} {v : V} (e : ¬ p.1 = k) : putK (p :: r) k v = p :: putK r k v := by
  unfold putK
  rw [List.any_cons]
  simp only [e, decide_false, Bool.false_or]
  split
  · rw [List.map_cons, if_neg e]
  · rfl
theorem putK_nodup {r : List (L2.Key × V)} {k : L2.Key} {v : V} (h : k ∉ r.map (·.1)) : r.map (fun kv => if kv.1 = k then (kv.1, v) else kv) = r := by
  induction r with
  | nil => rfl
  | cons p r ih =>
    simp only [List.map_cons, List.mem_cons, not_or] at h
    rw [List.map_cons, if_neg (fun z => h.1 z.symm), ih h.2]
/-- the keys are different -/
theorem putD_rep {W : Wd} {M : MW} {H : Hp} {k : L2.Key} {d : D} {v : V} (rd : Rep W M H d v) : ∀ {kds : List (L2.Key × D)} {kvs : List (L2.Key × V)}, (kds.map (·.1)).Nodup → kds.map (·.1) = kvs.map (·.1) → Reps W M H (kds.map (·.2)) (kvs.map (·.2)) →
    (putD kds k d).map (·.1) = (putK kvs k v).map (·.1) ∧ Reps W M H ((putD kds k d).map (·.2)) ((putK kvs k v).map (·.2))
  | [], kvs, _, e, r => by
    cases kvs with
    | nil => exact ⟨rfl, .cons rd .nil⟩
    | cons _ _ => cases e
  | kd :: kds, [], _, e, _ => by cases e
  | kd :: kds, kv :: kvs, nd, e, r => by
    simp only [List.map_cons, List.cons.injEq] at e
    obtain ⟨e1, e2⟩ := e
    simp only [List.map_cons] at r nd
    obtain ⟨nd1, nd2⟩ := List.nodup_cons.mp nd
    cases r with
    | cons r1 r2 =>
      unfold putD
      by_cases q : kd.1 = k
      · rw [if_pos q]
        have q' : kv.1 = k := e1 ▸ q
        have hp : putK (kv :: kvs) k v = (k, v) :: kvs := by
          unfold putK
          rw [List.any_cons]
          simp only [q', decide_true, Bool.true_or, if_true, List.map_cons]
          rw [putK_nodup (by rw [← e2, ← q]; exact nd1)]
        rw [hp]
        exact ⟨by simp only [List.map_cons, e2], .cons rd r2⟩
      · rw [if_neg q, putK_cons (fun z => q (e1.trans z))]
        obtain ⟨a1, a2⟩ := putD_rep rd nd2 e2 r2
        exact ⟨by simp only [List.map_cons, e1, a1], .cons r1 a2⟩
/-- are the keys different -/
def ndK (kds : List (L2.Key × D)) : Bool := match kds with
  | [] => true
  | kd :: r => (valD r kd.1).isNone && ndK r
theorem valD_none {k : L2.Key} : ∀ {r : List (L2.Key × D)}, valD r k = none → k ∉ r.map (·.1)
  | [], _ => by simp
  | kd :: r, h => by
    unfold valD at h
    by_cases q : kd.1 = k
    · rw [if_pos q] at h; cases h
    · rw [if_neg q] at h
      simp only [List.map_cons, List.mem_cons, not_or]
      exact ⟨fun z => q z.symm, valD_none h⟩
theorem ndK_nodup : ∀ {kds : List (L2.Key × D)}, ndK kds = true → (kds.map (·.1)).Nodup
  | [], _ => List.nodup_nil
  | kd :: r, h => by
    unfold ndK at h
    simp only [Bool.and_eq_true, Option.isNone_iff_eq_none] at h
    rw [List.map_cons, List.nodup_cons]
    exact ⟨valD_none h.1, ndK_nodup h.2⟩
def sDPutD (fd fk fv : Ev) : EvT := fun env st => (fv env st).bind fun v st1 => (fd env st1).bind fun a st2 => (fk env st2).bind fun b st3 => match a with
  | .ref n => match st3[n]? with
    | some (.dct kds) => match keyD b with
      | some k => if ndK kds && sOk (kds.length + 1) then .ok (.nx, env) (st3.set n (.dct (putD kds k v))) else .no
      | none => .no
    | _ => .no
  | _ => .no
def eAll : List Ev → EvL
  | [] => aNil
  | f :: fs => aCons f (eAll fs)
/-- {k: v, ..}: the cell stands empty while the values are made -/
def eDict (ks : List L2.Key) (fs : List Ev) : Ev := fun env st => (eAll fs env (st ++ [.dct []])).bind fun ds st1 => match st1[st.length]? with
  | some (.dct []) => if ds.length = ks.length then .ok (.ref st.length) (st1.set st.length (.dct (ks.zip ds))) else .no
  | _ => .no
section
variable {X : Cx} {W : Wd} {E : XK} {pos pos' : Pos} {e o i value : Expr} {f fo fv : Ev}
theorem od_dget {W : Wd} : OpD W (fun x y H Q => ∃ a v, x = .ref a ∧ DGet H a y (some v) ∧ Q v H) opDGet := fun E M σ H env st a b v w Q S ra rb q => by
  unfold opDGet at q
  cases ra with
  | ref hn =>
    rename_i n p
    simp only at q
    obtain ⟨c0, hc0, ok0⟩ := S.s.lstAt hn
    rw [hc0] at q
    cases ok0 with
    | lst _ _ => exact q.elim
    | dct h k r =>
      rename_i kds kvs
      simp only at q
      cases hk : keyD b with
      | none => rw [hk] at q; exact q.elim
      | some k0 =>
        rw [hk] at q
        simp only at q
        cases hv : valD kds k0 with
        | none => rw [hv] at q; exact q.elim
        | some d =>
          rw [hv] at q
          obtain ⟨v, ev, rv⟩ := valD_rep k r hv
          exact ⟨p, v, rfl, .inl ⟨kvs, k0, .inl h, keyD_kV rb hk, ev.symm⟩, Fin.give q S rv⟩
  | _ => exact q.elim
theorem de_dget (hu : X.A.units + 1 < cLine) (ho : DE X W E o fo) (hi : DE X W E i f) (hs : NoSl i := by exact fun _ _ => rfl) : DE X W E (.Subscript o i pos) (eOp opDGet fo f) :=
  PEmono (pe_dget hu ho hi hs) fun σ H Q q => lift_bin od_dget q
theorem ds_dput (hu : X.A.units + 1 < cLine) (ho : DE X W E o fo) (hi : DE X W E i f) (hv : DE X W E value fv) (hs : swapsWith value (some (.Subscript o i pos')) pos.line X.env = pure false := by rfl) :
    DS X W E (.Assign [.Subscript o i pos'] value pos) (sDPutD fo f fv) :=
  PSmono (ps_dput hu ho hi hv hs) fun D0 σ H ⟨M, env, st, S, q⟩ => ⟨M, env, st, S, Fin.bindS q fun d1 st1 M1 v1 H1 T1 S1 r1 q1 => ⟨M1, env, st1, S1, Fin.bindS q1 fun d2 st2 M2 v2 H2 T2 S2 r2 q2 => ⟨M2, env, st2, S2, Fin.bindS q2 fun d3 st3 M3 v3 H3 T3 S3 r3 q3 => by
    cases r2 with
    | ref hn2 =>
      rename_i n p
      simp only at q3
      have hn := T3.rhoAt hn2
      obtain ⟨c0, hc0, ok0⟩ := S3.s.lstAt hn
      rw [hc0] at q3
      cases ok0 with
      | lst _ _ => exact q3.elim
      | dct h k r =>
        rename_i kds kvs
        simp only at q3
        cases hk : keyD d3 with
        | none => rw [hk] at q3; exact q3.elim
        | some k0 =>
          rw [hk] at q3
          simp only at q3
          by_cases hz : (ndK kds && sOk (kds.length + 1)) = true
          · rw [if_pos hz] at q3
            simp only [Bool.and_eq_true] at hz
            obtain ⟨hz1, hz2⟩ := hz
            have hz3 := sOk_le hz2
            have hl : kds.length = kvs.length := by simpa using congrArg List.length k
            have nd := ndK_nodup hz1
            have rd := (r1.mono T2).mono T3
            obtain ⟨T4, S4⟩ := written S3.s (o := .dK (putK kvs k0 v1)) (c := .dct (putD kds k0 d1)) hn (by rw [h]; trivial) trivial fun T =>
              .dct upd_same (putD_rep rd nd k r).1 ((putD_rep rd nd k r).2.mono T)
            exact ⟨p, _, rfl, .inl ⟨kvs, k0, h, keyD_kV r3 hk, by omega, rfl⟩, q3 M3 σ _ T4 (S3.step T4 S4)⟩
          · rw [if_neg hz] at q3; exact q3.elim
    | _ => exact q3.elim⟩⟩⟩
/-- the pairs of a display -/
def prs (W : Wd) (E : XK) (l : List (L2.Key × Ev)) : List (TE × TE) := l.map fun q => (tC (kV q.1), lE W E q.2)
theorem lift_pairs {σ : L2.St} {env : Ent} : ∀ (l : List (L2.Key × Ev)) (M : MW) (H : Hp) (st : Store) (Q0 : List V → Hp → Prop) (Q : List (V × V) → Hp → Prop), Sim W M σ H env st → Fin W E (relDs W) σ env (eAll (l.map (·.2)) env st) M H Q0 →
    (∀ vs H', Q0 vs H' → Q ((l.map fun q => kV q.1).zip vs) H') → tPairs (prs W E l) σ H Q
  | [], M, H, st, Q0, Q, S, q, h => h [] H (q M [] H .refl S .nil)
  | (k, f) :: l, M, H, st, Q0, Q, S, q, h => ⟨M, env, st, S, Fin.bind q fun d st1 M1 v H1 T1 S1 r1 q1 =>
      lift_pairs l M1 H1 st1 (fun vs H' => Q0 (v :: vs) H') _ S1 (Fin.bind q1 fun ds st2 M2 vs H2 T2 S2 r2 q2 => q2 M2 (v :: vs) H2 .refl S2 (.cons (r1.mono T2) r2)) fun vs H' z => h (v :: vs) H' z⟩
theorem mergeK_new : ∀ (kvs acc : List (L2.Key × V)), ((acc ++ kvs).map (·.1)).Nodup → mergeK acc kvs = acc ++ kvs
  | [], acc, _ => by simp [mergeK]
  | kv :: kvs, acc, nd => by
    have e : putK acc kv.1 kv.2 = acc ++ [kv] := by
      unfold putK
      rw [if_neg]
      intro z
      obtain ⟨p, hp, hq⟩ := List.any_eq_true.mp z
      rw [List.map_append, List.nodup_append] at nd
      exact nd.2.2 p.1 (List.mem_map_of_mem hp) kv.1 (by simp) (of_decide_eq_true hq)
    show mergeK (putK acc kv.1 kv.2) kvs = _
    rw [e, mergeK_new kvs (acc ++ [kv]) (by simpa using nd)]
    simp
theorem eAll_len : ∀ (fs : List Ev) env st ds st1, eAll fs env st = .ok ds st1 → ds.length = fs.length
  | [] => len_nil
  | f :: fs => len_cons (eAll_len fs)
theorem de_dict {keys : List (Option Expr)} {values : List Expr} {l : List (L2.Key × Ev)} (hp : PPs X pos keys values (prs W E l)) (hall : keys.all (·.isSome) = true := by rfl) (hl : keys.length = values.length := by rfl) (h0 : keys ≠ [] := by simp) (h15 : keys.length ≤ 15 := by decide)
    (nd : (l.map (·.1)).Nodup := by decide) (hl15 : l.length ≤ 15 := by decide) : DE X W E (.Dict keys values pos) (eDict (l.map (·.1)) (l.map (·.2))) :=
  PEmono (pe_disp hp hall hl h0 h15) fun σ H Q ⟨M, env, st, S, q⟩ p hpn => by
    obtain ⟨T0, S0⟩ := celled S.s (o := .dK []) (c := .dct []) hpn fun M' T => .dct (kds := []) (kvs := []) upd_same rfl .nil
    have SS := S.step T0 S0
    have q := Fin.step T0 q
    have hr : (⟨fun a => M.mu a ∨ a = p, M.rho ++ [p]⟩ : MW).rho[st.length]? = some p := by
      show (M.rho ++ [p])[st.length]? = _
      rw [List.getElem?_append_right (by rw [S.s.len]; exact Nat.le_refl _), S.s.len]
      simp
    unfold eDict at q
    cases hf : eAll (l.map (·.2)) env (st ++ [.dct []]) with
    | no => rw [hf] at q; exact q.elim
    | ex c xs s =>
      rw [hf] at q
      exact lift_pairs l _ _ _ (fun _ _ => False) _ SS (by rw [hf]; exact q) fun _ _ z => z.elim
    | ok ds st1 =>
      rw [hf] at q
      have hlen := eAll_len _ _ _ _ _ hf
      refine lift_pairs l _ _ _ (fun vs H' => ∃ (M' : MW), Stp ⟨fun a => M.mu a ∨ a = p, M.rho ++ [p]⟩ (upd H p (.dK [])) M' H' ∧ Sim W M' σ H' env st1 ∧ Reps W M' H' ds vs) _ SS (by
        rw [hf]
        exact fun M' vs H' T S' r => ⟨M', T, S', r⟩) ?_
      rintro vs H' ⟨M', T, S', r⟩
      have q := Fin.step T q
      simp only [R.bind] at q
      have hn := T.rhoAt hr
      obtain ⟨c0, hc0, ok0⟩ := S'.s.lstAt hn
      rw [hc0] at q
      cases ok0 with
      | lst _ _ => exact q.elim
      | dct h k rr =>
        rename_i kds kvs
        cases kds with
        | cons _ _ => exact q.elim
        | nil =>
          have ek : kvs = [] := by
            cases kvs with
            | nil => rfl
            | cons _ _ => cases k
          subst ek
          simp only at q
          by_cases hq : ds.length = (l.map (·.1)).length
          · rw [if_pos hq] at q
            have lv := r.length
            have e1 : ((l.map (·.1)).zip vs).map (·.1) = l.map (·.1) := List.map_fst_zip (by omega)
            have e2 : ((l.map (·.1)).zip vs).map (·.2) = vs := List.map_snd_zip (by omega)
            have e3 : ((l.map (·.1)).zip ds).map (·.1) = l.map (·.1) := List.map_fst_zip (by omega)
            have e4 : ((l.map (·.1)).zip ds).map (·.2) = ds := List.map_snd_zip (by omega)
            refine ⟨h, (l.map (·.1)).zip vs, ?_, ?_, ?_⟩
            · rw [show (l.map fun q => kV q.1) = (l.map (·.1)).map kV by rw [List.map_map]; rfl, List.zip_map_left]
              rfl
            · rw [List.length_zip, List.length_map]; omega
            · rw [mergeK_new _ [] (by rw [List.nil_append, e1]; exact nd), List.nil_append]
              obtain ⟨T4, S4⟩ := written S'.s (o := .dK ((l.map (·.1)).zip vs)) (c := .dct ((l.map (·.1)).zip ds)) hn (by rw [h]; trivial) trivial fun T =>
                .dct upd_same (by rw [e1, e3]) (by rw [e2, e4]; exact r.mono T)
              exact q M' (.ref p) _ T4 (S'.step T4 S4) (.ref hn)
          · rw [if_neg hq] at q; exact q.elim
end
/-! ### calls through a slot -/
def eCallS (i : Nat) (tbl : Nat → Option (List D → Store → R D)) (as : EvL) : Ev := fun env st => match env[i]? with
  | some (some (.fn m)) => match tbl m with
    | some g => (as env st).bind fun ds st1 => R.ofO (appP g ds) st1
    | none => .no
  | _ => .no
section
variable {X : Cx} {W : Wd} {E : XK} {s : Stmt} {e : Expr}
theorem ds_no : DS X W E s (fun _ _ => .no) := ⟨fun pins s σ H D I ⟨M, env, st, S, q⟩ => q.elim⟩
theorem de_no : DE X W E e (fun _ _ => .no) := ⟨fun pins s σ H D I ⟨M, env, st, S, q⟩ => q.elim⟩
end
section
variable {X : Cx} {T : CXT} {W : Wd} {E : XK} {k lv i n : Nat} {x : PySem.Str} {as : EvL} {e : Expr} {es : List Expr} {p pos : Pos} {tbl : Nat → Option (List D → Store → R D)}
theorem de_callS (C : ∀ m g, tbl m = some g → ∃ y, Cal X.prog X.w X.K X.mg X.base T W lv y m n g) (fr : Free k X.A) (hx : Passes T X E) (hN : X.N[i]? = some x) (hv : Vis X.env.scope x) (ha : DA X W E (e :: es) as) (hk : lv ≤ k := by decide) (hn : (e :: es).length = n := by rfl)
    (hdb : (x == ("__debug__" : PySem.Str)) = false := by decide) (hcd : (x == ("__classdict__" : PySem.Str)) = false := by decide) (he : starEach (e :: es) X.env = (false, eval e X.env) :: starEach es X.env := by rfl) (hpl : (backTo pos (starEach es X.env)).any (·.1) = false := by rfl)
    (hlen : LenA as n) :
    DE X W E (.Call (.Name x p) (e :: es) [] pos) (eCallS i tbl as) := by
  refine ⟨fun pins s σ H Q I ⟨M, env, st, S, q⟩ => ?_⟩
  unfold eCallS at q
  cases e1 : env[i]? with
  | none => rw [e1] at q; exact q.elim
  | some o =>
    cases o with
    | none => rw [e1] at q; exact q.elim
    | some d =>
      rw [e1] at q
      obtain ⟨v, hv1, rv⟩ := S.var i d e1
      cases rv with
      | fn m =>
        simp only at q
        cases ht : tbl m with
        | none => rw [ht] at q; exact q.elim
        | some g =>
          rw [ht] at q
          obtain ⟨y, fd, ps, G, hm, hkp, hb⟩ := C m g ht
          refine (ge_callS G (fr.mono hk) hN hv hkp hb hx ha hdb hcd he hpl).run pins s σ H Q I ⟨hv1, M, env, st, S, ?_⟩
          simp only at q
          cases hf : as env st with
          | ex c xs s => rw [hf] at q; exact q
          | no => rw [hf] at q; exact q
          | ok ds st1 =>
            rw [hf] at q
            intro M1 vs H1 T1 S1 r1
            exact callP S1 r1 (Fin.step T1 q) (r1.length.symm.trans (hlen _ _ _ _ hf))
      | _ => exact q.elim
end
end DL

set_option Elab.async false
set_option linter.all false
set_option maxRecDepth 100000
set_option maxHeartbeats 4000000
/-! DL19: truth of any value; what a def's body has at hand. -/
namespace DL
open PySem PySem.Spec PyProof.Rows L2
def truD (st : Store) (d : D) : Option Bool := match d with
  | .non => some false
  | .bl k => some k
  | .int i => some (i != 0)
  | .tup xs => some (!xs.isEmpty)
  | .lst xs => some (!xs.isEmpty)
  | .ref n => match st[n]? with
    | some (.lst xs) => some (!xs.isEmpty)
    | some (.dct kds) => some (!kds.isEmpty)
    | none => none
  | _ => none
def tTru (f : Ev) : EvB := fun env st => (f env st).bind fun a st1 => R.ofO (truD st1 a) st1
section
variable {X : Cx} {W : Wd} {E : XK} {a : Expr} {f : Ev}
theorem Reps.isEmpty {M : MW} {H : Hp} {ds : List D} {vs : List V} (r : Reps W M H ds vs) : ds.isEmpty = vs.isEmpty := by cases r <;> rfl
theorem dt_tru (h : DE X W E a f) (he : ∀ whole, isTrue a X.env whole = (do let v ← whole; standAt a.pos; holding [v] (truthy v)) := by intro _; rfl) : DT X W E a (tTru f) :=
  PTmono (pt_truth h he) fun σ H Q ⟨M, env, st, S, q⟩ => ⟨M, env, st, S, Fin.bind q fun d st1 M1 v H1 T1 S1 r1 q1 => by
    cases ht : truD st1 d with
    | none => rw [ht] at q1; exact q1.elim
    | some k =>
      rw [ht] at q1
      refine ⟨k, ?_, q1 M1 k H1 .refl S1 rfl⟩
      cases r1 with
      | non => cases ht; rfl
      | bl b => cases ht; rfl
      | int i => cases ht; rfl
      | str _ => cases ht
      | fn _ => cases ht
      | tup h r => cases ht; rw [r.isEmpty]; exact .inr (.inl ⟨_, .inl (.inl h), rfl⟩)
      | lst h m r => cases ht; rw [r.isEmpty]; exact .inl ⟨_, .inl h, rfl⟩
      | ref hn =>
        obtain ⟨c0, hc0, ok0⟩ := S1.s.lstAt hn
        simp only [truD, hc0] at ht
        cases ok0 with
        | lst h r => cases ht; rw [r.isEmpty]; exact .inl ⟨_, .inl (.inl h), rfl⟩
        | dct h k r =>
          rename_i kds kvs
          cases ht
          have : kds.isEmpty = kvs.isEmpty := by cases kds <;> cases kvs <;> first | rfl | cases k
          rw [this]
          exact .inr (.inr ⟨_, h, rfl⟩)⟩
end
section
variable {P : Program} {w : World} {K : PySem.W.Frag} {mg : PySem.Str → Option Value} {base : Heap} {N : List PySem.Str} {qual : PySem.Str} {scope : Scope} {fa : Addr} {cdv : Value} {B : Around} {up : List Env} {z : Shared} {H : Hp} {E : XK}
theorem px : Passes (L2.CX P w) (cxOf (L2.CX P w) P w K mg base N qual scope fa cdv B up z H E) E := passes_call (takes_of rfl rfl rfl rfl) fun _ _ _ _ h => h
theorem pown : PassesOwn (model P w) (B.deeper (envOfC qual scope z.heap.objs.size fa cdv)) (envOfC qual scope z.heap.objs.size fa cdv) (cxOf (L2.CX P w) P w K mg base N qual scope fa cdv B up z H E).xe := passes_of (X := cxOf (L2.CX P w) P w K mg base N qual scope fa cdv B up z H E) rfl
theorem Cal.at_ {T : CXT} {W : Wd} {k : Nat} {x : PySem.Str} {i n : Nat} {g : List D → Store → R D} (C : Cal P w K mg base T W k x i n g) : mg x = some (.ref (W.F i)) := let ⟨_, _, _, h, _⟩ := C; h
theorem Cal.lift {T : CXT} {W : Wd} {j k : Nat} {x : PySem.Str} {i n : Nat} {g : List D → Store → R D} (C : Cal P w K mg base T W j x i n g) (h : j ≤ k) : Cal P w K mg base T W k x i n g := let ⟨fd, ps, G, r⟩ := C; ⟨fd, ps, G.mono h, r⟩
theorem _root_.L2.Room.units1 {k : Nat} {A : Around} (r : Room k A) : A.units + 1 < cLine := by have := r.un; omega
theorem noCX {H : Hp} {s : Shared} {e : Value} {s' : Shared} {up : List Env} : L2.CX P w up H s (fun _ _ _ => False) e s' → False := fun ⟨_, _, _, _, _, _, _, _, _, _, _, _, h⟩ => h
end
end DL

set_option Elab.async false
set_option linter.all false
set_option maxRecDepth 100000
set_option maxHeartbeats 4000000
/-! DL20: sorted over a tuple. -/
namespace DL
open PySem PySem.Spec PyProof.Rows L2 PySem.W
section
variable {prog : Program} {w : World} {A : Around} {E : Value → Shared → Prop} {s : Shared}
/-- the heap behind collect: a list of the items is left -/
def gath (h : Heap) (vs : List Value) : Heap := (h.push (seqObj "list" #[] 0)).update h.objs.size (Obj.mapSeq (· ++ vs.toArray))
theorem collect_tup {t : Addr} {vs : List Value} {Q : List Value → Shared → Prop} (ht : IsTup s.heap t vs.toArray) (hz : vs.length ≤ sizeLine) (h : Q vs { s with heap := gath s.heap vs }) : wpAny (model prog w) A (collect (.ref t)) Q E s := by
  obtain ⟨o, ho, hc, n, hd⟩ := ht
  have hz' : vs.toArray.size ≤ sizeLine := by rw [List.size_toArray]; exact hz
  unfold collect
  refine wpAny_bind ?_
  apply wpAny_runValue
  apply codeAny_builtin F.entry_proto_collect
  rw [Around.under_plainId F.plain_proto_collect _]
  show wpAny _ A.in1 (newList [] >>= fun l => again (.builtin "list.__iadd__" ⟨[l, .ref t], []⟩)) _ _ s
  refine wpAny_bind (wpAny_newObj_type ?_)
  refine wpAny_pure ⟨plainId_quiet F.plain_list_iadd _, ?_⟩
  apply codeAny_builtin F.entry_list_iadd
  rw [Around.under_plainId F.plain_list_iadd _]
  show wpAny _ A.in1 (Builtin.List.listExtendWith (.ref s.heap.objs.size) (.ref t) (.ref s.heap.objs.size)) _ _ _
  have e0 : (s.heap.push { cls := .type "list", data := .seq ([] : List Value).toArray }).get? s.heap.objs.size = some { cls := .type "list", data := .seq #[] 0 } := Heap.get?_push_size _ rfl
  have e1 := Heap.get?_update_self (Obj.mapSeq (· ++ vs.toArray)) e0 rfl
  have last : wpAny (model prog w) A (match Value.ref s.heap.objs.size with
      | Value.ref a => do
        match (← load a).data with
          | Data.seq xs _ => pure xs.toList
          | _ => unsupported "internal:collect"
      | _ => unsupported "internal:collect") Q E { s with heap := gath s.heap vs } := by
    show wpAny _ A (load s.heap.objs.size >>= _) _ _ _
    refine wpAny_bind (wpAny_load e1 (wpAny_pure ?_))
    show Q ((#[] : Array Value) ++ vs.toArray).toList _
    rw [show ((#[] : Array Value) ++ vs.toArray).toList = vs by simp]
    exact h
  refine wpAny_mono (wpAny_extend_seq (hsz := hz') (A := A) (R := fun r s' => r = .ok (.ret (.ref s.heap.objs.size)) ∧ s' = { s with heap := gath s.heap vs })
    (s := { s with heap := s.heap.push { cls := .type "list", data := .seq ([] : List Value).toArray } }) _ t _ 0 (.inr rfl) e0 (Heap.get?_push_of_some _ ho) hc hd ⟨rfl, rfl⟩) (fun fin s' q => ?_) (fun e s' q => absurd q.1 (by simp))
  cases fin with
  | done f => obtain ⟨e, rfl⟩ := q; cases e; exact last
  | again c' => exact ⟨q.1, codeAny_mono q.2 fun r s2 ⟨z1, z2⟩ => by subst z1 z2; exact last⟩
theorem sortedT_vals {κ : PyProof.Rows.KeyKind} {t : Addr} {vs : List Value} {Q : Value → Shared → Prop} (ht : IsTup s.heap t vs.toArray) (S : SortsAt prog w A.in1.in1 { s with heap := sortingHeap (copyHeap s.heap vs) (s.heap.objs.size + 1) vs } κ vs) (hL : vs.length ≤ sizeLine)
    (h : Q (.ref (s.heap.objs.size + 1)) { s with heap := sortedAll s.heap vs (sortVals κ false vs vs).toArray }) : wpAny (model prog w) A (call (.builtin "sorted") [.ref t]) Q E s := by
  refine call_function_entry_kw kind_sorted plain_sorted entry_sorted (args_sorted1 _) ?_
  unfold Builtin.«sorted»
  refine wpAny_bind (m := checkCount "sorted" 1 1 _) (wpAny_pure ?_)
  refine wpAny_bind (collect_tup ht hL ?_)
  refine wpAny_bind ?_
  refine wpAny_newList ?_ hL
  have hsz : (gath s.heap vs).objs.size = s.heap.objs.size + 1 := by
    unfold gath
    rw [Heap.size_update, size_push']
  show wpAny _ _ _ _ _ { s with heap := copyHeap s.heap vs }
  rw [hsz]
  refine wpAny_bind (wpAny_holding ?_)
  refine wpAny_call_entry_kw slot_list_sort ⟨_, copyHeap_at s.heap vs, rfl⟩ entry_list_sort ?_ (args_list_sort _)
  show wpAny _ A.in1.in1 (Builtin.«list.sort» ⟨[.ref (s.heap.objs.size + 1)], []⟩) _ _ _
  refine wpAny_mono (list_sort_vals (P := fun f s' => f = .done (.ret .none) ∧ Q (.ref (s.heap.objs.size + 1)) s') (s := { s with heap := copyHeap s.heap vs }) (copyHeap_at s.heap vs) S hL ⟨rfl, h⟩) (fun f s' hf => ?_) fun _ _ e => e
  obtain ⟨rfl, q⟩ := hf
  exact ⟨_, rfl, wpAny_pure ⟨_, rfl, q⟩⟩
theorem sortedT_data {β : Type} {R : Value → β → Prop} {enc : β → PyData} {bs : List β} {vs : List Value} {t : Addr} {Q : Value → Shared → Prop} (ht : IsTup s.heap t vs.toArray) (e : EachIs R vs bs) (er : EachIs (fun v b => ∃ as, Reads s.heap v (enc b) as) vs bs) (hal : AllAlike (bs.map enc)) (hk : Sortable (bs.map enc)) (hL : bs.length ≤ sizeLine)
    (hu : ∀ b, b ∈ bs → A.units + 2 + (enc b).depth < cLine) (h : ∀ out, out.length = bs.length → EachIs R out (bs.mergeSort (dataLe false enc)) → Q (.ref (s.heap.objs.size + 1)) { s with heap := sortedAll s.heap vs (List.toArray out) }) :
    wpAny (model prog w) A (call (.builtin "sorted") [.ref t]) Q E s := by
  have er2 := er.mono (R' := fun v b => ∃ as, Reads (sortingHeap (copyHeap s.heap vs) (s.heap.objs.size + 1) vs) v (enc b) as) fun _ _ ⟨as, r⟩ => ⟨as, PyProof.Rows.Reads.keeps (fun _ _ => sorting_copy_old) r⟩
  have SS := SortsAt.data (prog := prog) (w := w) (A := A.in1.in1) (s := { s with heap := sortingHeap (copyHeap s.heap vs) (s.heap.objs.size + 1) vs }) (each_map (R := fun v d => ∃ as, Reads (sortingHeap (copyHeap s.heap vs) (s.heap.objs.size + 1) vs) v d as) enc er2) hal hk (bound_map hu)
  exact sortedT_vals ht SS (by rw [e.length]; exact hL) (h _ (by rw [sortVals_length false rfl]; exact e.length) (sortVals_data false e er2 hal))
end
def rSortT (K : PySem.W.Frag) : List V → Hp → VK → Prop := fun vs H Q => ∃ (a : Addr) (ys : List V) (ds : List D) (RR : D → V → Prop), vs = [.ref a] ∧ SqT K H a ys ∧ ds.length ≤ sizeLine ∧ Paired RR ds ys ∧ (∀ d y, RR d y → fit d 40 = true → Dp K H y (toP d)) ∧ sortOk ds = true ∧
  ∀ ys' p, Paired RR (isort dle ds) ys' → H p = none → Q (.ref p) (upd H p (.lst ys'))
theorem cr_sortT {X : Cx} (hu : X.A.units + 64 < cLine) : CallR X (.builtin "sorted") (rSortT X.K) := by
  rintro pins s σ H vs us Q I r ⟨a, ys, ds, RR, rfl, hs, hz, pr, hdp, ok, q⟩
  obtain ⟨its, rv, hl, _⟩ := I.tuple hs
  rw [Vals.ref1 r]
  have len : ds.length = ys.length := Paired.length pr
  have e1 : (ds.zip ys).map (fun b => b.1) = ds := zip_fst len
  have ok' : sortOk ((ds.zip ys).map (fun b => b.1)) = true := by rw [e1]; exact ok
  have ez := each_zip (RV := RelV) len rv
  have fitz : ∀ b ∈ ds.zip ys, fit b.1 40 = true := fun b hb => (sortOk_fit ok (by rw [← e1]; exact List.mem_map_of_mem hb)).1
  refine sortedT_data (R := fun u b => RelV b.2 u) (enc := fun b : D × V => toP b.1) (bs := ds.zip ys) hl ez (each_imp ez fun u b hb ru => ?_) (sortOk_alike (enc := fun b : D × V => b.1) ok') (sortOk_sortable (enc := fun b : D × V => b.1) ok') ?_ (fun b hb => ?_) fun out h1 h2 => ?_
  · obtain ⟨as, rr⟩ := Dp.reads I _ _ _ (hdp b.1 b.2 (paired_zip pr b hb) (fitz b hb)) ru
    exact ⟨as, rr⟩
  · rw [List.length_zip, len, Nat.min_self, ← len]; exact hz
  · have := (plain_toP b.1 40 (fitz b hb)).2
    omega
  · obtain ⟨ep, he'⟩ := PyProof.Rows.sortedAll_at s.heap its out.toArray
    have es : (ds.zip ys).mergeSort (PySem.W.dataLe false (fun b : D × V => toP b.1)) = isort (fun a b : D × V => dle a.1 b.1) (ds.zip ys) := by
      rw [← isort_eq dataLe_total]
      refine isort_congr fun a ha b hb => ?_
      rw [PySem.W.dataLe_eq]
      show (!PySem.W.dataLt (toP b.1) (toP a.1)) = !dlt b.1 a.1
      have ma : a.1 ∈ ds := by rw [← e1]; exact List.mem_map_of_mem ha
      have mb : b.1 ∈ ds := by rw [← e1]; exact List.mem_map_of_mem hb
      rw [dataLt_toP _ _ 40 40 (fitz b hb) (fitz a ha) ((sortOk_fit ok mb).2 _ ma)]
    rw [es] at h2
    have ef : (isort (fun a b : D × V => dle a.1 b.1) (ds.zip ys)).map (·.1) = isort dle ds := by
      have gen : ∀ l : List (D × V), (isort (fun a b : D × V => dle a.1 b.1) l).map (·.1) = isort dle (l.map (·.1)) := by
        intro l
        induction l with
        | nil => rfl
        | cons x l ih =>
          show (ins _ x (isort _ l)).map (·.1) = ins dle x.1 (isort dle (l.map (·.1)))
          rw [← ih]
          generalize isort (fun a b : D × V => dle a.1 b.1) l = m
          induction m with
          | nil => rfl
          | cons y m ih2 =>
            unfold ins
            rw [List.map_cons]
            by_cases h : dle x.1 y.1 = true
            · rw [if_pos h]
              show x.1 :: y.1 :: m.map (·.1) = if dle x.1 y.1 = true then _ else _
              rw [if_pos h]
            · rw [if_neg h, List.map_cons, ih2]
              show y.1 :: ins dle x.1 (m.map (·.1)) = if dle x.1 y.1 = true then _ else _
              rw [if_neg h]
      rw [gen, e1]
    have vv := each_vals h2
    have pp : Paired RR (isort dle ds) ((isort (fun a b : D × V => dle a.1 b.1) (ds.zip ys)).map (·.2)) := by
      rw [← ef]
      exact paired_map fun p hp => paired_zip pr p (isort_mem.mp hp)
    refine ⟨.ref _, upd H (s.heap.objs.size + 1) (.lst ((isort (fun a b : D × V => dle a.1 b.1) (ds.zip ys)).map (·.2))), I.laid (t' := s.toks) (fun _ _ => PyProof.Rows.sortedAll_old) (Nat.le_succ _) ⟨?_, out, ep, vv, by simpa using he'⟩, rfl, q _ _ pp (I.hok.fresh (Nat.le_succ _))⟩
    rw [List.length_map, isort_length, List.length_zip, ← len, Nat.min_self]
    exact hz
def opSortB (st : Store) (as : List D) : Option (List D) := match as with
  | [x] => match items st x with
    | some ds => if sortOk ds && sOk ds.length then some (isort dle ds) else none
    | none => none
  | _ => none
theorem cn_sortB {W : Wd} {K : PySem.W.Frag} : CallN W (fun vs H Q => rSortA K vs H Q ∨ rSortT K vs H Q) opSortB := by
  intro E M σ H env st as vs Q S rs h
  match as, rs, h with
  | [x], .cons r .nil, h =>
    simp only [opSortB] at h
    cases e : items st x with
    | none => rw [e] at h; exact h.elim
    | some ds =>
      rw [e] at h
      simp only at h
      by_cases ok : (sortOk ds && sOk ds.length) = true
      · rw [if_pos ok] at h
        rw [Bool.and_eq_true] at ok
        obtain ⟨p, ys, rfl, rr, sq⟩ := rep_items (K := K) S.s r e
        rcases sq with sq | sq
        · exact .inl ⟨p, ys, ds, fun d y => Rep W M H d y, rfl, sq, sOk_le ok.2, reps_paired rr, fun d y ry f => ry.dp f, ok.1, fun ys' z pz hz => h.give S (paired_reps pz) z hz⟩
        · exact .inr ⟨p, ys, ds, fun d y => Rep W M H d y, rfl, sq, sOk_le ok.2, reps_paired rr, fun d y ry f => ry.dp f, ok.1, fun ys' z pz hz => h.give S (paired_reps pz) z hz⟩
      · rw [if_neg ok] at h; exact h.elim
  | [], _, h => exact h.elim
  | _ :: _ :: _, _, h => exact h.elim
theorem cr_sortB {X : Cx} (hu : X.A.units + 64 < cLine) : CallR X (.builtin "sorted") (fun vs H Q => rSortA X.K vs H Q ∨ rSortT X.K vs H Q) := (cr_sortA hu).or (cr_sortT hu)
end DL

set_option Elab.async false
set_option linter.all false
set_option maxRecDepth 100000
set_option maxHeartbeats 4000000
/-! DL21: a comprehension straight into a local name. -/
namespace DL
open PySem PySem.Spec PyProof.Rows L2
section
variable {X : Cx} {W : Wd} {E : XK} {tg iter elt : Expr} {ifs : List Expr} {it : EvS} {T : TgD} {p : EvB} {f : Ev} {fs : EvL} {is : List Nat} {own : List (PySem.Str × Nat)} {scope : Scope} {pos py spos : Pos} {i : Nat} {y : PySem.Str}
theorem lift_frz {σ : L2.St} {H : Hp} {Q : VK} : lE W E (eFrz fs) σ H Q → lN W E fs σ H Q :=
  fun ⟨M, env, st, S, z⟩ => ⟨M, env, st, S, Fin.bind z fun ds st1 M1 xs H1 T1 S1 rs z1 => fun p hp => by
    obtain ⟨T, S2⟩ := frozen S1.s (o := .lst xs) hp
    exact z1 _ _ _ T (S1.step T S2) (.lst (.inl upd_same) (fun z => z.2 rfl) (rs.mono T))⟩
theorem lift_new {σ : L2.St} {H : Hp} {Q : VK} : lE W E (eNew fs) σ H Q → lN W E fs σ H Q :=
  fun ⟨M, env, st, S, z⟩ => ⟨M, env, st, S, Fin.bind z fun ds st1 M1 xs H1 T1 S1 rs z1 => fun p hp => by
    obtain ⟨T, S2⟩ := celled S1.s (o := .lst xs) (c := .lst ds) hp fun M' T => .lst upd_same (rs.mono T)
    refine z1 _ _ _ T (S1.step T S2) (.ref ?_)
    show (M1.rho ++ [p])[st1.length]? = some p
    rw [← S1.s.len, List.getElem?_append_right (Nat.le_refl _)]
    simp⟩
theorem ds_setLc {g : Ev} (key : ∀ σ H Q, lE W E g σ H Q → lN W E (nLc it T p f (own.map (·.2))) σ H Q) (hc : X.calm = true) (hN : X.N.Nodup) (hy : X.N[i]? = some y) (hyl : X.env.scope.names.lookup y = some .local)
    (hsw : swapsWith (.ListComp elt [⟨tg, iter, ifs, 0⟩] scope pos) (some (.Name y py)) spos.line X.env = pure true) (hi : DI X W E tg iter it) (ok : BlkOk X.N X.env.scope scope own)
    (hg : ∃ t : TG, (∀ (s : Shared) (H : Hp) (C : Addr) (cl : List (PySem.Str × Addr)) (fp : List Addr), PG (X.blk s H scope (compEnvC scope cl C X.env) fp) tg t) ∧
      ∀ (M : MW) (σ : L2.St) (H : Hp) (env env' : Ent) (st : Store) (d : D) (v : V) (Q : L2.St → Hp → Prop), Sim W M σ H env st → Rep W M H d v → T d env = some env' →
        (∀ σ', Sim W M σ' H env' st → (∀ ws, (∀ i ∈ is, i ∈ ws) → L2.wipe σ' ws = L2.wipe σ ws) → Q σ' H) → t v σ H Q)
    (ht : ∀ (s : Shared) (H : Hp) (C : Addr) (cl : List (PySem.Str × Addr)) (fp : List Addr), DTs (X.blk s H scope (compEnvC scope cl C X.env) fp) W E0 ifs p)
    (he : ∀ (s : Shared) (H : Hp) (C : Addr) (cl : List (PySem.Str × Addr)) (fp : List Addr), DE (X.blk s H scope (compEnvC scope cl C X.env) fp) W E0 elt f)
    (hv : ∀ i ∈ is, i ∈ own.map (·.2)) (hs : ∀ x, foldedSetIterable iter X.env x = pure x := by intro _; rfl) :
    DS X W E (.Assign [.Name y py] (.ListComp elt [⟨tg, iter, ifs, 0⟩] scope pos) spos) (sAsg g (tgN i)) := by
  obtain ⟨wi, pw, hw⟩ := hi
  obtain ⟨t, pt, htt⟩ := hg
  refine PSmono (ps_setLc hc hN hy hyl hsw pw ok pt ht he hs) fun D0 σ H ⟨M, env, st, S, q⟩ => ?_
  exact lc_read hw htt hv (key _ _ _ ⟨M, env, st, S, Fin.bindS q fun d st1 M1 v H1 T1 S1 r1 q1 => q1 M1 _ H1 .refl (S1.set r1)⟩)
end
end DL

set_option Elab.async false
set_option linter.all false
set_option maxRecDepth 100000
set_option maxHeartbeats 0
namespace HeadK
open PySem PySem.Spec PyProof.Rows L2
def top (i : Nat) : Stmt := PySem.Challenge.pw_stringrooms_k39_whole_known_roads.main.body.getD i (.Pass ⟨0, 0, 0, 0⟩)
abbrev s_ends_of : Stmt := top 5
abbrev s_next_of : Stmt := top 6
abbrev s_ahead_of : Stmt := top 7
abbrev s_other_begun : Stmt := top 8
abbrev s_other_ended : Stmt := top 9
abbrev s_mate_of : Stmt := top 10
abbrev s_followers : Stmt := top 11
abbrev s_may_follow : Stmt := top 12
abbrev s_turned_plan : Stmt := top 13
abbrev s_end_of : Stmt := top 15
abbrev s_turned : Stmt := top 16
abbrev s_string_of : Stmt := top 17
abbrev s_in_turned_plan : Stmt := top 18
abbrev s_arrows_into : Stmt := top 20
abbrev s_hook_row : Stmt := top 21
abbrev s_right_arrow : Stmt := top 22
abbrev s_end_arrows : Stmt := top 23
abbrev s_hooks : Stmt := top 24
abbrev s_last_along : Stmt := top 25
abbrev s_first_against : Stmt := top 26
abbrev s_piece : Stmt := top 27
abbrev s_hooked_right : Stmt := top 28
abbrev s_hooked_left : Stmt := top 29
abbrev s_one_end : Stmt := top 30
abbrev s_forth_walk : Stmt := top 31
abbrev s_forth : Stmt := top 32
abbrev s_back : Stmt := top 33
abbrev s_right_done : Stmt := top 34
abbrev s_middle_walks : Stmt := top 35
abbrev s_middle : Stmt := top 36
abbrev s_almost_split : Stmt := top 37
abbrev s_road_by : Stmt := top 39
abbrev s_road : Stmt := top 40
abbrev s_road_back : Stmt := top 41
abbrev s__law_begun : Stmt := top 43
abbrev s__law_draw : Stmt := top 44
abbrev s__law_like : Stmt := top 45
abbrev s__law_ends : Stmt := top 46
abbrev s__law_points : Stmt := top 47
abbrev s__law_turned : Stmt := top 48
abbrev s__law_string : Stmt := top 49
abbrev s__law_stretch : Stmt := top 50
abbrev s__law_line_right : Stmt := top 51
abbrev s__law_noughts_right : Stmt := top 52
abbrev s_law : Stmt := top 53
def d_ends_of : He.DefD := ⟨("ends_of", none), "ends_of", "ends_of", defArgs s_ends_of, defBody s_ends_of, defScope s_ends_of, [], []⟩
def d_next_of : He.DefD := ⟨("next_of", none), "next_of", "next_of", defArgs s_next_of, defBody s_next_of, defScope s_next_of, [], []⟩
def d_ahead_of : He.DefD := ⟨("ahead_of", none), "ahead_of", "ahead_of", defArgs s_ahead_of, defBody s_ahead_of, defScope s_ahead_of, [], []⟩
def d_other_begun : He.DefD := ⟨("other_begun", none), "other_begun", "other_begun", defArgs s_other_begun, defBody s_other_begun, defScope s_other_begun, [], []⟩
def d_other_ended : He.DefD := ⟨("other_ended", none), "other_ended", "other_ended", defArgs s_other_ended, defBody s_other_ended, defScope s_other_ended, [], []⟩
def d_mate_of : He.DefD := ⟨("mate_of", none), "mate_of", "mate_of", defArgs s_mate_of, defBody s_mate_of, defScope s_mate_of, [], []⟩
def d_followers : He.DefD := ⟨("followers", none), "followers", "followers", defArgs s_followers, defBody s_followers, defScope s_followers, [], []⟩
def d_may_follow : He.DefD := ⟨("may_follow", none), "may_follow", "may_follow", defArgs s_may_follow, defBody s_may_follow, defScope s_may_follow, [], []⟩
def d_turned_plan : He.DefD := ⟨("turned_plan", none), "turned_plan", "turned_plan", defArgs s_turned_plan, defBody s_turned_plan, defScope s_turned_plan, [], []⟩
def d_end_of : He.DefD := ⟨("end_of", none), "end_of", "end_of", defArgs s_end_of, defBody s_end_of, defScope s_end_of, [], []⟩
def d_turned : He.DefD := ⟨("turned", none), "turned", "turned", defArgs s_turned, defBody s_turned, defScope s_turned, [], []⟩
def d_string_of : He.DefD := ⟨("string_of", none), "string_of", "string_of", defArgs s_string_of, defBody s_string_of, defScope s_string_of, [], []⟩
def d_in_turned_plan : He.DefD := ⟨("in_turned_plan", none), "in_turned_plan", "in_turned_plan", defArgs s_in_turned_plan, defBody s_in_turned_plan, defScope s_in_turned_plan, [], []⟩
def d_arrows_into : He.DefD := ⟨("arrows_into", none), "arrows_into", "arrows_into", defArgs s_arrows_into, defBody s_arrows_into, defScope s_arrows_into, [], []⟩
def d_hook_row : He.DefD := ⟨("hook_row", none), "hook_row", "hook_row", defArgs s_hook_row, defBody s_hook_row, defScope s_hook_row, [], []⟩
def d_right_arrow : He.DefD := ⟨("right_arrow", none), "right_arrow", "right_arrow", defArgs s_right_arrow, defBody s_right_arrow, defScope s_right_arrow, [], []⟩
def d_end_arrows : He.DefD := ⟨("end_arrows", none), "end_arrows", "end_arrows", defArgs s_end_arrows, defBody s_end_arrows, defScope s_end_arrows, [], []⟩
def d_hooks : He.DefD := ⟨("hooks", none), "hooks", "hooks", defArgs s_hooks, defBody s_hooks, defScope s_hooks, [], []⟩
def d_last_along : He.DefD := ⟨("last_along", none), "last_along", "last_along", defArgs s_last_along, defBody s_last_along, defScope s_last_along, [], []⟩
def d_first_against : He.DefD := ⟨("first_against", none), "first_against", "first_against", defArgs s_first_against, defBody s_first_against, defScope s_first_against, [], []⟩
def d_piece : He.DefD := ⟨("piece", none), "piece", "piece", defArgs s_piece, defBody s_piece, defScope s_piece, [], []⟩
def d_hooked_right : He.DefD := ⟨("hooked_right", none), "hooked_right", "hooked_right", defArgs s_hooked_right, defBody s_hooked_right, defScope s_hooked_right, [], []⟩
def d_hooked_left : He.DefD := ⟨("hooked_left", none), "hooked_left", "hooked_left", defArgs s_hooked_left, defBody s_hooked_left, defScope s_hooked_left, [], []⟩
def d_one_end : He.DefD := ⟨("one_end", none), "one_end", "one_end", defArgs s_one_end, defBody s_one_end, defScope s_one_end, [], []⟩
def d_forth_walk : He.DefD := ⟨("forth_walk", none), "forth_walk", "forth_walk", defArgs s_forth_walk, defBody s_forth_walk, defScope s_forth_walk, [], []⟩
def d_forth : He.DefD := ⟨("forth", none), "forth", "forth", defArgs s_forth, defBody s_forth, defScope s_forth, [], []⟩
def d_back : He.DefD := ⟨("back", none), "back", "back", defArgs s_back, defBody s_back, defScope s_back, [], []⟩
def d_right_done : He.DefD := ⟨("right_done", none), "right_done", "right_done", defArgs s_right_done, defBody s_right_done, defScope s_right_done, [], []⟩
def d_middle_walks : He.DefD := ⟨("middle_walks", none), "middle_walks", "middle_walks", defArgs s_middle_walks, defBody s_middle_walks, defScope s_middle_walks, [], []⟩
def d_middle : He.DefD := ⟨("middle", none), "middle", "middle", defArgs s_middle, defBody s_middle, defScope s_middle, [], []⟩
def d_almost_split : He.DefD := ⟨("almost_split", none), "almost_split", "almost_split", defArgs s_almost_split, defBody s_almost_split, defScope s_almost_split, [], []⟩
def d_road_by : He.DefD := ⟨("road_by", none), "road_by", "road_by", defArgs s_road_by, defBody s_road_by, defScope s_road_by, [], []⟩
def d_road : He.DefD := ⟨("road", none), "road", "road", defArgs s_road, defBody s_road, defScope s_road, [], []⟩
def d_road_back : He.DefD := ⟨("road_back", none), "road_back", "road_back", defArgs s_road_back, defBody s_road_back, defScope s_road_back, [], []⟩
def d__law_begun : He.DefD := ⟨("_law_begun", none), "_law_begun", "_law_begun", defArgs s__law_begun, defBody s__law_begun, defScope s__law_begun, [], []⟩
def d__law_draw : He.DefD := ⟨("_law_draw", none), "_law_draw", "_law_draw", defArgs s__law_draw, defBody s__law_draw, defScope s__law_draw, [], []⟩
def d__law_like : He.DefD := ⟨("_law_like", none), "_law_like", "_law_like", defArgs s__law_like, defBody s__law_like, defScope s__law_like, [], []⟩
def d__law_ends : He.DefD := ⟨("_law_ends", none), "_law_ends", "_law_ends", defArgs s__law_ends, defBody s__law_ends, defScope s__law_ends, [], []⟩
def d__law_points : He.DefD := ⟨("_law_points", none), "_law_points", "_law_points", defArgs s__law_points, defBody s__law_points, defScope s__law_points, [], []⟩
def d__law_turned : He.DefD := ⟨("_law_turned", none), "_law_turned", "_law_turned", defArgs s__law_turned, defBody s__law_turned, defScope s__law_turned, [], []⟩
def d__law_string : He.DefD := ⟨("_law_string", none), "_law_string", "_law_string", defArgs s__law_string, defBody s__law_string, defScope s__law_string, [], []⟩
def d__law_stretch : He.DefD := ⟨("_law_stretch", none), "_law_stretch", "_law_stretch", defArgs s__law_stretch, defBody s__law_stretch, defScope s__law_stretch, [], []⟩
def d__law_line_right : He.DefD := ⟨("_law_line_right", none), "_law_line_right", "_law_line_right", defArgs s__law_line_right, defBody s__law_line_right, defScope s__law_line_right, [], []⟩
def d__law_noughts_right : He.DefD := ⟨("_law_noughts_right", none), "_law_noughts_right", "_law_noughts_right", defArgs s__law_noughts_right, defBody s__law_noughts_right, defScope s__law_noughts_right, [], []⟩
def d_law : He.DefD := ⟨("law", none), "law", "law", defArgs s_law, defBody s_law, defScope s_law, [], []⟩
def fn : List He.DefD := [d_ends_of, d_next_of, d_ahead_of, d_other_begun, d_other_ended, d_mate_of, d_followers, d_may_follow, d_turned_plan, d_end_of, d_turned, d_string_of, d_in_turned_plan, d_arrows_into, d_hook_row, d_right_arrow, d_end_arrows, d_hooks, d_last_along, d_first_against, d_piece, d_hooked_right, d_hooked_left, d_one_end, d_forth_walk, d_forth, d_back, d_right_done, d_middle_walks, d_middle, d_almost_split, d_road_by, d_road, d_road_back, d__law_begun, d__law_draw, d__law_like, d__law_ends, d__law_points, d__law_turned, d__law_string, d__law_stretch, d__law_line_right, d__law_noughts_right, d_law]
def fa : List He.Fa := [.glo "ends_of", .glo "next_of", .glo "ahead_of", .glo "other_begun", .glo "other_ended", .glo "mate_of", .glo "followers", .glo "may_follow", .glo "turned_plan", .glo "end_of", .glo "turned", .glo "string_of", .glo "in_turned_plan", .glo "arrows_into", .glo "hook_row", .glo "right_arrow", .glo "end_arrows", .glo "hooks", .glo "last_along", .glo "first_against", .glo "piece", .glo "hooked_right", .glo "hooked_left", .glo "one_end", .glo "forth_walk", .glo "forth", .glo "back", .glo "right_done", .glo "middle_walks", .glo "middle", .glo "almost_split", .glo "road_by", .glo "road", .glo "road_back", .glo "_law_begun", .glo "_law_draw", .glo "_law_like", .glo "_law_ends", .glo "_law_points", .glo "_law_turned", .glo "_law_string", .glo "_law_stretch", .glo "_law_line_right", .glo "_law_noughts_right", .glo "law", .free "enumerate", .free "int", .free "len", .free "max", .free "min", .free "range", .free "repr", .free "reversed", .free "sorted", .free "tuple"]
def loose : List PySem.Str := ((["PlanError", "NoWay", "TooGreat", "ends_of", "next_of", "ahead_of", "other_begun", "other_ended", "mate_of", "followers", "may_follow", "turned_plan", "end_of", "turned", "string_of", "in_turned_plan", "arrows_into", "hook_row", "right_arrow", "end_arrows"] : List PySem.Str) ++ (["hooks", "last_along", "first_against", "piece", "hooked_right", "hooked_left", "one_end", "forth_walk", "forth", "back", "right_done", "middle_walks", "middle", "almost_split", "road_by", "road", "road_back", "_law_begun", "_law_draw", "_law_like"] : List PySem.Str) ++ (["_law_ends", "_law_points", "_law_turned", "_law_string", "_law_stretch", "_law_line_right", "_law_noughts_right"] : List PySem.Str))
abbrev RowK : PySem.W.OpenRow := PySem.W.OpenLaw.row PySem.Challenge.rw_stringrooms_k39_whole_known_roads
abbrev hk : PySem.W.Hook := He.hookD 4 fa fn
def ob (s : PySem.W.SharedT) : He.AlD := He.obsDG 4 fa fn (HandSHeadRun.getT s)
theorem ob_eq (s : PySem.W.SharedT) : ob s = hk.obs s.abs := He.obsDG_eq (HandSHeadRun.getT_eq s)
theorem run (w : World) : HandSHeadRun.RunEq RowK (PySem.W.view RowK.prog [53]) hk ob 4000 loose w := by
  intro os
  kernel_rfl
end HeadK

set_option Elab.async false
set_option linter.all false
set_option maxRecDepth 100000
set_option maxHeartbeats 4000000
namespace FK
open PySem PySem.Spec PyProof.Rows L2 DL HeadK
def b_ends_of : EvT := (sSeq (sIf (tOf (eOp opGe (eVar 1) (eC (.int 0)))) (sRet (eOp opIx (eOp opIx (eVar 0) (eC (.int 1))) (eVar 1))) sNx) (sSeq (sAsg (eOp opIx (eOp opIx (eVar 0) (eC (.int 1))) (eOp opSub (eUn opNeg (eC (.int 1))) (eVar 1))) (tgT [2, 3])) (sRet (eTup (aCons (eVar 3) (aCons (eVar 2) aNil))))))
def f_ends_of : List D → Store → R D := runF 2 4 b_ends_of
def b_next_of : EvT := (sSeq (sAsg (eOp opIx (eOp opIx (eOp opIx (eVar 0) (eC (.int 1))) (eVar 1)) (eC (.int 1))) (tgN 2)) (sSeq (sFor 1000 (iEnum (eOp opIx (eVar 0) (eC (.int 1)))) (tgT [3, 4]) (sIf (tAndD (tOf (eOp opEq (eOp opIx (eVar 4) (eC (.int 0))) (eVar 2))) (tOf (eOp opNotIn (eTup (aCons (eVar 1) (aCons (eVar 3) aNil))) (eOp opIx (eVar 0) (eC (.int 2)))))) (sRet (eVar 3)) sNx)) (sRet (eC .non))))
def f_next_of : List D → Store → R D := runF 2 5 b_next_of
def b_ahead_of : EvT := (sSeq (sAsg (eOp opIx (eOp opIx (eOp opIx (eVar 0) (eC (.int 1))) (eVar 1)) (eC (.int 0))) (tgN 2)) (sSeq (sFor 1000 (iEnum (eOp opIx (eVar 0) (eC (.int 1)))) (tgT [3, 4]) (sIf (tAndD (tOf (eOp opEq (eOp opIx (eVar 4) (eC (.int 1))) (eVar 2))) (tOf (eOp opNotIn (eTup (aCons (eVar 3) (aCons (eVar 1) aNil))) (eOp opIx (eVar 0) (eC (.int 2)))))) (sRet (eVar 3)) sNx)) (sRet (eC .non))))
def f_ahead_of : List D → Store → R D := runF 2 5 b_ahead_of
def b_other_begun : EvT := (sSeq (sFor 1000 (iEnum (eOp opIx (eVar 0) (eC (.int 1)))) (tgT [2, 3]) (sIf (tAndD (tOf (eOp opNe (eVar 2) (eVar 1))) (tOf (eOp opEq (eOp opIx (eVar 3) (eC (.int 0))) (eOp opIx (eOp opIx (eOp opIx (eVar 0) (eC (.int 1))) (eVar 1)) (eC (.int 0)))))) (sRet (eVar 2)) sNx)) (sRet (eC .non)))
def f_other_begun : List D → Store → R D := runF 2 4 b_other_begun
def b_other_ended : EvT := (sSeq (sFor 1000 (iEnum (eOp opIx (eVar 0) (eC (.int 1)))) (tgT [2, 3]) (sIf (tAndD (tOf (eOp opNe (eVar 2) (eVar 1))) (tOf (eOp opEq (eOp opIx (eVar 3) (eC (.int 1))) (eOp opIx (eOp opIx (eOp opIx (eVar 0) (eC (.int 1))) (eVar 1)) (eC (.int 1)))))) (sRet (eVar 2)) sNx)) (sRet (eC .non)))
def f_other_ended : List D → Store → R D := runF 2 4 b_other_ended
def b_mate_of : EvT := (sSeq (sIf (tOf (eOp opGe (eVar 1) (eC (.int 0)))) (sRet (eCallP f_other_begun (aCons (eVar 0) (aCons (eVar 1) aNil)))) sNx) (sSeq (sAsg (eCallP f_other_ended (aCons (eVar 0) (aCons (eOp opSub (eUn opNeg (eC (.int 1))) (eVar 1)) aNil))) (tgN 2)) (sRet (eIfE (tOf (eOp opIsN (eVar 2) (eC .non))) (eC .non) (eOp opSub (eUn opNeg (eC (.int 1))) (eVar 2))))))
def f_mate_of : List D → Store → R D := runF 2 3 b_mate_of
def b_followers : EvT := (sSeq (sIf (tOf (eOp opGe (eVar 1) (eC (.int 0)))) (sPar 2 3 (eCallP f_next_of (aCons (eVar 0) (aCons (eVar 1) aNil))) (eCallP f_other_ended (aCons (eVar 0) (aCons (eVar 1) aNil)))) (sPar 2 3 (eCallP f_other_begun (aCons (eVar 0) (aCons (eOp opSub (eUn opNeg (eC (.int 1))) (eVar 1)) aNil))) (eCallP f_ahead_of (aCons (eVar 0) (aCons (eOp opSub (eUn opNeg (eC (.int 1))) (eVar 1)) aNil))))) (sSeq (sAsg (eIfE (tOf (eOp opIsN (eVar 3) (eC .non))) (eFrz (nLst aNil)) (eFrz (nLst (aCons (eOp opSub (eUn opNeg (eC (.int 1))) (eVar 3)) aNil)))) (tgN 4)) (sRet (eCallB opTuple (aCons (eOp opAdd (eVar 4) (eIfE (tOf (eOp opIsN (eVar 2) (eC .non))) (eFrz (nLst aNil)) (eFrz (nLst (aCons (eVar 2) aNil))))) aNil)))))
def f_followers : List D → Store → R D := runF 2 5 b_followers
def b_may_follow : EvT := (sRet (eOp opIn (eVar 2) (eCallP f_followers (aCons (eVar 0) (aCons (eVar 1) aNil)))))
def f_may_follow : List D → Store → R D := runF 3 3 b_may_follow
def b_turned_plan : EvT := (sSeq (sAsg (eVar 0) (tgT [1, 2, 3])) (sSeq (sAsg (eCallB opTuple (aCons (eFrz (nLc (iSeq (eVar 2)) (tgT [5, 6]) tYesD (eTup (aCons (eVar 6) (aCons (eVar 5) aNil))) [5, 6])) aNil)) (tgN 4)) (sRet (eTup (aCons (eVar 1) (aCons (eVar 4) (aCons (eCallB opTuple (aCons (eFrz (nCallB opSortB (aCons (eFrz (nLc (iSeq (eVar 3)) (tgT [7, 8]) tYesD (eTup (aCons (eVar 8) (aCons (eVar 7) aNil))) [7, 8])) aNil))) aNil)) aNil)))))))
def f_turned_plan : List D → Store → R D := runF 1 9 b_turned_plan
def b_end_of : EvT := (sRet (eIfE (tTru (eOp opIx (eVar 1) (eC (.int 1)))) (eOp opIx (eCallP f_ends_of (aCons (eVar 0) (aCons (eOp opIx (eOp opIx (eVar 1) (eC (.int 1))) (eUn opNeg (eC (.int 1)))) aNil))) (eC (.int 1))) (eOp opIx (eVar 1) (eC (.int 0)))))
def f_end_of : List D → Store → R D := runF 2 2 b_end_of
def b_turned : EvT := (sRet (eTup (aCons (eCallP f_end_of (aCons (eVar 0) (aCons (eVar 1) aNil))) (aCons (eCallB opTuple (aCons (eFrz (nLc (iSeq (eRev (eOp opIx (eVar 1) (eC (.int 1))))) (tgN 2) tYesD (eOp opSub (eUn opNeg (eC (.int 1))) (eVar 2)) [2])) aNil)) aNil))))
def f_turned : List D → Store → R D := runF 2 3 b_turned
def b_string_of : EvT := (sSeq (sAsg (eCallP f_turned (aCons (eVar 0) (aCons (eVar 1) aNil))) (tgN 2)) (sRet (eIfE (tOf (eOp opLe (eVar 1) (eVar 2))) (eVar 1) (eVar 2))))
def f_string_of : List D → Store → R D := runF 2 3 b_string_of
def b_in_turned_plan : EvT := (sRet (eTup (aCons (eOp opIx (eVar 1) (eC (.int 0))) (aCons (eCallB opTuple (aCons (eFrz (nLc (iSeq (eOp opIx (eVar 1) (eC (.int 1)))) (tgN 2) tYesD (eOp opSub (eUn opNeg (eC (.int 1))) (eVar 2)) [2])) aNil)) aNil))))
def f_in_turned_plan : List D → Store → R D := runF 2 3 b_in_turned_plan
def b_arrows_into : EvT := (sRet (eFrz (nLc (iEnum (eOp opIx (eVar 0) (eC (.int 1)))) (tgT [2, 3]) (tOf (eOp opEq (eOp opIx (eVar 3) (eC (.int 1))) (eVar 1))) (eVar 2) [2, 3])))
def f_arrows_into : List D → Store → R D := runF 2 4 b_arrows_into
def b_hook_row : EvT := (sSeq (sPar 2 3 (eNew (nLst (aCons (eOp opSub (eUn opNeg (eC (.int 1))) (eVar 1)) aNil))) (eCallP f_mate_of (aCons (eVar 0) (aCons (eVar 1) aNil)))) (sSeq (sWhile 1000 (tOf (eOp opNotN (eVar 3) (eC .non))) (sSeq (sExpr (eAppend (eVar 2) (eVar 3))) (sAsg (eCallP f_next_of (aCons (eVar 0) (aCons (eVar 3) aNil))) (tgN 3)))) (sRet (eCallB opTuple (aCons (eVar 2) aNil)))))
def f_hook_row : List D → Store → R D := runF 2 4 b_hook_row
def b_right_arrow : EvT := (sSeq (sFor 1000 (iSeq (eCallP f_arrows_into (aCons (eVar 0) (aCons (eCallP f_end_of (aCons (eVar 0) (aCons (eVar 1) aNil))) aNil)))) (tgN 2) (sIf (tTru (eCallP f_may_follow (aCons (eVar 0) (aCons (eOp opIx (eOp opIx (eVar 1) (eC (.int 1))) (eUn opNeg (eC (.int 1)))) (aCons (eOp opSub (eUn opNeg (eC (.int 1))) (eVar 2)) aNil))))) (sRet (eVar 2)) sNx)) (sRet (eC .non)))
def f_right_arrow : List D → Store → R D := runF 2 3 b_right_arrow
def b_end_arrows : EvT := (sSeq (sIf (tOf (eOp opEq (eOp opIx (eVar 1) (eC (.int 1))) (eTup aNil))) (sSeq (sAsg (eOp opAdd (eCallP f_arrows_into (aCons (eVar 0) (aCons (eOp opIx (eVar 1) (eC (.int 0))) aNil))) (eFrz (nLst (aCons (eC .non) (aCons (eC .non) aNil))))) (tgN 2)) (sRet (eTup (aCons (eOp opIx (eVar 2) (eC (.int 1))) (aCons (eOp opIx (eVar 2) (eC (.int 0))) aNil))))) sNx) (sRet (eTup (aCons (eCallP f_right_arrow (aCons (eVar 0) (aCons (eCallP f_turned (aCons (eVar 0) (aCons (eVar 1) aNil))) aNil))) (aCons (eCallP f_right_arrow (aCons (eVar 0) (aCons (eVar 1) aNil))) aNil)))))
def f_end_arrows : List D → Store → R D := runF 2 3 b_end_arrows
def b_hooks : EvT := (sRet (eCallB opTuple (aCons (eFrz (nLc (iSeq (eCallP f_end_arrows (aCons (eVar 0) (aCons (eVar 1) aNil)))) (tgN 2) tYesD (eIfE (tOf (eOp opIsN (eVar 2) (eC .non))) (eTup aNil) (eCallP f_hook_row (aCons (eVar 0) (aCons (eVar 2) aNil)))) [2])) aNil)))
def f_hooks : List D → Store → R D := runF 2 3 b_hooks
def b_last_along : EvT := (sRet (eCallBK opmaxD (aCons (eFrz (nLc (iEnum (eVar 0)) (tgT [1, 2]) (tOf (eOp opGe (eVar 2) (eC (.int 0)))) (eVar 1) [1, 2])) aNil) (aCons (eUn opNeg (eC (.int 1))) aNil)))
def f_last_along : List D → Store → R D := runF 1 3 b_last_along
def b_first_against : EvT := (sRet (eCallBK opminD (aCons (eFrz (nLc (iEnum (eVar 0)) (tgT [1, 2]) (tOf (eOp opLt (eVar 2) (eC (.int 0)))) (eVar 1) [1, 2])) aNil) (aCons (eCallB opLen (aCons (eVar 0) aNil)) aNil)))
def f_first_against : List D → Store → R D := runF 1 3 b_first_against
def b_piece : EvT := (sRet (eTup (aCons (eCallP f_end_of (aCons (eVar 0) (aCons (eTup (aCons (eOp opIx (eVar 1) (eC (.int 0))) (aCons (eSl (eOp opIx (eVar 1) (eC (.int 1))) oNone (oSome (eVar 2))) aNil))) aNil))) (aCons (eSl (eOp opIx (eVar 1) (eC (.int 1))) (oSome (eVar 2)) (oSome (eVar 3))) aNil))))
def f_piece : List D → Store → R D := runF 4 4 b_piece
def b_hooked_right : EvT := (sRet (eTup (aCons (eOp opIx (eVar 0) (eC (.int 0))) (aCons (eOp opAdd (eOp opIx (eVar 0) (eC (.int 1))) (eVar 1)) aNil))))
def f_hooked_right : List D → Store → R D := runF 2 2 b_hooked_right
def b_hooked_left : EvT := (sRet (eCallP f_turned (aCons (eVar 0) (aCons (eCallP f_hooked_right (aCons (eCallP f_turned (aCons (eVar 0) (aCons (eVar 1) aNil))) (aCons (eVar 2) aNil))) aNil))))
def f_hooked_left : List D → Store → R D := runF 3 3 b_hooked_left
def b_one_end : EvT := (sSeq (sAsg (eCallP f_hooked_right (aCons (eVar 1) (aCons (eVar 2) aNil))) (tgN 3)) (sRet (eCallP f_piece (aCons (eVar 0) (aCons (eVar 3) (aCons (eOp opAdd (eCallP f_first_against (aCons (eOp opIx (eVar 3) (eC (.int 1))) aNil)) (eC (.int 1))) (aCons (eCallB opLen (aCons (eOp opIx (eVar 3) (eC (.int 1))) aNil)) aNil)))))))
def f_one_end : List D → Store → R D := runF 3 4 b_one_end
def b_forth_walk : EvT := (sSeq (sAsg (eCallP f_hooks (aCons (eVar 0) (aCons (eVar 1) aNil))) (tgT [2, 3])) (sSeq (sIf (tAndD (tOf (eOp opNe (eVar 2) (eTup aNil))) (tOf (eOp opNe (eVar 3) (eTup aNil)))) (sRet (eCallP f_hooked_left (aCons (eVar 0) (aCons (eCallP f_hooked_right (aCons (eVar 1) (aCons (eVar 3) aNil))) (aCons (eVar 2) aNil))))) sNx) (sSeq (sIf (tOf (eOp opNe (eVar 3) (eTup aNil))) (sRet (eCallP f_one_end (aCons (eVar 0) (aCons (eVar 1) (aCons (eVar 3) aNil))))) sNx) (sSeq (sIf (tOf (eOp opNe (eVar 2) (eTup aNil))) (sRet (eCallP f_turned (aCons (eVar 0) (aCons (eCallP f_one_end (aCons (eVar 0) (aCons (eCallP f_turned (aCons (eVar 0) (aCons (eVar 1) aNil))) (aCons (eVar 2) aNil)))) aNil)))) sNx) (sSeq (sPar 4 5 (eCallP f_first_against (aCons (eOp opIx (eVar 1) (eC (.int 1))) aNil)) (eCallP f_last_along (aCons (eOp opIx (eVar 1) (eC (.int 1))) aNil))) (sRet (eIfE (tOf (eOp opLt (eVar 4) (eVar 5))) (eCallP f_piece (aCons (eVar 0) (aCons (eVar 1) (aCons (eOp opAdd (eVar 4) (eC (.int 1))) (aCons (eVar 5) aNil))))) (eC .non))))))))
def f_forth_walk : List D → Store → R D := runF 2 6 b_forth_walk
def b_forth : EvT := (sSeq (sAsg (eCallP f_forth_walk (aCons (eVar 0) (aCons (eVar 1) aNil))) (tgN 2)) (sRet (eIfE (tOf (eOp opIsN (eVar 2) (eC .non))) (eC .non) (eCallP f_string_of (aCons (eVar 0) (aCons (eVar 2) aNil))))))
def f_forth : List D → Store → R D := runF 2 3 b_forth
def b_back : EvT := (sSeq (sAsg (eCallP f_forth_walk (aCons (eCallP f_turned_plan (aCons (eVar 0) aNil)) (aCons (eCallP f_in_turned_plan (aCons (eVar 0) (aCons (eVar 1) aNil))) aNil))) (tgN 2)) (sRet (eIfE (tOf (eOp opIsN (eVar 2) (eC .non))) (eC .non) (eCallP f_string_of (aCons (eVar 0) (aCons (eCallP f_in_turned_plan (aCons (eCallP f_turned_plan (aCons (eVar 0) aNil)) (aCons (eVar 2) aNil))) aNil))))))
def f_back : List D → Store → R D := runF 2 3 b_back
def b_right_done : EvT := (sSeq (sIf (tOf (eOp opNe (eVar 2) (eTup aNil))) (sRet (eCallP f_hooked_right (aCons (eVar 1) (aCons (eVar 2) aNil)))) sNx) (sSeq (sAsg (eCallP f_last_along (aCons (eOp opIx (eVar 1) (eC (.int 1))) aNil)) (tgN 3)) (sRet (eIfE (tOf (eOp opLt (eVar 3) (eC (.int 0)))) (eC .non) (eCallP f_piece (aCons (eVar 0) (aCons (eVar 1) (aCons (eC (.int 0)) (aCons (eVar 3) aNil)))))))))
def f_right_done : List D → Store → R D := runF 3 4 b_right_done
def b_middle_walks : EvT := (sSeq (sAsg (eCallP f_hooks (aCons (eVar 0) (aCons (eVar 1) aNil))) (tgT [2, 3])) (sSeq (sAsg (eFrz (nLst (aCons (eCallP f_right_done (aCons (eVar 0) (aCons (eVar 1) (aCons (eVar 3) aNil)))) (aCons (eCallP f_right_done (aCons (eVar 0) (aCons (eCallP f_turned (aCons (eVar 0) (aCons (eVar 1) aNil))) (aCons (eVar 2) aNil)))) aNil)))) (tgN 4)) (sRet (eFrz (nLc (iSeq (eVar 4)) (tgN 5) (tOf (eOp opNotN (eVar 5) (eC .non))) (eVar 5) [5])))))
def f_middle_walks : List D → Store → R D := runF 2 6 b_middle_walks
def b_middle : EvT := (sRet (eCallB opTuple (aCons (eFrz (nCallB opSortB (aCons (eFrz (nLc (iSeq (eCallP f_middle_walks (aCons (eVar 0) (aCons (eVar 1) aNil)))) (tgN 2) tYesD (eCallP f_string_of (aCons (eVar 0) (aCons (eVar 2) aNil))) [2])) aNil))) aNil)))
def f_middle : List D → Store → R D := runF 2 3 b_middle
def b_almost_split : EvT := (sSeq (sAsg (eCallP f_forth (aCons (eVar 0) (aCons (eVar 1) aNil))) (tgN 2)) (sSeq (sIf (tOf (eOp opIsN (eVar 2) (eC .non))) (fun _ _ => .no) sNx) (sRet (eTup (aCons (eCallP f_string_of (aCons (eVar 0) (aCons (eVar 1) aNil))) (aCons (eCallP f_middle (aCons (eVar 0) (aCons (eVar 1) aNil))) (aCons (eVar 2) aNil)))))))
def f_almost_split : List D → Store → R D := runF 2 3 b_almost_split
def tbl_road_by : Nat → Option (List D → Store → R D)
  | 25 => some f_forth
  | 26 => some f_back
  | _ => none
def b_road_by : EvT := (sSeq (sAsg (eCallP f_string_of (aCons (eVar 0) (aCons (eVar 1) aNil))) (tgN 4)) (sSeq (sAsg (eVar 4) (tgN 5)) (sSeq (sFor 1000 (iRg2 (eC (.int 1)) (eOp opAdd (eVar 2) (eC (.int 2)))) (tgN 6) (sSeq (sAsg (eCallS 3 tbl_road_by (aCons (eVar 0) (aCons (eVar 5) aNil))) (tgN 5)) (sSeq (sIf (tOf (eOp opIsN (eVar 5) (eC .non))) (sRet (eTup (aCons (eC (.str "end")) (aCons (eOp opSub (eVar 6) (eC (.int 1))) aNil)))) sNx) (sIf (tAndD (tOf (eOp opEq (eVar 5) (eVar 4))) (tOf (eOp opLe (eVar 6) (eVar 2)))) (sRet (eTup (aCons (eC (.str "ring")) (aCons (eVar 6) aNil)))) sNx)))) (fun _ _ => .no))))
def f_road_by : List D → Store → R D := runF 4 7 b_road_by
def b_road : EvT := (sRet (eCallP f_road_by (aCons (eVar 0) (aCons (eVar 1) (aCons (eVar 2) (aCons (eC (.fn 25)) aNil))))))
def f_road : List D → Store → R D := runF 3 3 b_road
def b_road_back : EvT := (sRet (eCallP f_road_by (aCons (eVar 0) (aCons (eVar 1) (aCons (eVar 2) (aCons (eC (.fn 26)) aNil))))))
def f_road_back : List D → Store → R D := runF 3 3 b_road_back
def b__law_begun : EvT := (sSeq (sAsg (eOp opAdd (eSl (eVar 0) (oSome (eVar 1)) oNone) (eSl (eVar 0) oNone (oSome (eVar 1)))) (tgN 2)) (sSeq (sAsg (eFrz (nLc (iSeq (eVar 2)) (tgN 5) (tOf (eOp opGe (eVar 5) (eOp opPow (eC (.int 10)) (eC (.int 18))))) (eVar 5) [5])) (tgN 3)) (sSeq (sAsg (eOp opAdd (eC (.int 71)) (eVar 1)) (tgN 4)) (sSeq (sFor 1000 (iSeq (eVar 2)) (tgN 5) (sAsg (eOp opMod (eCallB opInt (aCons (eOp opAdd (eOp opMul (eVar 4) (eC (.int 48271))) (eVar 5)) aNil)) (eC (.int 2147483647))) (tgN 4))) (sRet (eDict [(.inr "left"), (.inr "seed"), (.inr "cells"), (.inr "spot")] [(eIfE (tOf (eOp opNe (eVar 3) (eFrz (nLst aNil)))) (eOp opIx (eVar 3) (eC (.int 0))) (eC (.int 0))), (eVar 4), (eOp opAdd (eVar 2) (eFrz (nLst (aCons (eOp opAdd (eOp opMul (eC (.int 53)) (eVar 1)) (eC (.int 11))) aNil)))), (eC (.int 0))]))))))
def f__law_begun : List D → Store → R D := runF 2 6 b__law_begun
def b__law_draw : EvT := (sSeq (sIf (tOf (eOp opGt (eOp opDGet (eVar 0) (eC (.str "left"))) (eC (.int 0)))) (sSeq (sAsg (eOp opMod (eCallB opInt (aCons (eOp opDGet (eVar 0) (eC (.str "left"))) aNil)) (eVar 1)) (tgN 2)) (sSeq (sDPutD (eVar 0) (eC (.str "left")) (eOp opFdiv (eOp opDGet (eVar 0) (eC (.str "left"))) (eVar 1))) (sRet (eVar 2)))) sNx) (sSeq (sAsg (eOp opDGet (eVar 0) (eC (.str "spot"))) (tgN 3)) (sSeq (sDPutD (eVar 0) (eC (.str "spot")) (eOp opAdd (eVar 3) (eC (.int 1)))) (sSeq (sPar 4 5 (eOp opDGet (eVar 0) (eC (.str "cells"))) (eOp opAdd (eOp opDGet (eVar 0) (eC (.str "seed"))) (eOp opMul (eOp opMul (eC (.int 40503)) (eVar 3)) (eVar 3)))) (sSeq (sAsg (eOp opIx (eVar 4) (eOp opMod (eCallB opInt (aCons (eVar 3) aNil)) (eCallB opLen (aCons (eVar 4) aNil)))) (tgN 6)) (sSeq (sAsg (eOp opMod (eCallB opInt (aCons (eOp opAdd (eOp opMul (eVar 6) (eOp opAdd (eOp opMul (eC (.int 2)) (eVar 3)) (eC (.int 3)))) (eVar 5)) aNil)) (eC (.int 2147483647))) (tgN 7)) (sSeq (sAsg (eOp opMod (eCallB opInt (aCons (eOp opAdd (eOp opAdd (eOp opMul (eVar 7) (eVar 7)) (eOp opMul (eC (.int 69621)) (eVar 3))) (eOp opDGet (eVar 0) (eC (.str "seed")))) aNil)) (eC (.int 2147483629))) (tgN 7)) (sRet (eOp opMod (eOp opFdiv (eOp opMod (eCallB opInt (aCons (eOp opAdd (eOp opMul (eVar 7) (eC (.int 48271))) (eVar 3)) aNil)) (eC (.int 2147483647))) (eC (.int 11))) (eVar 1))))))))))
def f__law_draw : List D → Store → R D := runF 2 8 b__law_draw
def b__law_like : EvT := (sRet (eLike (eVar 0) (eVar 1)))
def f__law_like : List D → Store → R D := runF 2 2 b__law_like
def b__law_ends : EvT := (sSeq (sAsg (eOp opIx (eOp opIx (eVar 0) (eC (.int 1))) (eIfE (tOf (eOp opGe (eVar 1) (eC (.int 0)))) (eVar 1) (eOp opSub (eUn opNeg (eC (.int 1))) (eVar 1)))) (tgT [2, 3])) (sRet (eIfE (tOf (eOp opGe (eVar 1) (eC (.int 0)))) (eTup (aCons (eVar 2) (aCons (eVar 3) aNil))) (eTup (aCons (eVar 3) (aCons (eVar 2) aNil))))))
def f__law_ends : List D → Store → R D := runF 2 4 b__law_ends
def b__law_points : EvT := (sRet (eOp opAdd (eFrz (nLst (aCons (eOp opIx (eVar 1) (eC (.int 0))) aNil))) (eFrz (nLc (iSeq (eOp opIx (eVar 1) (eC (.int 1)))) (tgN 2) tYesD (eOp opIx (eCallP f__law_ends (aCons (eVar 0) (aCons (eVar 2) aNil))) (eC (.int 1))) [2]))))
def f__law_points : List D → Store → R D := runF 2 3 b__law_points
def b__law_turned : EvT := (sRet (eTup (aCons (eOp opIx (eCallP f__law_points (aCons (eVar 0) (aCons (eVar 1) aNil))) (eUn opNeg (eC (.int 1)))) (aCons (eCallB opTuple (aCons (eFrz (nLc (iRev (eOp opIx (eVar 1) (eC (.int 1)))) (tgN 2) tYesD (eOp opSub (eUn opNeg (eC (.int 1))) (eVar 2)) [2])) aNil)) aNil))))
def f__law_turned : List D → Store → R D := runF 2 3 b__law_turned
def b__law_string : EvT := (sRet (eCallB opmin (aCons (eVar 1) (aCons (eCallP f__law_turned (aCons (eVar 0) (aCons (eVar 1) aNil))) aNil))))
def f__law_string : List D → Store → R D := runF 2 2 b__law_string
def b__law_stretch : EvT := (sSeq (sAsg (eTup (aCons (eVar 0) (aCons (eTupRg (gRg2 (eVar 0) (eVar 1))) aNil))) (tgN 2)) (sSeq (sAsg (eTup (aCons (eVar 1) (aCons (eCallB opTuple (aCons (eFrz (nLc (iDown (eOp opSub (eVar 1) (eC (.int 1))) (eOp opSub (eVar 0) (eC (.int 1))) (eUn opNeg (eC (.int 1)))) (tgN 4) tYesD (eOp opSub (eUn opNeg (eC (.int 1))) (eVar 4)) [4])) aNil)) aNil))) (tgN 3)) (sRet (eCallB opmin (aCons (eVar 2) (aCons (eVar 3) aNil))))))
def f__law_stretch : List D → Store → R D := runF 2 5 b__law_stretch
def b__law_line_right : EvT := (sSeq (sAsg (eTup (aCons (eVar 0) (aCons (eCallB opTuple (aCons (eFrz (nLc (iRg1 (eOp opSub (eVar 0) (eC (.int 1)))) (tgN 9) tYesD (eTup (aCons (eVar 9) (aCons (eOp opAdd (eVar 9) (eC (.int 1))) aNil))) [9])) aNil)) (aCons (eTup aNil) aNil)))) (tgN 1)) (sSeq (sFor 1000 (iRg1 (eVar 0)) (tgN 2) (sFor 1000 (iRg2 (eVar 2) (eVar 0)) (tgN 3) (sSeq (sAsg (eIfE (tOf (eOp opGt (eVar 2) (eC (.int 0)))) (eCallP f__law_stretch (aCons (eOp opSub (eVar 2) (eC (.int 1))) (aCons (eOp opSub (eVar 3) (eC (.int 1))) aNil))) (eC .non)) (tgN 4)) (sSeq (sAsg (eIfE (tOf (eOp opLt (eOp opAdd (eVar 3) (eC (.int 1))) (eVar 0))) (eCallP f__law_stretch (aCons (eOp opAdd (eVar 2) (eC (.int 1))) (aCons (eOp opAdd (eVar 3) (eC (.int 1))) aNil))) (eC .non)) (tgN 5)) (sSeq (sAsg (eOp opAdd (eIfE (tOf (eOp opGt (eVar 2) (eC (.int 0)))) (eFrz (nLst (aCons (eCallP f__law_stretch (aCons (eOp opSub (eVar 2) (eC (.int 1))) (aCons (eVar 3) aNil))) aNil))) (eFrz (nLst aNil))) (eIfE (tOf (eOp opGt (eVar 3) (eVar 2))) (eFrz (nLst (aCons (eCallP f__law_stretch (aCons (eVar 2) (aCons (eOp opSub (eVar 3) (eC (.int 1))) aNil))) aNil))) (eFrz (nLst aNil)))) (tgN 6)) (sSeq (sAsg (eCallP f__law_stretch (aCons (eVar 2) (aCons (eVar 3) aNil))) (tgN 7)) (sSeq (sAsg (eFrz (nLst (aCons (eCallP f_forth (aCons (eVar 1) (aCons (eVar 7) aNil))) (aCons (eCallP f_back (aCons (eVar 1) (aCons (eVar 7) aNil))) (aCons (eCallP f_middle (aCons (eVar 1) (aCons (eVar 7) aNil))) (aCons (eCallP f_road (aCons (eVar 1) (aCons (eVar 7) (aCons (eC (.int 20)) aNil)))) (aCons (eCallP f_road_back (aCons (eVar 1) (aCons (eVar 7) (aCons (eC (.int 20)) aNil)))) aNil))))))) (tgN 8)) (sSeq (sIf (tNotD (tTru (eCallP f__law_like (aCons (eVar 8) (aCons (eFrz (nLst (aCons (eVar 4) (aCons (eVar 5) (aCons (eCallB opTuple (aCons (eFrz (nCallB opSortB (aCons (eVar 6) aNil))) aNil)) (aCons (eTup (aCons (eC (.str "end")) (aCons (eVar 2) aNil))) (aCons (eTup (aCons (eC (.str "end")) (aCons (eOp opSub (eOp opSub (eVar 0) (eC (.int 1))) (eVar 3)) aNil))) aNil))))))) aNil))))) (sRet (eC (.bl false))) sNx) (sIf (tOf (eOp opNotN (eVar 4) (eC .non))) (sIf (tNotD (tTru (eCallP f__law_like (aCons (eCallP f_almost_split (aCons (eVar 1) (aCons (eVar 7) aNil))) (aCons (eTup (aCons (eVar 7) (aCons (eCallB opTuple (aCons (eFrz (nCallB opSortB (aCons (eVar 6) aNil))) aNil)) (aCons (eVar 4) aNil)))) aNil))))) (sRet (eC (.bl false))) sNx) sNx))))))))) (sRet (eC (.bl true)))))
def f__law_line_right : List D → Store → R D := runF 1 10 b__law_line_right
def b__law_noughts_right : EvT := (sSeq (sAsg (eIfE (tTru (eVar 1)) (eVar 0) (eOp opSub (eVar 0) (eC (.int 1)))) (tgN 2)) (sSeq (sAsg (eCallB opTuple (aCons (eFrz (nLc (iRg1 (eIfE (tTru (eVar 1)) (eVar 2) (eOp opSub (eVar 2) (eC (.int 1))))) (tgN 9) tYesD (eTup (aCons (eVar 9) (aCons (eOp opMod (eCallB opInt (aCons (eOp opAdd (eVar 9) (eC (.int 1))) aNil)) (eVar 0)) aNil))) [9])) aNil)) (tgN 3)) (sSeq (sAsg (eTup (aCons (eVar 0) (aCons (eCallB opTuple (aCons (eFrz (nLc (iRg1 (eVar 2)) (tgN 9) tYesD (eTup (aCons (eVar 9) (aCons (eOp opMod (eCallB opInt (aCons (eOp opAdd (eVar 9) (eC (.int 1))) aNil)) (eVar 0)) aNil))) [9])) aNil)) (aCons (eCallB opTuple (aCons (eFrz (nCallB opSortB (aCons (eVar 3) aNil))) aNil)) aNil)))) (tgN 4)) (sSeq (sFor 1000 (iRg1 (eVar 0)) (tgN 5) (sSeq (sAsg (eIfE (tOrD (tTru (eVar 1)) (tOf (eOp opGt (eVar 5) (eC (.int 0))))) (eOp opMod (eCallB opInt (aCons (eOp opSub (eVar 5) (eC (.int 1))) aNil)) (eVar 0)) (eC .non)) (tgN 6)) (sSeq (sAsg (eFrz (nLst (aCons (eCallP f_forth (aCons (eVar 4) (aCons (eTup (aCons (eVar 5) (aCons (eTup aNil) aNil))) aNil))) (aCons (eCallP f_road (aCons (eVar 4) (aCons (eTup (aCons (eVar 5) (aCons (eTup aNil) aNil))) (aCons (eC (.int 20)) aNil)))) aNil)))) (tgN 7)) (sSeq (sAsg (eFrz (nLst (aCons (eIfE (tOf (eOp opIsN (eVar 6) (eC .non))) (eC .non) (eTup (aCons (eVar 6) (aCons (eTup aNil) aNil)))) (aCons (eIfE (tTru (eVar 1)) (eTup (aCons (eC (.str "ring")) (aCons (eVar 0) aNil))) (eTup (aCons (eC (.str "end")) (aCons (eVar 5) aNil)))) aNil)))) (tgN 8)) (sIf (tNotD (tTru (eCallP f__law_like (aCons (eVar 7) (aCons (eVar 8) aNil))))) (sRet (eC (.bl false))) sNx))))) (sSeq (sFor 1000 (iRg1 (eVar 2)) (tgN 9) (sSeq (sAsg (eCallP f__law_string (aCons (eVar 4) (aCons (eTup (aCons (eVar 9) (aCons (eTup (aCons (eVar 9) aNil)) aNil))) aNil))) (tgN 10)) (sSeq (sAsg (eCallP f__law_string (aCons (eVar 4) (aCons (eTup (aCons (eVar 9) (aCons (eTup aNil) aNil))) aNil))) (tgN 11)) (sIf (tNotD (tTru (eCallP f__law_like (aCons (eFrz (nLst (aCons (eCallP f_forth (aCons (eVar 4) (aCons (eVar 10) aNil))) (aCons (eCallP f_back (aCons (eVar 4) (aCons (eVar 10) aNil))) (aCons (eCallP f_middle (aCons (eVar 4) (aCons (eVar 10) aNil))) aNil))))) (aCons (eFrz (nLst (aCons (eC .non) (aCons (eC .non) (aCons (eTup (aCons (eVar 11) aNil)) aNil))))) aNil))))) (sRet (eC (.bl false))) sNx)))) (sRet (eC (.bl true))))))))
def f__law_noughts_right : List D → Store → R D := runF 2 12 b__law_noughts_right
def b_law : EvT := (sSeq (sAsg (eCallR f__law_begun (aCons (eVar 0) (aCons (eC (.int 0)) aNil))) (tgN 1)) (sSeq (sAsg (eOp opAdd (eC (.int 1)) (eCallR f__law_draw (aCons (eVar 1) (aCons (eC (.int 12)) aNil)))) (tgN 2)) (sSeq (sFor 1000 (iSeq (eTup (aCons (eC (.int 1)) (aCons (eC (.int 2)) (aCons (eC (.int 3)) (aCons (eVar 2) aNil)))))) (tgN 3) (sIf (tOrD (tNotD (tTru (eCallP f__law_line_right (aCons (eVar 3) aNil)))) (tOrD (tNotD (tTru (eCallP f__law_noughts_right (aCons (eVar 3) (aCons (eC (.bl false)) aNil))))) (tNotD (tTru (eCallP f__law_noughts_right (aCons (eVar 3) (aCons (eC (.bl true)) aNil))))))) (sRet (eC (.bl false))) sNx)) (sRet (eC (.bl true))))))
def f_law : List D → Store → R D := runF 1 4 b_law
end FK

set_option Elab.async false
set_option linter.all false
set_option maxRecDepth 100000
set_option maxHeartbeats 4000000
namespace FK
open PySem PySem.Spec PyProof.Rows L2 DL HeadK
section
variable {P : Program} {w : World} {K : PySem.W.Frag} {mg : PySem.Str → Option Value} {base : Heap} {W : Wd}
theorem sc_ends_of : FnScope ["plan", "letter", "begin", "end"] ["plan", "letter"] (defScope s_ends_of) := ⟨rfl, rfl, rfl, by decide +kernel, rfl, by decide +kernel, by decide +kernel⟩
theorem ok_ends_of {fd : FuncData} (F : FunD K "ends_of" "ends_of" (defArgs s_ends_of) (defBody s_ends_of) (defScope s_ends_of) [] [] (W.F 0) fd) (hm : mg "ends_of" = some (.ref (W.F 0))) :
    Cal P w K mg base (L2.CX P w) W 1 "ends_of" 0 2 f_ends_of :=
  ⟨fd, ["plan", "letter"], gokD F sc_ends_of fun cdv B up z H E fr => 
      (dss_cons (ds_if (dt_cmp (op_geP fr.r.units) od_ge (de_var (i := 1) rfl (Or.inl rfl)) de_int) (dss_one (ds_ret (de_ix (de_ix (de_var (i := 0) rfl (Or.inl rfl)) de_int) (de_var (i := 1) rfl (Or.inl rfl))))) dss_nil)
      (dss_cons (ds_asg (de_ix (de_ix (de_var (i := 0) rfl (Or.inl rfl)) de_int) (de_sub (de_neg de_int) (de_var (i := 1) rfl (Or.inl rfl)))) (dg_tup rfl (dgs_cons (dg_name (i := 2) sc_ends_of.nd rfl (Or.inl rfl)) (dgs_cons (dg_name (i := 3) sc_ends_of.nd rfl (Or.inl rfl)) dgs_nil))))
      (dss_one (ds_ret (de_tup (da_cons (de_var (i := 3) rfl (Or.inl rfl)) (da_cons (de_var (i := 2) rfl (Or.inl rfl)) da_nil))))))), hm, F.kp, F.bindsN fun _ _ _ _ _ _ us hl => match us, hl with | [_, _], _ => rfl⟩
theorem sc_next_of : FnScope ["plan", "arrow", "end", "other", "ends"] ["plan", "arrow"] (defScope s_next_of) := ⟨rfl, rfl, rfl, by decide +kernel, rfl, by decide +kernel, by decide +kernel⟩
theorem ok_next_of {fd : FuncData} (F : FunD K "next_of" "next_of" (defArgs s_next_of) (defBody s_next_of) (defScope s_next_of) [] [] (W.F 1) fd) (hm : mg "next_of" = some (.ref (W.F 1))) (g_enumerate : mg "enumerate" = none) :
    Cal P w K mg base (L2.CX P w) W 1 "next_of" 1 2 f_next_of :=
  ⟨fd, ["plan", "arrow"], gokD F sc_next_of fun cdv B up z H E fr => 
      (dss_cons (ds_set (i := 2) sc_next_of.nd rfl (Or.inl rfl) (de_ix (de_ix (de_ix (de_var (i := 0) rfl (Or.inl rfl)) de_int) (de_var (i := 1) rfl (Or.inl rfl))) de_int))
      (dss_cons (ds_for pown rfl (di_enum rfl g_enumerate (de_ix (de_var (i := 0) rfl (Or.inl rfl)) de_int)) (dg_tup rfl (dgs_cons (dg_name (i := 3) sc_next_of.nd rfl (Or.inl rfl)) (dgs_cons (dg_name (i := 4) sc_next_of.nd rfl (Or.inl rfl)) dgs_nil))) (dss_one (ds_if (dw_pt (dw_and (dt_cmp (op_eqP fr.r.units) od_eq (de_ix (de_var (i := 4) rfl (Or.inl rfl)) de_int) (de_var (i := 2) rfl (Or.inl rfl))) (dw_and1 (dt_cmp (op_notInP fr.r.units) od_notIn (de_tup (da_cons (de_var (i := 1) rfl (Or.inl rfl)) (da_cons (de_var (i := 3) rfl (Or.inl rfl)) da_nil))) (de_ix (de_var (i := 0) rfl (Or.inl rfl)) de_int))))) (dss_one (ds_ret (de_var (i := 3) rfl (Or.inl rfl)))) dss_nil)))
      (dss_one (ds_ret de_non)))), hm, F.kp, F.bindsN fun _ _ _ _ _ _ us hl => match us, hl with | [_, _], _ => rfl⟩
theorem sc_ahead_of : FnScope ["plan", "arrow", "begin", "other", "ends"] ["plan", "arrow"] (defScope s_ahead_of) := ⟨rfl, rfl, rfl, by decide +kernel, rfl, by decide +kernel, by decide +kernel⟩
theorem ok_ahead_of {fd : FuncData} (F : FunD K "ahead_of" "ahead_of" (defArgs s_ahead_of) (defBody s_ahead_of) (defScope s_ahead_of) [] [] (W.F 2) fd) (hm : mg "ahead_of" = some (.ref (W.F 2))) (g_enumerate : mg "enumerate" = none) :
    Cal P w K mg base (L2.CX P w) W 1 "ahead_of" 2 2 f_ahead_of :=
  ⟨fd, ["plan", "arrow"], gokD F sc_ahead_of fun cdv B up z H E fr => 
      (dss_cons (ds_set (i := 2) sc_ahead_of.nd rfl (Or.inl rfl) (de_ix (de_ix (de_ix (de_var (i := 0) rfl (Or.inl rfl)) de_int) (de_var (i := 1) rfl (Or.inl rfl))) de_int))
      (dss_cons (ds_for pown rfl (di_enum rfl g_enumerate (de_ix (de_var (i := 0) rfl (Or.inl rfl)) de_int)) (dg_tup rfl (dgs_cons (dg_name (i := 3) sc_ahead_of.nd rfl (Or.inl rfl)) (dgs_cons (dg_name (i := 4) sc_ahead_of.nd rfl (Or.inl rfl)) dgs_nil))) (dss_one (ds_if (dw_pt (dw_and (dt_cmp (op_eqP fr.r.units) od_eq (de_ix (de_var (i := 4) rfl (Or.inl rfl)) de_int) (de_var (i := 2) rfl (Or.inl rfl))) (dw_and1 (dt_cmp (op_notInP fr.r.units) od_notIn (de_tup (da_cons (de_var (i := 3) rfl (Or.inl rfl)) (da_cons (de_var (i := 1) rfl (Or.inl rfl)) da_nil))) (de_ix (de_var (i := 0) rfl (Or.inl rfl)) de_int))))) (dss_one (ds_ret (de_var (i := 3) rfl (Or.inl rfl)))) dss_nil)))
      (dss_one (ds_ret de_non)))), hm, F.kp, F.bindsN fun _ _ _ _ _ _ us hl => match us, hl with | [_, _], _ => rfl⟩
theorem sc_other_begun : FnScope ["plan", "arrow", "other", "ends"] ["plan", "arrow"] (defScope s_other_begun) := ⟨rfl, rfl, rfl, by decide +kernel, rfl, by decide +kernel, by decide +kernel⟩
theorem ok_other_begun {fd : FuncData} (F : FunD K "other_begun" "other_begun" (defArgs s_other_begun) (defBody s_other_begun) (defScope s_other_begun) [] [] (W.F 3) fd) (hm : mg "other_begun" = some (.ref (W.F 3))) (g_enumerate : mg "enumerate" = none) :
    Cal P w K mg base (L2.CX P w) W 1 "other_begun" 3 2 f_other_begun :=
  ⟨fd, ["plan", "arrow"], gokD F sc_other_begun fun cdv B up z H E fr => 
      (dss_cons (ds_for pown rfl (di_enum rfl g_enumerate (de_ix (de_var (i := 0) rfl (Or.inl rfl)) de_int)) (dg_tup rfl (dgs_cons (dg_name (i := 2) sc_other_begun.nd rfl (Or.inl rfl)) (dgs_cons (dg_name (i := 3) sc_other_begun.nd rfl (Or.inl rfl)) dgs_nil))) (dss_one (ds_if (dw_pt (dw_and (dt_cmp (op_neP fr.r.units) od_ne (de_var (i := 2) rfl (Or.inl rfl)) (de_var (i := 1) rfl (Or.inl rfl))) (dw_and1 (dt_cmp (op_eqP fr.r.units) od_eq (de_ix (de_var (i := 3) rfl (Or.inl rfl)) de_int) (de_ix (de_ix (de_ix (de_var (i := 0) rfl (Or.inl rfl)) de_int) (de_var (i := 1) rfl (Or.inl rfl))) de_int))))) (dss_one (ds_ret (de_var (i := 2) rfl (Or.inl rfl)))) dss_nil)))
      (dss_one (ds_ret de_non))), hm, F.kp, F.bindsN fun _ _ _ _ _ _ us hl => match us, hl with | [_, _], _ => rfl⟩
theorem sc_other_ended : FnScope ["plan", "arrow", "other", "ends"] ["plan", "arrow"] (defScope s_other_ended) := ⟨rfl, rfl, rfl, by decide +kernel, rfl, by decide +kernel, by decide +kernel⟩
theorem ok_other_ended {fd : FuncData} (F : FunD K "other_ended" "other_ended" (defArgs s_other_ended) (defBody s_other_ended) (defScope s_other_ended) [] [] (W.F 4) fd) (hm : mg "other_ended" = some (.ref (W.F 4))) (g_enumerate : mg "enumerate" = none) :
    Cal P w K mg base (L2.CX P w) W 1 "other_ended" 4 2 f_other_ended :=
  ⟨fd, ["plan", "arrow"], gokD F sc_other_ended fun cdv B up z H E fr => 
      (dss_cons (ds_for pown rfl (di_enum rfl g_enumerate (de_ix (de_var (i := 0) rfl (Or.inl rfl)) de_int)) (dg_tup rfl (dgs_cons (dg_name (i := 2) sc_other_ended.nd rfl (Or.inl rfl)) (dgs_cons (dg_name (i := 3) sc_other_ended.nd rfl (Or.inl rfl)) dgs_nil))) (dss_one (ds_if (dw_pt (dw_and (dt_cmp (op_neP fr.r.units) od_ne (de_var (i := 2) rfl (Or.inl rfl)) (de_var (i := 1) rfl (Or.inl rfl))) (dw_and1 (dt_cmp (op_eqP fr.r.units) od_eq (de_ix (de_var (i := 3) rfl (Or.inl rfl)) de_int) (de_ix (de_ix (de_ix (de_var (i := 0) rfl (Or.inl rfl)) de_int) (de_var (i := 1) rfl (Or.inl rfl))) de_int))))) (dss_one (ds_ret (de_var (i := 2) rfl (Or.inl rfl)))) dss_nil)))
      (dss_one (ds_ret de_non))), hm, F.kp, F.bindsN fun _ _ _ _ _ _ us hl => match us, hl with | [_, _], _ => rfl⟩
theorem sc_mate_of : FnScope ["plan", "letter", "other"] ["plan", "letter"] (defScope s_mate_of) := ⟨rfl, rfl, rfl, by decide +kernel, rfl, by decide +kernel, by decide +kernel⟩
theorem ok_mate_of {fd : FuncData} (F : FunD K "mate_of" "mate_of" (defArgs s_mate_of) (defBody s_mate_of) (defScope s_mate_of) [] [] (W.F 5) fd) (hm : mg "mate_of" = some (.ref (W.F 5))) (c_other_begun : Cal P w K mg base (L2.CX P w) W 1 "other_begun" 3 2 f_other_begun) (c_other_ended : Cal P w K mg base (L2.CX P w) W 1 "other_ended" 4 2 f_other_ended) :
    Cal P w K mg base (L2.CX P w) W 2 "mate_of" 5 2 f_mate_of :=
  ⟨fd, ["plan", "letter"], gokD F sc_mate_of fun cdv B up z H E fr => 
      (dss_cons (ds_if (dt_cmp (op_geP fr.r.units) od_ge (de_var (i := 1) rfl (Or.inl rfl)) de_int) (dss_one (ds_ret (de_callP c_other_begun fr px rfl (da_cons (de_var (i := 0) rfl (Or.inl rfl)) (da_cons (de_var (i := 1) rfl (Or.inl rfl)) da_nil)) (hlen := (len_cons (len_cons len_nil)))))) dss_nil)
      (dss_cons (ds_set (i := 2) sc_mate_of.nd rfl (Or.inl rfl) (de_callP c_other_ended fr px rfl (da_cons (de_var (i := 0) rfl (Or.inl rfl)) (da_cons (de_sub (de_neg de_int) (de_var (i := 1) rfl (Or.inl rfl))) da_nil)) (hlen := (len_cons (len_cons len_nil)))))
      (dss_one (ds_ret (de_if (dt_cmp op_isN od_isN (de_var (i := 2) rfl (Or.inl rfl)) de_non) de_non (de_sub (de_neg de_int) (de_var (i := 2) rfl (Or.inl rfl)))))))), hm, F.kp, F.bindsN fun _ _ _ _ _ _ us hl => match us, hl with | [_, _], _ => rfl⟩
theorem sc_followers : FnScope ["plan", "letter", "along", "against", "found"] ["plan", "letter"] (defScope s_followers) := ⟨rfl, rfl, rfl, by decide +kernel, rfl, by decide +kernel, by decide +kernel⟩
theorem ok_followers {fd : FuncData} (F : FunD K "followers" "followers" (defArgs s_followers) (defBody s_followers) (defScope s_followers) [] [] (W.F 6) fd) (hm : mg "followers" = some (.ref (W.F 6))) (g_tuple : mg "tuple" = none) (c_next_of : Cal P w K mg base (L2.CX P w) W 1 "next_of" 1 2 f_next_of) (c_other_ended : Cal P w K mg base (L2.CX P w) W 1 "other_ended" 4 2 f_other_ended) (c_other_begun : Cal P w K mg base (L2.CX P w) W 1 "other_begun" 3 2 f_other_begun) (c_ahead_of : Cal P w K mg base (L2.CX P w) W 1 "ahead_of" 2 2 f_ahead_of) :
    Cal P w K mg base (L2.CX P w) W 2 "followers" 6 2 f_followers :=
  ⟨fd, ["plan", "letter"], gokD F sc_followers fun cdv B up z H E fr => 
      (dss_cons (ds_if (dt_cmp (op_geP fr.r.units) od_ge (de_var (i := 1) rfl (Or.inl rfl)) de_int) (dss_one (ds_par (i := 2) (j := 3) rfl sc_followers.nd rfl rfl (by decide) rfl rfl (de_callP c_next_of fr px rfl (da_cons (de_var (i := 0) rfl (Or.inl rfl)) (da_cons (de_var (i := 1) rfl (Or.inl rfl)) da_nil)) (hlen := (len_cons (len_cons len_nil)))) (de_callP c_other_ended fr px rfl (da_cons (de_var (i := 0) rfl (Or.inl rfl)) (da_cons (de_var (i := 1) rfl (Or.inl rfl)) da_nil)) (hlen := (len_cons (len_cons len_nil)))) rfl)) (dss_one (ds_par (i := 2) (j := 3) rfl sc_followers.nd rfl rfl (by decide) rfl rfl (de_callP c_other_begun fr px rfl (da_cons (de_var (i := 0) rfl (Or.inl rfl)) (da_cons (de_sub (de_neg de_int) (de_var (i := 1) rfl (Or.inl rfl))) da_nil)) (hlen := (len_cons (len_cons len_nil)))) (de_callP c_ahead_of fr px rfl (da_cons (de_var (i := 0) rfl (Or.inl rfl)) (da_cons (de_sub (de_neg de_int) (de_var (i := 1) rfl (Or.inl rfl))) da_nil)) (hlen := (len_cons (len_cons len_nil)))) rfl)))
      (dss_cons (ds_set (i := 4) sc_followers.nd rfl (Or.inl rfl) (de_if (dt_cmp op_isN od_isN (de_var (i := 3) rfl (Or.inl rfl)) de_non) (de_frz (dn_lst da_nil)) (de_frz (dn_lst (da_cons (de_sub (de_neg de_int) (de_var (i := 3) rfl (Or.inl rfl))) da_nil)))))
      (dss_one (ds_ret (de_callTy call_tuple_of cd_tuple rfl g_tuple boot_tuple (da_cons (de_add (de_var (i := 4) rfl (Or.inl rfl)) (de_if (dt_cmp op_isN od_isN (de_var (i := 2) rfl (Or.inl rfl)) de_non) (de_frz (dn_lst da_nil)) (de_frz (dn_lst (da_cons (de_var (i := 2) rfl (Or.inl rfl)) da_nil))))) da_nil)))))), hm, F.kp, F.bindsN fun _ _ _ _ _ _ us hl => match us, hl with | [_, _], _ => rfl⟩
theorem sc_may_follow : FnScope ["plan", "letter", "other"] ["plan", "letter", "other"] (defScope s_may_follow) := ⟨rfl, rfl, rfl, by decide +kernel, rfl, by decide +kernel, by decide +kernel⟩
theorem ok_may_follow {fd : FuncData} (F : FunD K "may_follow" "may_follow" (defArgs s_may_follow) (defBody s_may_follow) (defScope s_may_follow) [] [] (W.F 7) fd) (hm : mg "may_follow" = some (.ref (W.F 7))) (c_followers : Cal P w K mg base (L2.CX P w) W 2 "followers" 6 2 f_followers) :
    Cal P w K mg base (L2.CX P w) W 3 "may_follow" 7 3 f_may_follow :=
  ⟨fd, ["plan", "letter", "other"], gokD F sc_may_follow fun cdv B up z H E fr => 
      (dss_one (ds_ret (de_cmp (op_inP fr.r.units) od_in (de_var (i := 2) rfl (Or.inl rfl)) (de_callP c_followers fr px rfl (da_cons (de_var (i := 0) rfl (Or.inl rfl)) (da_cons (de_var (i := 1) rfl (Or.inl rfl)) da_nil)) (hlen := (len_cons (len_cons len_nil))))))), hm, F.kp, F.bindsN fun _ _ _ _ _ _ us hl => match us, hl with | [_, _, _], _ => rfl⟩
theorem sc_turned_plan : FnScope ["plan", "size", "arrows", "noughts", "turned", "begin", "end", "one", "other"] ["plan"] (defScope s_turned_plan) := ⟨rfl, rfl, rfl, by decide +kernel, rfl, by decide +kernel, by decide +kernel⟩
theorem ok_turned_plan {fd : FuncData} (F : FunD K "turned_plan" "turned_plan" (defArgs s_turned_plan) (defBody s_turned_plan) (defScope s_turned_plan) [] [] (W.F 8) fd) (hm : mg "turned_plan" = some (.ref (W.F 8))) (g_sorted : mg "sorted" = none) (g_tuple : mg "tuple" = none) :
    Cal P w K mg base (L2.CX P w) W 1 "turned_plan" 8 1 f_turned_plan :=
  ⟨fd, ["plan"], gokD F sc_turned_plan fun cdv B up z H E fr => 
      (dss_cons (ds_asg (de_var (i := 0) rfl (Or.inl rfl)) (dg_tup rfl (dgs_cons (dg_name (i := 1) sc_turned_plan.nd rfl (Or.inl rfl)) (dgs_cons (dg_name (i := 2) sc_turned_plan.nd rfl (Or.inl rfl)) (dgs_cons (dg_name (i := 3) sc_turned_plan.nd rfl (Or.inl rfl)) dgs_nil)))))
      (dss_cons (ds_set (i := 4) sc_turned_plan.nd rfl (Or.inl rfl) (de_callTy call_tuple_of cd_tuple rfl g_tuple boot_tuple (da_cons (de_frz (dn_lc (own := [("begin", 5), ("end", 6)]) (is := [5, 6]) rfl sc_turned_plan.nd (di_seq (de_var (i := 2) rfl (Or.inl rfl))) (blkOk_by rfl) ⟨gTup _ 2 (gsOf [5, 6]), fun _ _ _ _ _ => pg_tup rfl (pgs_cons (pg_name (i := 5) sc_turned_plan.nd rfl (Or.inl rfl)) (pgs_cons (pg_name (i := 6) sc_turned_plan.nd rfl (Or.inl rfl)) pgs_nil)), tr_tup rfl⟩ (fun _ _ _ _ _ => dts_nil) (fun _ _ _ _ _ => (de_tup (da_cons (de_var (i := 6) rfl (Or.inl rfl)) (da_cons (de_var (i := 5) rfl (Or.inl rfl)) da_nil)))) (by decide))) da_nil)))
      (dss_one (ds_ret (de_tup (da_cons (de_var (i := 1) rfl (Or.inl rfl)) (da_cons (de_var (i := 4) rfl (Or.inl rfl)) (da_cons (de_callTy call_tuple_of cd_tuple rfl g_tuple boot_tuple (da_cons (de_frz (dn_callB (cr_sortB fr.r.units) cn_sortB rfl g_sorted PyProof.Rows.boot_sorted (da_cons (de_frz (dn_lc (own := [("one", 7), ("other", 8)]) (is := [7, 8]) rfl sc_turned_plan.nd (di_seq (de_var (i := 3) rfl (Or.inl rfl))) (blkOk_by rfl) ⟨gTup _ 2 (gsOf [7, 8]), fun _ _ _ _ _ => pg_tup rfl (pgs_cons (pg_name (i := 7) sc_turned_plan.nd rfl (Or.inl rfl)) (pgs_cons (pg_name (i := 8) sc_turned_plan.nd rfl (Or.inl rfl)) pgs_nil)), tr_tup rfl⟩ (fun _ _ _ _ _ => dts_nil) (fun _ _ _ _ _ => (de_tup (da_cons (de_var (i := 8) rfl (Or.inl rfl)) (da_cons (de_var (i := 7) rfl (Or.inl rfl)) da_nil)))) (by decide))) da_nil))) da_nil)) da_nil)))))))), hm, F.kp, F.bindsN fun _ _ _ _ _ _ us hl => match us, hl with | [_], _ => rfl⟩
theorem sc_end_of : FnScope ["plan", "walk"] ["plan", "walk"] (defScope s_end_of) := ⟨rfl, rfl, rfl, by decide +kernel, rfl, by decide +kernel, by decide +kernel⟩
theorem ok_end_of {fd : FuncData} (F : FunD K "end_of" "end_of" (defArgs s_end_of) (defBody s_end_of) (defScope s_end_of) [] [] (W.F 9) fd) (hm : mg "end_of" = some (.ref (W.F 9))) (c_ends_of : Cal P w K mg base (L2.CX P w) W 1 "ends_of" 0 2 f_ends_of) :
    Cal P w K mg base (L2.CX P w) W 2 "end_of" 9 2 f_end_of :=
  ⟨fd, ["plan", "walk"], gokD F sc_end_of fun cdv B up z H E fr => 
      (dss_one (ds_ret (de_if (dt_tru (de_ix (de_var (i := 1) rfl (Or.inl rfl)) de_int)) (de_ix (de_callP c_ends_of fr px rfl (da_cons (de_var (i := 0) rfl (Or.inl rfl)) (da_cons (de_ix (de_ix (de_var (i := 1) rfl (Or.inl rfl)) de_int) (de_neg de_int)) da_nil)) (hlen := (len_cons (len_cons len_nil)))) de_int) (de_ix (de_var (i := 1) rfl (Or.inl rfl)) de_int)))), hm, F.kp, F.bindsN fun _ _ _ _ _ _ us hl => match us, hl with | [_, _], _ => rfl⟩
theorem sc_turned : FnScope ["plan", "walk", "letter"] ["plan", "walk"] (defScope s_turned) := ⟨rfl, rfl, rfl, by decide +kernel, rfl, by decide +kernel, by decide +kernel⟩
theorem ok_turned {fd : FuncData} (F : FunD K "turned" "turned" (defArgs s_turned) (defBody s_turned) (defScope s_turned) [] [] (W.F 10) fd) (hm : mg "turned" = some (.ref (W.F 10))) (g_tuple : mg "tuple" = none) (c_end_of : Cal P w K mg base (L2.CX P w) W 2 "end_of" 9 2 f_end_of) :
    Cal P w K mg base (L2.CX P w) W 3 "turned" 10 2 f_turned :=
  ⟨fd, ["plan", "walk"], gokD F sc_turned fun cdv B up z H E fr => 
      (dss_one (ds_ret (de_tup (da_cons (de_callP c_end_of fr px rfl (da_cons (de_var (i := 0) rfl (Or.inl rfl)) (da_cons (de_var (i := 1) rfl (Or.inl rfl)) da_nil)) (hlen := (len_cons (len_cons len_nil)))) (da_cons (de_callTy call_tuple_of cd_tuple rfl g_tuple boot_tuple (da_cons (de_frz (dn_lc (own := [("letter", 2)]) (is := [2]) rfl sc_turned.nd (di_seq (de_rev (de_ix (de_var (i := 1) rfl (Or.inl rfl)) de_int))) (blkOk_by rfl) ⟨gName 2, fun _ _ _ _ _ => pg_name (i := 2) sc_turned.nd rfl (Or.inl rfl), tr_name⟩ (fun _ _ _ _ _ => dts_nil) (fun _ _ _ _ _ => (de_sub (de_neg de_int) (de_var (i := 2) rfl (Or.inl rfl)))) (by decide))) da_nil)) da_nil))))), hm, F.kp, F.bindsN fun _ _ _ _ _ _ us hl => match us, hl with | [_, _], _ => rfl⟩
theorem sc_string_of : FnScope ["plan", "walk", "other"] ["plan", "walk"] (defScope s_string_of) := ⟨rfl, rfl, rfl, by decide +kernel, rfl, by decide +kernel, by decide +kernel⟩
theorem ok_string_of {fd : FuncData} (F : FunD K "string_of" "string_of" (defArgs s_string_of) (defBody s_string_of) (defScope s_string_of) [] [] (W.F 11) fd) (hm : mg "string_of" = some (.ref (W.F 11))) (c_turned : Cal P w K mg base (L2.CX P w) W 3 "turned" 10 2 f_turned) :
    Cal P w K mg base (L2.CX P w) W 4 "string_of" 11 2 f_string_of :=
  ⟨fd, ["plan", "walk"], gokD F sc_string_of fun cdv B up z H E fr => 
      (dss_cons (ds_set (i := 2) sc_string_of.nd rfl (Or.inl rfl) (de_callP c_turned fr px rfl (da_cons (de_var (i := 0) rfl (Or.inl rfl)) (da_cons (de_var (i := 1) rfl (Or.inl rfl)) da_nil)) (hlen := (len_cons (len_cons len_nil)))))
      (dss_one (ds_ret (de_if (dt_cmp (op_leP fr.r.units) od_le (de_var (i := 1) rfl (Or.inl rfl)) (de_var (i := 2) rfl (Or.inl rfl))) (de_var (i := 1) rfl (Or.inl rfl)) (de_var (i := 2) rfl (Or.inl rfl)))))), hm, F.kp, F.bindsN fun _ _ _ _ _ _ us hl => match us, hl with | [_, _], _ => rfl⟩
theorem sc_in_turned_plan : FnScope ["plan", "walk", "letter"] ["plan", "walk"] (defScope s_in_turned_plan) := ⟨rfl, rfl, rfl, by decide +kernel, rfl, by decide +kernel, by decide +kernel⟩
theorem ok_in_turned_plan {fd : FuncData} (F : FunD K "in_turned_plan" "in_turned_plan" (defArgs s_in_turned_plan) (defBody s_in_turned_plan) (defScope s_in_turned_plan) [] [] (W.F 12) fd) (hm : mg "in_turned_plan" = some (.ref (W.F 12))) (g_tuple : mg "tuple" = none) :
    Cal P w K mg base (L2.CX P w) W 1 "in_turned_plan" 12 2 f_in_turned_plan :=
  ⟨fd, ["plan", "walk"], gokD F sc_in_turned_plan fun cdv B up z H E fr => 
      (dss_one (ds_ret (de_tup (da_cons (de_ix (de_var (i := 1) rfl (Or.inl rfl)) de_int) (da_cons (de_callTy call_tuple_of cd_tuple rfl g_tuple boot_tuple (da_cons (de_frz (dn_lc (own := [("letter", 2)]) (is := [2]) rfl sc_in_turned_plan.nd (di_seq (de_ix (de_var (i := 1) rfl (Or.inl rfl)) de_int)) (blkOk_by rfl) ⟨gName 2, fun _ _ _ _ _ => pg_name (i := 2) sc_in_turned_plan.nd rfl (Or.inl rfl), tr_name⟩ (fun _ _ _ _ _ => dts_nil) (fun _ _ _ _ _ => (de_sub (de_neg de_int) (de_var (i := 2) rfl (Or.inl rfl)))) (by decide))) da_nil)) da_nil))))), hm, F.kp, F.bindsN fun _ _ _ _ _ _ us hl => match us, hl with | [_, _], _ => rfl⟩
theorem sc_arrows_into : FnScope ["plan", "point", "arrow", "ends"] ["plan", "point"] (defScope s_arrows_into) := ⟨rfl, rfl, rfl, by decide +kernel, rfl, by decide +kernel, by decide +kernel⟩
theorem ok_arrows_into {fd : FuncData} (F : FunD K "arrows_into" "arrows_into" (defArgs s_arrows_into) (defBody s_arrows_into) (defScope s_arrows_into) [] [] (W.F 13) fd) (hm : mg "arrows_into" = some (.ref (W.F 13))) (g_enumerate : mg "enumerate" = none) :
    Cal P w K mg base (L2.CX P w) W 1 "arrows_into" 13 2 f_arrows_into :=
  ⟨fd, ["plan", "point"], gokD F sc_arrows_into fun cdv B up z H E fr => 
      (dss_one (ds_ret (de_frz (dn_lc (own := [("arrow", 2), ("ends", 3)]) (is := [2, 3]) rfl sc_arrows_into.nd (di_enum rfl g_enumerate (de_ix (de_var (i := 0) rfl (Or.inl rfl)) de_int)) (blkOk_by rfl) ⟨gTup _ 2 (gsOf [2, 3]), fun _ _ _ _ _ => pg_tup rfl (pgs_cons (pg_name (i := 2) sc_arrows_into.nd rfl (Or.inl rfl)) (pgs_cons (pg_name (i := 3) sc_arrows_into.nd rfl (Or.inl rfl)) pgs_nil)), tr_tup rfl⟩ (fun _ _ _ _ _ => (dts_one (dt_cmp (op_eqP fr.r.units) od_eq (de_ix (de_var (i := 3) rfl (Or.inl rfl)) de_int) (de_var (i := 1) rfl (Or.inr (Or.inl rfl)))))) (fun _ _ _ _ _ => (de_var (i := 2) rfl (Or.inl rfl))) (by decide))))), hm, F.kp, F.bindsN fun _ _ _ _ _ _ us hl => match us, hl with | [_, _], _ => rfl⟩
theorem sc_hook_row : FnScope ["plan", "arrow", "row", "here"] ["plan", "arrow"] (defScope s_hook_row) := ⟨rfl, rfl, rfl, by decide +kernel, rfl, by decide +kernel, by decide +kernel⟩
theorem ok_hook_row {fd : FuncData} (F : FunD K "hook_row" "hook_row" (defArgs s_hook_row) (defBody s_hook_row) (defScope s_hook_row) [] [] (W.F 14) fd) (hm : mg "hook_row" = some (.ref (W.F 14))) (g_tuple : mg "tuple" = none) (c_mate_of : Cal P w K mg base (L2.CX P w) W 2 "mate_of" 5 2 f_mate_of) (c_next_of : Cal P w K mg base (L2.CX P w) W 1 "next_of" 1 2 f_next_of) :
    Cal P w K mg base (L2.CX P w) W 3 "hook_row" 14 2 f_hook_row :=
  ⟨fd, ["plan", "arrow"], gokD F sc_hook_row fun cdv B up z H E fr => 
      (dss_cons (ds_par (i := 2) (j := 3) rfl sc_hook_row.nd rfl rfl (by decide) rfl rfl (de_new (dn_lst (da_cons (de_sub (de_neg de_int) (de_var (i := 1) rfl (Or.inl rfl))) da_nil))) (de_callP c_mate_of fr px rfl (da_cons (de_var (i := 0) rfl (Or.inl rfl)) (da_cons (de_var (i := 1) rfl (Or.inl rfl)) da_nil)) (hlen := (len_cons (len_cons len_nil)))) rfl)
      (dss_cons (ds_while pown (dt_cmp op_notN od_notN (de_var (i := 3) rfl (Or.inl rfl)) de_non) (dss_cons (ds_expr (de_append (de_var (i := 2) rfl (Or.inl rfl)) (de_var (i := 3) rfl (Or.inl rfl))))
      (dss_one (ds_set (i := 3) sc_hook_row.nd rfl (Or.inl rfl) (de_callP c_next_of fr px rfl (da_cons (de_var (i := 0) rfl (Or.inl rfl)) (da_cons (de_var (i := 3) rfl (Or.inl rfl)) da_nil)) (hlen := (len_cons (len_cons len_nil))))))))
      (dss_one (ds_ret (de_callTy call_tuple_of cd_tuple rfl g_tuple boot_tuple (da_cons (de_var (i := 2) rfl (Or.inl rfl)) da_nil)))))), hm, F.kp, F.bindsN fun _ _ _ _ _ _ us hl => match us, hl with | [_, _], _ => rfl⟩
theorem sc_right_arrow : FnScope ["plan", "walk", "arrow"] ["plan", "walk"] (defScope s_right_arrow) := ⟨rfl, rfl, rfl, by decide +kernel, rfl, by decide +kernel, by decide +kernel⟩
theorem ok_right_arrow {fd : FuncData} (F : FunD K "right_arrow" "right_arrow" (defArgs s_right_arrow) (defBody s_right_arrow) (defScope s_right_arrow) [] [] (W.F 15) fd) (hm : mg "right_arrow" = some (.ref (W.F 15))) (c_end_of : Cal P w K mg base (L2.CX P w) W 2 "end_of" 9 2 f_end_of) (c_arrows_into : Cal P w K mg base (L2.CX P w) W 1 "arrows_into" 13 2 f_arrows_into) (c_may_follow : Cal P w K mg base (L2.CX P w) W 3 "may_follow" 7 3 f_may_follow) :
    Cal P w K mg base (L2.CX P w) W 4 "right_arrow" 15 2 f_right_arrow :=
  ⟨fd, ["plan", "walk"], gokD F sc_right_arrow fun cdv B up z H E fr => 
      (dss_cons (ds_for pown rfl (di_seq (de_callP c_arrows_into fr px rfl (da_cons (de_var (i := 0) rfl (Or.inl rfl)) (da_cons (de_callP c_end_of fr px rfl (da_cons (de_var (i := 0) rfl (Or.inl rfl)) (da_cons (de_var (i := 1) rfl (Or.inl rfl)) da_nil)) (hlen := (len_cons (len_cons len_nil)))) da_nil)) (hlen := (len_cons (len_cons len_nil))))) (dg_name (i := 2) sc_right_arrow.nd rfl (Or.inl rfl)) (dss_one (ds_if (dt_tru (de_callP c_may_follow fr px rfl (da_cons (de_var (i := 0) rfl (Or.inl rfl)) (da_cons (de_ix (de_ix (de_var (i := 1) rfl (Or.inl rfl)) de_int) (de_neg de_int)) (da_cons (de_sub (de_neg de_int) (de_var (i := 2) rfl (Or.inl rfl))) da_nil))) (hlen := (len_cons (len_cons (len_cons len_nil)))))) (dss_one (ds_ret (de_var (i := 2) rfl (Or.inl rfl)))) dss_nil)))
      (dss_one (ds_ret de_non))), hm, F.kp, F.bindsN fun _ _ _ _ _ _ us hl => match us, hl with | [_, _], _ => rfl⟩
theorem sc_end_arrows : FnScope ["plan", "walk", "found"] ["plan", "walk"] (defScope s_end_arrows) := ⟨rfl, rfl, rfl, by decide +kernel, rfl, by decide +kernel, by decide +kernel⟩
theorem ok_end_arrows {fd : FuncData} (F : FunD K "end_arrows" "end_arrows" (defArgs s_end_arrows) (defBody s_end_arrows) (defScope s_end_arrows) [] [] (W.F 16) fd) (hm : mg "end_arrows" = some (.ref (W.F 16))) (c_arrows_into : Cal P w K mg base (L2.CX P w) W 1 "arrows_into" 13 2 f_arrows_into) (c_turned : Cal P w K mg base (L2.CX P w) W 3 "turned" 10 2 f_turned) (c_right_arrow : Cal P w K mg base (L2.CX P w) W 4 "right_arrow" 15 2 f_right_arrow) :
    Cal P w K mg base (L2.CX P w) W 5 "end_arrows" 16 2 f_end_arrows :=
  ⟨fd, ["plan", "walk"], gokD F sc_end_arrows fun cdv B up z H E fr => 
      (dss_cons (ds_if (dt_cmp (op_eqP fr.r.units) od_eq (de_ix (de_var (i := 1) rfl (Or.inl rfl)) de_int) (de_tup da_nil)) (dss_cons (ds_set (i := 2) sc_end_arrows.nd rfl (Or.inl rfl) (de_add (de_callP c_arrows_into fr px rfl (da_cons (de_var (i := 0) rfl (Or.inl rfl)) (da_cons (de_ix (de_var (i := 1) rfl (Or.inl rfl)) de_int) da_nil)) (hlen := (len_cons (len_cons len_nil)))) (de_frz (dn_lst (da_cons de_non (da_cons de_non da_nil))))))
      (dss_one (ds_ret (de_tup (da_cons (de_ix (de_var (i := 2) rfl (Or.inl rfl)) de_int) (da_cons (de_ix (de_var (i := 2) rfl (Or.inl rfl)) de_int) da_nil)))))) dss_nil)
      (dss_one (ds_ret (de_tup (da_cons (de_callP c_right_arrow fr px rfl (da_cons (de_var (i := 0) rfl (Or.inl rfl)) (da_cons (de_callP c_turned fr px rfl (da_cons (de_var (i := 0) rfl (Or.inl rfl)) (da_cons (de_var (i := 1) rfl (Or.inl rfl)) da_nil)) (hlen := (len_cons (len_cons len_nil)))) da_nil)) (hlen := (len_cons (len_cons len_nil)))) (da_cons (de_callP c_right_arrow fr px rfl (da_cons (de_var (i := 0) rfl (Or.inl rfl)) (da_cons (de_var (i := 1) rfl (Or.inl rfl)) da_nil)) (hlen := (len_cons (len_cons len_nil)))) da_nil)))))), hm, F.kp, F.bindsN fun _ _ _ _ _ _ us hl => match us, hl with | [_, _], _ => rfl⟩
theorem sc_hooks : FnScope ["plan", "string", "arrow"] ["plan", "string"] (defScope s_hooks) := ⟨rfl, rfl, rfl, by decide +kernel, rfl, by decide +kernel, by decide +kernel⟩
theorem ok_hooks {fd : FuncData} (F : FunD K "hooks" "hooks" (defArgs s_hooks) (defBody s_hooks) (defScope s_hooks) [] [] (W.F 17) fd) (hm : mg "hooks" = some (.ref (W.F 17))) (g_tuple : mg "tuple" = none) (c_end_arrows : Cal P w K mg base (L2.CX P w) W 5 "end_arrows" 16 2 f_end_arrows) (c_hook_row : Cal P w K mg base (L2.CX P w) W 3 "hook_row" 14 2 f_hook_row) :
    Cal P w K mg base (L2.CX P w) W 6 "hooks" 17 2 f_hooks :=
  ⟨fd, ["plan", "string"], gokD F sc_hooks fun cdv B up z H E fr => 
      (dss_one (ds_ret (de_callTy call_tuple_of cd_tuple rfl g_tuple boot_tuple (da_cons (de_frz (dn_lc (own := [("arrow", 2)]) (is := [2]) rfl sc_hooks.nd (di_seq (de_callP c_end_arrows fr px rfl (da_cons (de_var (i := 0) rfl (Or.inr (Or.inl rfl))) (da_cons (de_var (i := 1) rfl (Or.inl rfl)) da_nil)) (hlen := (len_cons (len_cons len_nil))))) (blkOk_by rfl) ⟨gName 2, fun _ _ _ _ _ => pg_name (i := 2) sc_hooks.nd rfl (Or.inl rfl), tr_name⟩ (fun _ _ _ _ _ => dts_nil) (fun _ _ _ _ _ => (de_if (dt_cmp op_isN od_isN (de_var (i := 2) rfl (Or.inl rfl)) de_non) (de_tup da_nil) (de_callP c_hook_row fr passL rfl (da_cons (de_var (i := 0) rfl (Or.inr (Or.inl rfl))) (da_cons (de_var (i := 2) rfl (Or.inl rfl)) da_nil)) (hlen := (len_cons (len_cons len_nil)))))) (by decide))) da_nil)))), hm, F.kp, F.bindsN fun _ _ _ _ _ _ us hl => match us, hl with | [_, _], _ => rfl⟩
theorem sc_last_along : FnScope ["letters", "place", "letter"] ["letters"] (defScope s_last_along) := ⟨rfl, rfl, rfl, by decide +kernel, rfl, by decide +kernel, by decide +kernel⟩
theorem ok_last_along {fd : FuncData} (F : FunD K "last_along" "last_along" (defArgs s_last_along) (defBody s_last_along) (defScope s_last_along) [] [] (W.F 18) fd) (hm : mg "last_along" = some (.ref (W.F 18))) (g_enumerate : mg "enumerate" = none) (g_max : mg "max" = none) :
    Cal P w K mg base (L2.CX P w) W 1 "last_along" 18 1 f_last_along :=
  ⟨fd, ["letters"], gokD F sc_last_along fun cdv B up z H E fr => 
      (dss_one (ds_ret (de_callBK (cr_dfltmax rfl fr.r.units) ckd_max rfl g_max PyProof.Rows.boot_max (da_cons (de_frz (dn_lc (own := [("place", 1), ("letter", 2)]) (is := [1, 2]) rfl sc_last_along.nd (di_enum rfl g_enumerate (de_var (i := 0) rfl (Or.inl rfl))) (blkOk_by rfl) ⟨gTup _ 2 (gsOf [1, 2]), fun _ _ _ _ _ => pg_tup rfl (pgs_cons (pg_name (i := 1) sc_last_along.nd rfl (Or.inl rfl)) (pgs_cons (pg_name (i := 2) sc_last_along.nd rfl (Or.inl rfl)) pgs_nil)), tr_tup rfl⟩ (fun _ _ _ _ _ => (dts_one (dt_cmp (op_geP fr.r.units) od_ge (de_var (i := 2) rfl (Or.inl rfl)) de_int))) (fun _ _ _ _ _ => (de_var (i := 1) rfl (Or.inl rfl))) (by decide))) da_nil) (dkw_one (de_neg de_int))))), hm, F.kp, F.bindsN fun _ _ _ _ _ _ us hl => match us, hl with | [_], _ => rfl⟩
theorem sc_first_against : FnScope ["letters", "place", "letter"] ["letters"] (defScope s_first_against) := ⟨rfl, rfl, rfl, by decide +kernel, rfl, by decide +kernel, by decide +kernel⟩
theorem ok_first_against {fd : FuncData} (F : FunD K "first_against" "first_against" (defArgs s_first_against) (defBody s_first_against) (defScope s_first_against) [] [] (W.F 19) fd) (hm : mg "first_against" = some (.ref (W.F 19))) (g_enumerate : mg "enumerate" = none) (g_len : mg "len" = none) (g_min : mg "min" = none) :
    Cal P w K mg base (L2.CX P w) W 1 "first_against" 19 1 f_first_against :=
  ⟨fd, ["letters"], gokD F sc_first_against fun cdv B up z H E fr => 
      (dss_one (ds_ret (de_callBK (cr_dfltmin rfl fr.r.units) ckd_min rfl g_min PyProof.Rows.boot_min (da_cons (de_frz (dn_lc (own := [("place", 1), ("letter", 2)]) (is := [1, 2]) rfl sc_first_against.nd (di_enum rfl g_enumerate (de_var (i := 0) rfl (Or.inl rfl))) (blkOk_by rfl) ⟨gTup _ 2 (gsOf [1, 2]), fun _ _ _ _ _ => pg_tup rfl (pgs_cons (pg_name (i := 1) sc_first_against.nd rfl (Or.inl rfl)) (pgs_cons (pg_name (i := 2) sc_first_against.nd rfl (Or.inl rfl)) pgs_nil)), tr_tup rfl⟩ (fun _ _ _ _ _ => (dts_one (dt_cmp (op_ltP fr.r.units) od_lt (de_var (i := 2) rfl (Or.inl rfl)) de_int))) (fun _ _ _ _ _ => (de_var (i := 1) rfl (Or.inl rfl))) (by decide))) da_nil) (dkw_one (de_callB call_len_seq cd_len rfl g_len boot_len (da_cons (de_var (i := 0) rfl (Or.inl rfl)) da_nil)))))), hm, F.kp, F.bindsN fun _ _ _ _ _ _ us hl => match us, hl with | [_], _ => rfl⟩
theorem sc_piece : FnScope ["plan", "walk", "first", "last"] ["plan", "walk", "first", "last"] (defScope s_piece) := ⟨rfl, rfl, rfl, by decide +kernel, rfl, by decide +kernel, by decide +kernel⟩
theorem ok_piece {fd : FuncData} (F : FunD K "piece" "piece" (defArgs s_piece) (defBody s_piece) (defScope s_piece) [] [] (W.F 20) fd) (hm : mg "piece" = some (.ref (W.F 20))) (c_end_of : Cal P w K mg base (L2.CX P w) W 2 "end_of" 9 2 f_end_of) :
    Cal P w K mg base (L2.CX P w) W 3 "piece" 20 4 f_piece :=
  ⟨fd, ["plan", "walk", "first", "last"], gokD F sc_piece fun cdv B up z H E fr => 
      (dss_one (ds_ret (de_tup (da_cons (de_callP c_end_of fr px rfl (da_cons (de_var (i := 0) rfl (Or.inl rfl)) (da_cons (de_tup (da_cons (de_ix (de_var (i := 1) rfl (Or.inl rfl)) de_int) (da_cons (de_sl (de_ix (de_var (i := 1) rfl (Or.inl rfl)) de_int) do_none (do_some (de_var (i := 2) rfl (Or.inl rfl)))) da_nil))) da_nil)) (hlen := (len_cons (len_cons len_nil)))) (da_cons (de_sl (de_ix (de_var (i := 1) rfl (Or.inl rfl)) de_int) (do_some (de_var (i := 2) rfl (Or.inl rfl))) (do_some (de_var (i := 3) rfl (Or.inl rfl)))) da_nil))))), hm, F.kp, F.bindsN fun _ _ _ _ _ _ us hl => match us, hl with | [_, _, _, _], _ => rfl⟩
theorem sc_hooked_right : FnScope ["walk", "row"] ["walk", "row"] (defScope s_hooked_right) := ⟨rfl, rfl, rfl, by decide +kernel, rfl, by decide +kernel, by decide +kernel⟩
theorem ok_hooked_right {fd : FuncData} (F : FunD K "hooked_right" "hooked_right" (defArgs s_hooked_right) (defBody s_hooked_right) (defScope s_hooked_right) [] [] (W.F 21) fd) (hm : mg "hooked_right" = some (.ref (W.F 21))) :
    Cal P w K mg base (L2.CX P w) W 1 "hooked_right" 21 2 f_hooked_right :=
  ⟨fd, ["walk", "row"], gokD F sc_hooked_right fun cdv B up z H E fr => 
      (dss_one (ds_ret (de_tup (da_cons (de_ix (de_var (i := 0) rfl (Or.inl rfl)) de_int) (da_cons (de_add (de_ix (de_var (i := 0) rfl (Or.inl rfl)) de_int) (de_var (i := 1) rfl (Or.inl rfl))) da_nil))))), hm, F.kp, F.bindsN fun _ _ _ _ _ _ us hl => match us, hl with | [_, _], _ => rfl⟩
theorem sc_hooked_left : FnScope ["plan", "walk", "row"] ["plan", "walk", "row"] (defScope s_hooked_left) := ⟨rfl, rfl, rfl, by decide +kernel, rfl, by decide +kernel, by decide +kernel⟩
theorem ok_hooked_left {fd : FuncData} (F : FunD K "hooked_left" "hooked_left" (defArgs s_hooked_left) (defBody s_hooked_left) (defScope s_hooked_left) [] [] (W.F 22) fd) (hm : mg "hooked_left" = some (.ref (W.F 22))) (c_turned : Cal P w K mg base (L2.CX P w) W 3 "turned" 10 2 f_turned) (c_hooked_right : Cal P w K mg base (L2.CX P w) W 1 "hooked_right" 21 2 f_hooked_right) :
    Cal P w K mg base (L2.CX P w) W 4 "hooked_left" 22 3 f_hooked_left :=
  ⟨fd, ["plan", "walk", "row"], gokD F sc_hooked_left fun cdv B up z H E fr => 
      (dss_one (ds_ret (de_callP c_turned fr px rfl (da_cons (de_var (i := 0) rfl (Or.inl rfl)) (da_cons (de_callP c_hooked_right fr px rfl (da_cons (de_callP c_turned fr px rfl (da_cons (de_var (i := 0) rfl (Or.inl rfl)) (da_cons (de_var (i := 1) rfl (Or.inl rfl)) da_nil)) (hlen := (len_cons (len_cons len_nil)))) (da_cons (de_var (i := 2) rfl (Or.inl rfl)) da_nil)) (hlen := (len_cons (len_cons len_nil)))) da_nil)) (hlen := (len_cons (len_cons len_nil)))))), hm, F.kp, F.bindsN fun _ _ _ _ _ _ us hl => match us, hl with | [_, _, _], _ => rfl⟩
theorem sc_one_end : FnScope ["plan", "walk", "row", "longer"] ["plan", "walk", "row"] (defScope s_one_end) := ⟨rfl, rfl, rfl, by decide +kernel, rfl, by decide +kernel, by decide +kernel⟩
theorem ok_one_end {fd : FuncData} (F : FunD K "one_end" "one_end" (defArgs s_one_end) (defBody s_one_end) (defScope s_one_end) [] [] (W.F 23) fd) (hm : mg "one_end" = some (.ref (W.F 23))) (g_len : mg "len" = none) (c_hooked_right : Cal P w K mg base (L2.CX P w) W 1 "hooked_right" 21 2 f_hooked_right) (c_first_against : Cal P w K mg base (L2.CX P w) W 1 "first_against" 19 1 f_first_against) (c_piece : Cal P w K mg base (L2.CX P w) W 3 "piece" 20 4 f_piece) :
    Cal P w K mg base (L2.CX P w) W 4 "one_end" 23 3 f_one_end :=
  ⟨fd, ["plan", "walk", "row"], gokD F sc_one_end fun cdv B up z H E fr => 
      (dss_cons (ds_set (i := 3) sc_one_end.nd rfl (Or.inl rfl) (de_callP c_hooked_right fr px rfl (da_cons (de_var (i := 1) rfl (Or.inl rfl)) (da_cons (de_var (i := 2) rfl (Or.inl rfl)) da_nil)) (hlen := (len_cons (len_cons len_nil)))))
      (dss_one (ds_ret (de_callP c_piece fr px rfl (da_cons (de_var (i := 0) rfl (Or.inl rfl)) (da_cons (de_var (i := 3) rfl (Or.inl rfl)) (da_cons (de_add (de_callP c_first_against fr px rfl (da_cons (de_ix (de_var (i := 3) rfl (Or.inl rfl)) de_int) da_nil) (hlen := (len_cons len_nil))) de_int) (da_cons (de_callB call_len_seq cd_len rfl g_len boot_len (da_cons (de_ix (de_var (i := 3) rfl (Or.inl rfl)) de_int) da_nil)) da_nil)))) (hlen := (len_cons (len_cons (len_cons (len_cons len_nil))))))))), hm, F.kp, F.bindsN fun _ _ _ _ _ _ us hl => match us, hl with | [_, _, _], _ => rfl⟩
theorem sc_forth_walk : FnScope ["plan", "walk", "left", "right", "first", "last"] ["plan", "walk"] (defScope s_forth_walk) := ⟨rfl, rfl, rfl, by decide +kernel, rfl, by decide +kernel, by decide +kernel⟩
theorem ok_forth_walk {fd : FuncData} (F : FunD K "forth_walk" "forth_walk" (defArgs s_forth_walk) (defBody s_forth_walk) (defScope s_forth_walk) [] [] (W.F 24) fd) (hm : mg "forth_walk" = some (.ref (W.F 24))) (c_hooks : Cal P w K mg base (L2.CX P w) W 6 "hooks" 17 2 f_hooks) (c_hooked_right : Cal P w K mg base (L2.CX P w) W 1 "hooked_right" 21 2 f_hooked_right) (c_hooked_left : Cal P w K mg base (L2.CX P w) W 4 "hooked_left" 22 3 f_hooked_left) (c_one_end : Cal P w K mg base (L2.CX P w) W 4 "one_end" 23 3 f_one_end) (c_turned : Cal P w K mg base (L2.CX P w) W 3 "turned" 10 2 f_turned) (c_first_against : Cal P w K mg base (L2.CX P w) W 1 "first_against" 19 1 f_first_against) (c_last_along : Cal P w K mg base (L2.CX P w) W 1 "last_along" 18 1 f_last_along) (c_piece : Cal P w K mg base (L2.CX P w) W 3 "piece" 20 4 f_piece) :
    Cal P w K mg base (L2.CX P w) W 7 "forth_walk" 24 2 f_forth_walk :=
  ⟨fd, ["plan", "walk"], gokD F sc_forth_walk fun cdv B up z H E fr => 
      (dss_cons (ds_asg (de_callP c_hooks fr px rfl (da_cons (de_var (i := 0) rfl (Or.inl rfl)) (da_cons (de_var (i := 1) rfl (Or.inl rfl)) da_nil)) (hlen := (len_cons (len_cons len_nil)))) (dg_tup rfl (dgs_cons (dg_name (i := 2) sc_forth_walk.nd rfl (Or.inl rfl)) (dgs_cons (dg_name (i := 3) sc_forth_walk.nd rfl (Or.inl rfl)) dgs_nil))))
      (dss_cons (ds_if (dw_pt (dw_and (dt_cmp (op_neP fr.r.units) od_ne (de_var (i := 2) rfl (Or.inl rfl)) (de_tup da_nil)) (dw_and1 (dt_cmp (op_neP fr.r.units) od_ne (de_var (i := 3) rfl (Or.inl rfl)) (de_tup da_nil))))) (dss_one (ds_ret (de_callP c_hooked_left fr px rfl (da_cons (de_var (i := 0) rfl (Or.inl rfl)) (da_cons (de_callP c_hooked_right fr px rfl (da_cons (de_var (i := 1) rfl (Or.inl rfl)) (da_cons (de_var (i := 3) rfl (Or.inl rfl)) da_nil)) (hlen := (len_cons (len_cons len_nil)))) (da_cons (de_var (i := 2) rfl (Or.inl rfl)) da_nil))) (hlen := (len_cons (len_cons (len_cons len_nil))))))) dss_nil)
      (dss_cons (ds_if (dt_cmp (op_neP fr.r.units) od_ne (de_var (i := 3) rfl (Or.inl rfl)) (de_tup da_nil)) (dss_one (ds_ret (de_callP c_one_end fr px rfl (da_cons (de_var (i := 0) rfl (Or.inl rfl)) (da_cons (de_var (i := 1) rfl (Or.inl rfl)) (da_cons (de_var (i := 3) rfl (Or.inl rfl)) da_nil))) (hlen := (len_cons (len_cons (len_cons len_nil))))))) dss_nil)
      (dss_cons (ds_if (dt_cmp (op_neP fr.r.units) od_ne (de_var (i := 2) rfl (Or.inl rfl)) (de_tup da_nil)) (dss_one (ds_ret (de_callP c_turned fr px rfl (da_cons (de_var (i := 0) rfl (Or.inl rfl)) (da_cons (de_callP c_one_end fr px rfl (da_cons (de_var (i := 0) rfl (Or.inl rfl)) (da_cons (de_callP c_turned fr px rfl (da_cons (de_var (i := 0) rfl (Or.inl rfl)) (da_cons (de_var (i := 1) rfl (Or.inl rfl)) da_nil)) (hlen := (len_cons (len_cons len_nil)))) (da_cons (de_var (i := 2) rfl (Or.inl rfl)) da_nil))) (hlen := (len_cons (len_cons (len_cons len_nil))))) da_nil)) (hlen := (len_cons (len_cons len_nil)))))) dss_nil)
      (dss_cons (ds_par (i := 4) (j := 5) rfl sc_forth_walk.nd rfl rfl (by decide) rfl rfl (de_callP c_first_against fr px rfl (da_cons (de_ix (de_var (i := 1) rfl (Or.inl rfl)) de_int) da_nil) (hlen := (len_cons len_nil))) (de_callP c_last_along fr px rfl (da_cons (de_ix (de_var (i := 1) rfl (Or.inl rfl)) de_int) da_nil) (hlen := (len_cons len_nil))) rfl)
      (dss_one (ds_ret (de_if (dt_cmp (op_ltP fr.r.units) od_lt (de_var (i := 4) rfl (Or.inl rfl)) (de_var (i := 5) rfl (Or.inl rfl))) (de_callP c_piece fr px rfl (da_cons (de_var (i := 0) rfl (Or.inl rfl)) (da_cons (de_var (i := 1) rfl (Or.inl rfl)) (da_cons (de_add (de_var (i := 4) rfl (Or.inl rfl)) de_int) (da_cons (de_var (i := 5) rfl (Or.inl rfl)) da_nil)))) (hlen := (len_cons (len_cons (len_cons (len_cons len_nil)))))) de_non)))))))), hm, F.kp, F.bindsN fun _ _ _ _ _ _ us hl => match us, hl with | [_, _], _ => rfl⟩
theorem sc_forth : FnScope ["plan", "string", "found"] ["plan", "string"] (defScope s_forth) := ⟨rfl, rfl, rfl, by decide +kernel, rfl, by decide +kernel, by decide +kernel⟩
theorem ok_forth {fd : FuncData} (F : FunD K "forth" "forth" (defArgs s_forth) (defBody s_forth) (defScope s_forth) [] [] (W.F 25) fd) (hm : mg "forth" = some (.ref (W.F 25))) (c_forth_walk : Cal P w K mg base (L2.CX P w) W 7 "forth_walk" 24 2 f_forth_walk) (c_string_of : Cal P w K mg base (L2.CX P w) W 4 "string_of" 11 2 f_string_of) :
    Cal P w K mg base (L2.CX P w) W 8 "forth" 25 2 f_forth :=
  ⟨fd, ["plan", "string"], gokD F sc_forth fun cdv B up z H E fr => 
      (dss_cons (ds_set (i := 2) sc_forth.nd rfl (Or.inl rfl) (de_callP c_forth_walk fr px rfl (da_cons (de_var (i := 0) rfl (Or.inl rfl)) (da_cons (de_var (i := 1) rfl (Or.inl rfl)) da_nil)) (hlen := (len_cons (len_cons len_nil)))))
      (dss_one (ds_ret (de_if (dt_cmp op_isN od_isN (de_var (i := 2) rfl (Or.inl rfl)) de_non) de_non (de_callP c_string_of fr px rfl (da_cons (de_var (i := 0) rfl (Or.inl rfl)) (da_cons (de_var (i := 2) rfl (Or.inl rfl)) da_nil)) (hlen := (len_cons (len_cons len_nil)))))))), hm, F.kp, F.bindsN fun _ _ _ _ _ _ us hl => match us, hl with | [_, _], _ => rfl⟩
theorem sc_back : FnScope ["plan", "string", "found"] ["plan", "string"] (defScope s_back) := ⟨rfl, rfl, rfl, by decide +kernel, rfl, by decide +kernel, by decide +kernel⟩
theorem ok_back {fd : FuncData} (F : FunD K "back" "back" (defArgs s_back) (defBody s_back) (defScope s_back) [] [] (W.F 26) fd) (hm : mg "back" = some (.ref (W.F 26))) (c_turned_plan : Cal P w K mg base (L2.CX P w) W 1 "turned_plan" 8 1 f_turned_plan) (c_in_turned_plan : Cal P w K mg base (L2.CX P w) W 1 "in_turned_plan" 12 2 f_in_turned_plan) (c_forth_walk : Cal P w K mg base (L2.CX P w) W 7 "forth_walk" 24 2 f_forth_walk) (c_string_of : Cal P w K mg base (L2.CX P w) W 4 "string_of" 11 2 f_string_of) :
    Cal P w K mg base (L2.CX P w) W 8 "back" 26 2 f_back :=
  ⟨fd, ["plan", "string"], gokD F sc_back fun cdv B up z H E fr => 
      (dss_cons (ds_set (i := 2) sc_back.nd rfl (Or.inl rfl) (de_callP c_forth_walk fr px rfl (da_cons (de_callP c_turned_plan fr px rfl (da_cons (de_var (i := 0) rfl (Or.inl rfl)) da_nil) (hlen := (len_cons len_nil))) (da_cons (de_callP c_in_turned_plan fr px rfl (da_cons (de_var (i := 0) rfl (Or.inl rfl)) (da_cons (de_var (i := 1) rfl (Or.inl rfl)) da_nil)) (hlen := (len_cons (len_cons len_nil)))) da_nil)) (hlen := (len_cons (len_cons len_nil)))))
      (dss_one (ds_ret (de_if (dt_cmp op_isN od_isN (de_var (i := 2) rfl (Or.inl rfl)) de_non) de_non (de_callP c_string_of fr px rfl (da_cons (de_var (i := 0) rfl (Or.inl rfl)) (da_cons (de_callP c_in_turned_plan fr px rfl (da_cons (de_callP c_turned_plan fr px rfl (da_cons (de_var (i := 0) rfl (Or.inl rfl)) da_nil) (hlen := (len_cons len_nil))) (da_cons (de_var (i := 2) rfl (Or.inl rfl)) da_nil)) (hlen := (len_cons (len_cons len_nil)))) da_nil)) (hlen := (len_cons (len_cons len_nil)))))))), hm, F.kp, F.bindsN fun _ _ _ _ _ _ us hl => match us, hl with | [_, _], _ => rfl⟩
theorem sc_right_done : FnScope ["plan", "walk", "row", "last"] ["plan", "walk", "row"] (defScope s_right_done) := ⟨rfl, rfl, rfl, by decide +kernel, rfl, by decide +kernel, by decide +kernel⟩
theorem ok_right_done {fd : FuncData} (F : FunD K "right_done" "right_done" (defArgs s_right_done) (defBody s_right_done) (defScope s_right_done) [] [] (W.F 27) fd) (hm : mg "right_done" = some (.ref (W.F 27))) (c_hooked_right : Cal P w K mg base (L2.CX P w) W 1 "hooked_right" 21 2 f_hooked_right) (c_last_along : Cal P w K mg base (L2.CX P w) W 1 "last_along" 18 1 f_last_along) (c_piece : Cal P w K mg base (L2.CX P w) W 3 "piece" 20 4 f_piece) :
    Cal P w K mg base (L2.CX P w) W 4 "right_done" 27 3 f_right_done :=
  ⟨fd, ["plan", "walk", "row"], gokD F sc_right_done fun cdv B up z H E fr => 
      (dss_cons (ds_if (dt_cmp (op_neP fr.r.units) od_ne (de_var (i := 2) rfl (Or.inl rfl)) (de_tup da_nil)) (dss_one (ds_ret (de_callP c_hooked_right fr px rfl (da_cons (de_var (i := 1) rfl (Or.inl rfl)) (da_cons (de_var (i := 2) rfl (Or.inl rfl)) da_nil)) (hlen := (len_cons (len_cons len_nil)))))) dss_nil)
      (dss_cons (ds_set (i := 3) sc_right_done.nd rfl (Or.inl rfl) (de_callP c_last_along fr px rfl (da_cons (de_ix (de_var (i := 1) rfl (Or.inl rfl)) de_int) da_nil) (hlen := (len_cons len_nil))))
      (dss_one (ds_ret (de_if (dt_cmp (op_ltP fr.r.units) od_lt (de_var (i := 3) rfl (Or.inl rfl)) de_int) de_non (de_callP c_piece fr px rfl (da_cons (de_var (i := 0) rfl (Or.inl rfl)) (da_cons (de_var (i := 1) rfl (Or.inl rfl)) (da_cons de_int (da_cons (de_var (i := 3) rfl (Or.inl rfl)) da_nil)))) (hlen := (len_cons (len_cons (len_cons (len_cons len_nil))))))))))), hm, F.kp, F.bindsN fun _ _ _ _ _ _ us hl => match us, hl with | [_, _, _], _ => rfl⟩
theorem sc_middle_walks : FnScope ["plan", "walk", "left", "right", "found", "one"] ["plan", "walk"] (defScope s_middle_walks) := ⟨rfl, rfl, rfl, by decide +kernel, rfl, by decide +kernel, by decide +kernel⟩
theorem ok_middle_walks {fd : FuncData} (F : FunD K "middle_walks" "middle_walks" (defArgs s_middle_walks) (defBody s_middle_walks) (defScope s_middle_walks) [] [] (W.F 28) fd) (hm : mg "middle_walks" = some (.ref (W.F 28))) (c_hooks : Cal P w K mg base (L2.CX P w) W 6 "hooks" 17 2 f_hooks) (c_right_done : Cal P w K mg base (L2.CX P w) W 4 "right_done" 27 3 f_right_done) (c_turned : Cal P w K mg base (L2.CX P w) W 3 "turned" 10 2 f_turned) :
    Cal P w K mg base (L2.CX P w) W 7 "middle_walks" 28 2 f_middle_walks :=
  ⟨fd, ["plan", "walk"], gokD F sc_middle_walks fun cdv B up z H E fr => 
      (dss_cons (ds_asg (de_callP c_hooks fr px rfl (da_cons (de_var (i := 0) rfl (Or.inl rfl)) (da_cons (de_var (i := 1) rfl (Or.inl rfl)) da_nil)) (hlen := (len_cons (len_cons len_nil)))) (dg_tup rfl (dgs_cons (dg_name (i := 2) sc_middle_walks.nd rfl (Or.inl rfl)) (dgs_cons (dg_name (i := 3) sc_middle_walks.nd rfl (Or.inl rfl)) dgs_nil))))
      (dss_cons (ds_set (i := 4) sc_middle_walks.nd rfl (Or.inl rfl) (de_frz (dn_lst (da_cons (de_callP c_right_done fr px rfl (da_cons (de_var (i := 0) rfl (Or.inl rfl)) (da_cons (de_var (i := 1) rfl (Or.inl rfl)) (da_cons (de_var (i := 3) rfl (Or.inl rfl)) da_nil))) (hlen := (len_cons (len_cons (len_cons len_nil))))) (da_cons (de_callP c_right_done fr px rfl (da_cons (de_var (i := 0) rfl (Or.inl rfl)) (da_cons (de_callP c_turned fr px rfl (da_cons (de_var (i := 0) rfl (Or.inl rfl)) (da_cons (de_var (i := 1) rfl (Or.inl rfl)) da_nil)) (hlen := (len_cons (len_cons len_nil)))) (da_cons (de_var (i := 2) rfl (Or.inl rfl)) da_nil))) (hlen := (len_cons (len_cons (len_cons len_nil))))) da_nil)))))
      (dss_one (ds_ret (de_frz (dn_lc (own := [("one", 5)]) (is := [5]) rfl sc_middle_walks.nd (di_seq (de_var (i := 4) rfl (Or.inl rfl))) (blkOk_by rfl) ⟨gName 5, fun _ _ _ _ _ => pg_name (i := 5) sc_middle_walks.nd rfl (Or.inl rfl), tr_name⟩ (fun _ _ _ _ _ => (dts_one (dt_cmp op_notN od_notN (de_var (i := 5) rfl (Or.inl rfl)) de_non))) (fun _ _ _ _ _ => (de_var (i := 5) rfl (Or.inl rfl))) (by decide))))))), hm, F.kp, F.bindsN fun _ _ _ _ _ _ us hl => match us, hl with | [_, _], _ => rfl⟩
theorem sc_middle : FnScope ["plan", "string", "one"] ["plan", "string"] (defScope s_middle) := ⟨rfl, rfl, rfl, by decide +kernel, rfl, by decide +kernel, by decide +kernel⟩
theorem ok_middle {fd : FuncData} (F : FunD K "middle" "middle" (defArgs s_middle) (defBody s_middle) (defScope s_middle) [] [] (W.F 29) fd) (hm : mg "middle" = some (.ref (W.F 29))) (g_sorted : mg "sorted" = none) (g_tuple : mg "tuple" = none) (c_middle_walks : Cal P w K mg base (L2.CX P w) W 7 "middle_walks" 28 2 f_middle_walks) (c_string_of : Cal P w K mg base (L2.CX P w) W 4 "string_of" 11 2 f_string_of) :
    Cal P w K mg base (L2.CX P w) W 8 "middle" 29 2 f_middle :=
  ⟨fd, ["plan", "string"], gokD F sc_middle fun cdv B up z H E fr => 
      (dss_one (ds_ret (de_callTy call_tuple_of cd_tuple rfl g_tuple boot_tuple (da_cons (de_frz (dn_callB (cr_sortB fr.r.units) cn_sortB rfl g_sorted PyProof.Rows.boot_sorted (da_cons (de_frz (dn_lc (own := [("one", 2)]) (is := [2]) rfl sc_middle.nd (di_seq (de_callP c_middle_walks fr px rfl (da_cons (de_var (i := 0) rfl (Or.inr (Or.inl rfl))) (da_cons (de_var (i := 1) rfl (Or.inl rfl)) da_nil)) (hlen := (len_cons (len_cons len_nil))))) (blkOk_by rfl) ⟨gName 2, fun _ _ _ _ _ => pg_name (i := 2) sc_middle.nd rfl (Or.inl rfl), tr_name⟩ (fun _ _ _ _ _ => dts_nil) (fun _ _ _ _ _ => (de_callP c_string_of fr passL rfl (da_cons (de_var (i := 0) rfl (Or.inr (Or.inl rfl))) (da_cons (de_var (i := 2) rfl (Or.inl rfl)) da_nil)) (hlen := (len_cons (len_cons len_nil))))) (by decide))) da_nil))) da_nil)))), hm, F.kp, F.bindsN fun _ _ _ _ _ _ us hl => match us, hl with | [_, _], _ => rfl⟩
theorem sc_almost_split : FnScope ["plan", "string", "behind"] ["plan", "string"] (defScope s_almost_split) := ⟨rfl, rfl, rfl, by decide +kernel, rfl, by decide +kernel, by decide +kernel⟩
theorem ok_almost_split {fd : FuncData} (F : FunD K "almost_split" "almost_split" (defArgs s_almost_split) (defBody s_almost_split) (defScope s_almost_split) [] [] (W.F 30) fd) (hm : mg "almost_split" = some (.ref (W.F 30))) (c_forth : Cal P w K mg base (L2.CX P w) W 8 "forth" 25 2 f_forth) (c_string_of : Cal P w K mg base (L2.CX P w) W 4 "string_of" 11 2 f_string_of) (c_middle : Cal P w K mg base (L2.CX P w) W 8 "middle" 29 2 f_middle) :
    Cal P w K mg base (L2.CX P w) W 9 "almost_split" 30 2 f_almost_split :=
  ⟨fd, ["plan", "string"], gokD F sc_almost_split fun cdv B up z H E fr => 
      (dss_cons (ds_set (i := 2) sc_almost_split.nd rfl (Or.inl rfl) (de_callP c_forth fr px rfl (da_cons (de_var (i := 0) rfl (Or.inl rfl)) (da_cons (de_var (i := 1) rfl (Or.inl rfl)) da_nil)) (hlen := (len_cons (len_cons len_nil)))))
      (dss_cons (ds_if (dt_cmp op_isN od_isN (de_var (i := 2) rfl (Or.inl rfl)) de_non) (dss_one ds_no) dss_nil)
      (dss_one (ds_ret (de_tup (da_cons (de_callP c_string_of fr px rfl (da_cons (de_var (i := 0) rfl (Or.inl rfl)) (da_cons (de_var (i := 1) rfl (Or.inl rfl)) da_nil)) (hlen := (len_cons (len_cons len_nil)))) (da_cons (de_callP c_middle fr px rfl (da_cons (de_var (i := 0) rfl (Or.inl rfl)) (da_cons (de_var (i := 1) rfl (Or.inl rfl)) da_nil)) (hlen := (len_cons (len_cons len_nil)))) (da_cons (de_var (i := 2) rfl (Or.inl rfl)) da_nil)))))))), hm, F.kp, F.bindsN fun _ _ _ _ _ _ us hl => match us, hl with | [_, _], _ => rfl⟩
theorem sc_road_by : FnScope ["plan", "string", "most", "step", "first", "found", "number"] ["plan", "string", "most", "step"] (defScope s_road_by) := ⟨rfl, rfl, rfl, by decide +kernel, rfl, by decide +kernel, by decide +kernel⟩
theorem ok_road_by {fd : FuncData} (F : FunD K "road_by" "road_by" (defArgs s_road_by) (defBody s_road_by) (defScope s_road_by) [] [] (W.F 31) fd) (hm : mg "road_by" = some (.ref (W.F 31))) (g_range : mg "range" = none) (c_string_of : Cal P w K mg base (L2.CX P w) W 4 "string_of" 11 2 f_string_of) (c_forth : Cal P w K mg base (L2.CX P w) W 8 "forth" 25 2 f_forth) (c_back : Cal P w K mg base (L2.CX P w) W 8 "back" 26 2 f_back) :
    Cal P w K mg base (L2.CX P w) W 9 "road_by" 31 4 f_road_by :=
  ⟨fd, ["plan", "string", "most", "step"], gokD F sc_road_by fun cdv B up z H E fr => by
    have ct : ∀ m g, tbl_road_by m = some g → ∃ y, Cal P w K mg base (L2.CX P w) W 8 y m 2 g := fun m g h => by
      unfold tbl_road_by at h
      split at h
      · cases h; exact ⟨_, c_forth.lift (by decide)⟩
      · cases h; exact ⟨_, c_back.lift (by decide)⟩
      · cases h
    exact (dss_cons (ds_set (i := 4) sc_road_by.nd rfl (Or.inl rfl) (de_callP c_string_of fr px rfl (da_cons (de_var (i := 0) rfl (Or.inl rfl)) (da_cons (de_var (i := 1) rfl (Or.inl rfl)) da_nil)) (hlen := (len_cons (len_cons len_nil)))))
      (dss_cons (ds_set (i := 5) sc_road_by.nd rfl (Or.inl rfl) (de_var (i := 4) rfl (Or.inl rfl)))
      (dss_cons (ds_for pown rfl (di_rg2 rfl g_range de_int (de_add (de_var (i := 2) rfl (Or.inl rfl)) de_int)) (dg_name (i := 6) sc_road_by.nd rfl (Or.inl rfl)) (dss_cons (ds_set (i := 5) sc_road_by.nd rfl (Or.inl rfl) (de_callS (i := 3) (lv := 8) ct fr px rfl (Or.inl rfl) (da_cons (de_var (i := 0) rfl (Or.inl rfl)) (da_cons (de_var (i := 5) rfl (Or.inl rfl)) da_nil)) (hlen := (len_cons (len_cons len_nil)))))
      (dss_cons (ds_if (dt_cmp op_isN od_isN (de_var (i := 5) rfl (Or.inl rfl)) de_non) (dss_one (ds_ret (de_tup (da_cons de_str (da_cons (de_sub (de_var (i := 6) rfl (Or.inl rfl)) de_int) da_nil))))) dss_nil)
      (dss_one (ds_if (dw_pt (dw_and (dt_cmp (op_eqP fr.r.units) od_eq (de_var (i := 5) rfl (Or.inl rfl)) (de_var (i := 4) rfl (Or.inl rfl))) (dw_and1 (dt_cmp (op_leP fr.r.units) od_le (de_var (i := 6) rfl (Or.inl rfl)) (de_var (i := 2) rfl (Or.inl rfl)))))) (dss_one (ds_ret (de_tup (da_cons de_str (da_cons (de_var (i := 6) rfl (Or.inl rfl)) da_nil))))) dss_nil)))))
      (dss_one ds_no)))), hm, F.kp, F.bindsN fun _ _ _ _ _ _ us hl => match us, hl with | [_, _, _, _], _ => rfl⟩
theorem sc_road : FnScope ["plan", "string", "most"] ["plan", "string", "most"] (defScope s_road) := ⟨rfl, rfl, rfl, by decide +kernel, rfl, by decide +kernel, by decide +kernel⟩
theorem ok_road {fd : FuncData} (F : FunD K "road" "road" (defArgs s_road) (defBody s_road) (defScope s_road) [] [] (W.F 32) fd) (hm : mg "road" = some (.ref (W.F 32))) (c_forth : Cal P w K mg base (L2.CX P w) W 8 "forth" 25 2 f_forth) (c_road_by : Cal P w K mg base (L2.CX P w) W 9 "road_by" 31 4 f_road_by) :
    Cal P w K mg base (L2.CX P w) W 10 "road" 32 3 f_road :=
  ⟨fd, ["plan", "string", "most"], gokD F sc_road fun cdv B up z H E fr => 
      (dss_one (ds_ret (de_callP c_road_by fr px rfl (da_cons (de_var (i := 0) rfl (Or.inl rfl)) (da_cons (de_var (i := 1) rfl (Or.inl rfl)) (da_cons (de_var (i := 2) rfl (Or.inl rfl)) (da_cons (de_fn (n := 25) rfl c_forth.at_) da_nil)))) (hlen := (len_cons (len_cons (len_cons (len_cons len_nil)))))))), hm, F.kp, F.bindsN fun _ _ _ _ _ _ us hl => match us, hl with | [_, _, _], _ => rfl⟩
theorem sc_road_back : FnScope ["plan", "string", "most"] ["plan", "string", "most"] (defScope s_road_back) := ⟨rfl, rfl, rfl, by decide +kernel, rfl, by decide +kernel, by decide +kernel⟩
theorem ok_road_back {fd : FuncData} (F : FunD K "road_back" "road_back" (defArgs s_road_back) (defBody s_road_back) (defScope s_road_back) [] [] (W.F 33) fd) (hm : mg "road_back" = some (.ref (W.F 33))) (c_back : Cal P w K mg base (L2.CX P w) W 8 "back" 26 2 f_back) (c_road_by : Cal P w K mg base (L2.CX P w) W 9 "road_by" 31 4 f_road_by) :
    Cal P w K mg base (L2.CX P w) W 10 "road_back" 33 3 f_road_back :=
  ⟨fd, ["plan", "string", "most"], gokD F sc_road_back fun cdv B up z H E fr => 
      (dss_one (ds_ret (de_callP c_road_by fr px rfl (da_cons (de_var (i := 0) rfl (Or.inl rfl)) (da_cons (de_var (i := 1) rfl (Or.inl rfl)) (da_cons (de_var (i := 2) rfl (Or.inl rfl)) (da_cons (de_fn (n := 26) rfl c_back.at_) da_nil)))) (hlen := (len_cons (len_cons (len_cons (len_cons len_nil)))))))), hm, F.kp, F.bindsN fun _ _ _ _ _ _ us hl => match us, hl with | [_, _, _], _ => rfl⟩
theorem sc__law_begun : FnScope ["_law_script", "_law_k", "_law_cells", "_law_great", "_law_seed", "_law_cell"] ["_law_script", "_law_k"] (defScope s__law_begun) := ⟨rfl, rfl, rfl, by decide +kernel, rfl, by decide +kernel, by decide +kernel⟩
theorem ok__law_begun {fd : FuncData} (F : FunD K "_law_begun" "_law_begun" (defArgs s__law_begun) (defBody s__law_begun) (defScope s__law_begun) [] [] (W.F 34) fd) (hm : mg "_law_begun" = some (.ref (W.F 34))) (g_int : mg "int" = none) :
    Cal P w K mg base (L2.CX P w) W 1 "_law_begun" 34 2 f__law_begun :=
  ⟨fd, ["_law_script", "_law_k"], gokD F sc__law_begun fun cdv B up z H E fr => 
      (dss_cons (ds_set (i := 2) sc__law_begun.nd rfl (Or.inl rfl) (de_add (de_sl (de_var (i := 0) rfl (Or.inl rfl)) (do_some (de_var (i := 1) rfl (Or.inl rfl))) do_none) (de_sl (de_var (i := 0) rfl (Or.inl rfl)) do_none (do_some (de_var (i := 1) rfl (Or.inl rfl))))))
      (dss_cons (ds_setLc (i := 3) (own := [("_law_cell", 5)]) (is := [5]) (fun _ _ _ => lift_frz) rfl sc__law_begun.nd rfl rfl (sw_true rfl rfl rfl rfl) (di_seq (de_var (i := 2) rfl (Or.inl rfl))) (blkOk_by rfl) ⟨gName 5, fun _ _ _ _ _ => pg_name (i := 5) sc__law_begun.nd rfl (Or.inl rfl), tr_name⟩ (fun _ _ _ _ _ => (dts_one (dt_cmp (op_geP fr.r.units) od_ge (de_var (i := 5) rfl (Or.inl rfl)) (de_pow de_int de_int)))) (fun _ _ _ _ _ => (de_var (i := 5) rfl (Or.inl rfl))) (by decide))
      (dss_cons (ds_set (i := 4) sc__law_begun.nd rfl (Or.inl rfl) (de_add de_int (de_var (i := 1) rfl (Or.inl rfl))))
      (dss_cons (ds_for pown rfl (di_seq (de_var (i := 2) rfl (Or.inl rfl))) (dg_name (i := 5) sc__law_begun.nd rfl (Or.inl rfl)) (dss_one (ds_set (i := 4) sc__law_begun.nd rfl (Or.inl rfl) (de_mod (de_callTy call_int1 cd_int rfl g_int boot_int (da_cons (de_add (de_mul (de_var (i := 4) rfl (Or.inl rfl)) de_int) (de_var (i := 5) rfl (Or.inl rfl))) da_nil)) de_int))))
      (dss_one (ds_ret (de_dict (l := [((.inr "left"), (eIfE (tOf (eOp opNe (eVar 3) (eFrz (nLst aNil)))) (eOp opIx (eVar 3) (eC (.int 0))) (eC (.int 0)))), ((.inr "seed"), (eVar 4)), ((.inr "cells"), (eOp opAdd (eVar 2) (eFrz (nLst (aCons (eOp opAdd (eOp opMul (eC (.int 53)) (eVar 1)) (eC (.int 11))) aNil))))), ((.inr "spot"), (eC (.int 0)))]) (pps_cons pe_str (de_if (dt_cmp (op_neP fr.r.units) od_ne (de_var (i := 3) rfl (Or.inl rfl)) (de_frz (dn_lst da_nil))) (de_ix (de_var (i := 3) rfl (Or.inl rfl)) de_int) de_int) (pps_cons pe_str (de_var (i := 4) rfl (Or.inl rfl)) (pps_cons pe_str (de_add (de_var (i := 2) rfl (Or.inl rfl)) (de_frz (dn_lst (da_cons (de_add (de_mul de_int (de_var (i := 1) rfl (Or.inl rfl))) de_int) da_nil)))) (pps_cons pe_str de_int pps_nil))))))))))), hm, F.kp, F.bindsN fun _ _ _ _ _ _ us hl => match us, hl with | [_, _], _ => rfl⟩
theorem sc__law_draw : FnScope ["_law_m", "_law_bound", "_law_found", "_law_spot", "_law_cells", "_law_extra", "_law_cell", "_law_blend"] ["_law_m", "_law_bound"] (defScope s__law_draw) := ⟨rfl, rfl, rfl, by decide +kernel, rfl, by decide +kernel, by decide +kernel⟩
theorem ok__law_draw {fd : FuncData} (F : FunD K "_law_draw" "_law_draw" (defArgs s__law_draw) (defBody s__law_draw) (defScope s__law_draw) [] [] (W.F 35) fd) (hm : mg "_law_draw" = some (.ref (W.F 35))) (g_int : mg "int" = none) (g_len : mg "len" = none) :
    Cal P w K mg base (L2.CX P w) W 1 "_law_draw" 35 2 f__law_draw :=
  ⟨fd, ["_law_m", "_law_bound"], gokD F sc__law_draw fun cdv B up z H E fr => 
      (dss_cons (ds_if (dt_cmp (op_gtP fr.r.units) od_gt (de_dget fr.r.units1 (de_var (i := 0) rfl (Or.inl rfl)) de_str) de_int) (dss_cons (ds_set (i := 2) sc__law_draw.nd rfl (Or.inl rfl) (de_mod (de_callTy call_int1 cd_int rfl g_int boot_int (da_cons (de_dget fr.r.units1 (de_var (i := 0) rfl (Or.inl rfl)) de_str) da_nil)) (de_var (i := 1) rfl (Or.inl rfl))))
      (dss_cons (ds_dput fr.r.units1 (de_var (i := 0) rfl (Or.inl rfl)) de_str (de_fdiv (de_dget fr.r.units1 (de_var (i := 0) rfl (Or.inl rfl)) de_str) (de_var (i := 1) rfl (Or.inl rfl))))
      (dss_one (ds_ret (de_var (i := 2) rfl (Or.inl rfl)))))) dss_nil)
      (dss_cons (ds_set (i := 3) sc__law_draw.nd rfl (Or.inl rfl) (de_dget fr.r.units1 (de_var (i := 0) rfl (Or.inl rfl)) de_str))
      (dss_cons (ds_dput fr.r.units1 (de_var (i := 0) rfl (Or.inl rfl)) de_str (de_add (de_var (i := 3) rfl (Or.inl rfl)) de_int))
      (dss_cons (ds_par (i := 4) (j := 5) rfl sc__law_draw.nd rfl rfl (by decide) rfl rfl (de_dget fr.r.units1 (de_var (i := 0) rfl (Or.inl rfl)) de_str) (de_add (de_dget fr.r.units1 (de_var (i := 0) rfl (Or.inl rfl)) de_str) (de_mul (de_mul de_int (de_var (i := 3) rfl (Or.inl rfl))) (de_var (i := 3) rfl (Or.inl rfl)))) rfl)
      (dss_cons (ds_set (i := 6) sc__law_draw.nd rfl (Or.inl rfl) (de_ix (de_var (i := 4) rfl (Or.inl rfl)) (de_mod (de_callTy call_int1 cd_int rfl g_int boot_int (da_cons (de_var (i := 3) rfl (Or.inl rfl)) da_nil)) (de_callB call_len_seq cd_len rfl g_len boot_len (da_cons (de_var (i := 4) rfl (Or.inl rfl)) da_nil)))))
      (dss_cons (ds_set (i := 7) sc__law_draw.nd rfl (Or.inl rfl) (de_mod (de_callTy call_int1 cd_int rfl g_int boot_int (da_cons (de_add (de_mul (de_var (i := 6) rfl (Or.inl rfl)) (de_add (de_mul de_int (de_var (i := 3) rfl (Or.inl rfl))) de_int)) (de_var (i := 5) rfl (Or.inl rfl))) da_nil)) de_int))
      (dss_cons (ds_set (i := 7) sc__law_draw.nd rfl (Or.inl rfl) (de_mod (de_callTy call_int1 cd_int rfl g_int boot_int (da_cons (de_add (de_add (de_mul (de_var (i := 7) rfl (Or.inl rfl)) (de_var (i := 7) rfl (Or.inl rfl))) (de_mul de_int (de_var (i := 3) rfl (Or.inl rfl)))) (de_dget fr.r.units1 (de_var (i := 0) rfl (Or.inl rfl)) de_str)) da_nil)) de_int))
      (dss_one (ds_ret (de_mod (de_fdiv (de_mod (de_callTy call_int1 cd_int rfl g_int boot_int (da_cons (de_add (de_mul (de_var (i := 7) rfl (Or.inl rfl)) de_int) (de_var (i := 3) rfl (Or.inl rfl))) da_nil)) de_int) de_int) (de_var (i := 1) rfl (Or.inl rfl)))))))))))), hm, F.kp, F.bindsN fun _ _ _ _ _ _ us hl => match us, hl with | [_, _], _ => rfl⟩
theorem sc__law_like : FnScope ["_law_told", "_law_due"] ["_law_told", "_law_due"] (defScope s__law_like) := ⟨rfl, rfl, rfl, by decide +kernel, rfl, by decide +kernel, by decide +kernel⟩
theorem ok__law_like {fd : FuncData} (F : FunD K "_law_like" "_law_like" (defArgs s__law_like) (defBody s__law_like) (defScope s__law_like) [] [] (W.F 36) fd) (hm : mg "_law_like" = some (.ref (W.F 36))) (g_repr : mg "repr" = none) :
    Cal P w K mg base (L2.CX P w) W 1 "_law_like" 36 2 f__law_like :=
  ⟨fd, ["_law_told", "_law_due"], gokD F sc__law_like fun cdv B up z H E fr => 
      (dss_one (ds_ret (de_like fr.g fr.r.units rfl g_repr (de_var (i := 0) rfl (Or.inl rfl)) (de_var (i := 1) rfl (Or.inl rfl))))), hm, F.kp, F.bindsN fun _ _ _ _ _ _ us hl => match us, hl with | [_, _], _ => rfl⟩
theorem sc__law_ends : FnScope ["_law_plan", "_law_letter", "_law_begin", "_law_end"] ["_law_plan", "_law_letter"] (defScope s__law_ends) := ⟨rfl, rfl, rfl, by decide +kernel, rfl, by decide +kernel, by decide +kernel⟩
theorem ok__law_ends {fd : FuncData} (F : FunD K "_law_ends" "_law_ends" (defArgs s__law_ends) (defBody s__law_ends) (defScope s__law_ends) [] [] (W.F 37) fd) (hm : mg "_law_ends" = some (.ref (W.F 37))) :
    Cal P w K mg base (L2.CX P w) W 1 "_law_ends" 37 2 f__law_ends :=
  ⟨fd, ["_law_plan", "_law_letter"], gokD F sc__law_ends fun cdv B up z H E fr => 
      (dss_cons (ds_asg (de_ix (de_ix (de_var (i := 0) rfl (Or.inl rfl)) de_int) (de_if (dt_cmp (op_geP fr.r.units) od_ge (de_var (i := 1) rfl (Or.inl rfl)) de_int) (de_var (i := 1) rfl (Or.inl rfl)) (de_sub (de_neg de_int) (de_var (i := 1) rfl (Or.inl rfl))))) (dg_tup rfl (dgs_cons (dg_name (i := 2) sc__law_ends.nd rfl (Or.inl rfl)) (dgs_cons (dg_name (i := 3) sc__law_ends.nd rfl (Or.inl rfl)) dgs_nil))))
      (dss_one (ds_ret (de_if (dt_cmp (op_geP fr.r.units) od_ge (de_var (i := 1) rfl (Or.inl rfl)) de_int) (de_tup (da_cons (de_var (i := 2) rfl (Or.inl rfl)) (da_cons (de_var (i := 3) rfl (Or.inl rfl)) da_nil))) (de_tup (da_cons (de_var (i := 3) rfl (Or.inl rfl)) (da_cons (de_var (i := 2) rfl (Or.inl rfl)) da_nil))))))), hm, F.kp, F.bindsN fun _ _ _ _ _ _ us hl => match us, hl with | [_, _], _ => rfl⟩
theorem sc__law_points : FnScope ["_law_plan", "_law_walk", "_law_letter"] ["_law_plan", "_law_walk"] (defScope s__law_points) := ⟨rfl, rfl, rfl, by decide +kernel, rfl, by decide +kernel, by decide +kernel⟩
theorem ok__law_points {fd : FuncData} (F : FunD K "_law_points" "_law_points" (defArgs s__law_points) (defBody s__law_points) (defScope s__law_points) [] [] (W.F 38) fd) (hm : mg "_law_points" = some (.ref (W.F 38))) (c__law_ends : Cal P w K mg base (L2.CX P w) W 1 "_law_ends" 37 2 f__law_ends) :
    Cal P w K mg base (L2.CX P w) W 2 "_law_points" 38 2 f__law_points :=
  ⟨fd, ["_law_plan", "_law_walk"], gokD F sc__law_points fun cdv B up z H E fr => 
      (dss_one (ds_ret (de_add (de_frz (dn_lst (da_cons (de_ix (de_var (i := 1) rfl (Or.inl rfl)) de_int) da_nil))) (de_frz (dn_lc (own := [("_law_letter", 2)]) (is := [2]) rfl sc__law_points.nd (di_seq (de_ix (de_var (i := 1) rfl (Or.inl rfl)) de_int)) (blkOk_by rfl) ⟨gName 2, fun _ _ _ _ _ => pg_name (i := 2) sc__law_points.nd rfl (Or.inl rfl), tr_name⟩ (fun _ _ _ _ _ => dts_nil) (fun _ _ _ _ _ => (de_ix (de_callP c__law_ends fr passL rfl (da_cons (de_var (i := 0) rfl (Or.inr (Or.inl rfl))) (da_cons (de_var (i := 2) rfl (Or.inl rfl)) da_nil)) (hlen := (len_cons (len_cons len_nil)))) de_int)) (by decide)))))), hm, F.kp, F.bindsN fun _ _ _ _ _ _ us hl => match us, hl with | [_, _], _ => rfl⟩
theorem sc__law_turned : FnScope ["_law_plan", "_law_walk", "_law_letter"] ["_law_plan", "_law_walk"] (defScope s__law_turned) := ⟨rfl, rfl, rfl, by decide +kernel, rfl, by decide +kernel, by decide +kernel⟩
theorem ok__law_turned {fd : FuncData} (F : FunD K "_law_turned" "_law_turned" (defArgs s__law_turned) (defBody s__law_turned) (defScope s__law_turned) [] [] (W.F 39) fd) (hm : mg "_law_turned" = some (.ref (W.F 39))) (g_reversed : mg "reversed" = none) (g_tuple : mg "tuple" = none) (c__law_points : Cal P w K mg base (L2.CX P w) W 2 "_law_points" 38 2 f__law_points) :
    Cal P w K mg base (L2.CX P w) W 3 "_law_turned" 39 2 f__law_turned :=
  ⟨fd, ["_law_plan", "_law_walk"], gokD F sc__law_turned fun cdv B up z H E fr => 
      (dss_one (ds_ret (de_tup (da_cons (de_ix (de_callP c__law_points fr px rfl (da_cons (de_var (i := 0) rfl (Or.inl rfl)) (da_cons (de_var (i := 1) rfl (Or.inl rfl)) da_nil)) (hlen := (len_cons (len_cons len_nil)))) (de_neg de_int)) (da_cons (de_callTy call_tuple_of cd_tuple rfl g_tuple boot_tuple (da_cons (de_frz (dn_lc (own := [("_law_letter", 2)]) (is := [2]) rfl sc__law_turned.nd (di_rev rfl g_reversed (de_ix (de_var (i := 1) rfl (Or.inl rfl)) de_int)) (blkOk_by rfl) ⟨gName 2, fun _ _ _ _ _ => pg_name (i := 2) sc__law_turned.nd rfl (Or.inl rfl), tr_name⟩ (fun _ _ _ _ _ => dts_nil) (fun _ _ _ _ _ => (de_sub (de_neg de_int) (de_var (i := 2) rfl (Or.inl rfl)))) (by decide))) da_nil)) da_nil))))), hm, F.kp, F.bindsN fun _ _ _ _ _ _ us hl => match us, hl with | [_, _], _ => rfl⟩
theorem sc__law_string : FnScope ["_law_plan", "_law_walk"] ["_law_plan", "_law_walk"] (defScope s__law_string) := ⟨rfl, rfl, rfl, by decide +kernel, rfl, by decide +kernel, by decide +kernel⟩
theorem ok__law_string {fd : FuncData} (F : FunD K "_law_string" "_law_string" (defArgs s__law_string) (defBody s__law_string) (defScope s__law_string) [] [] (W.F 40) fd) (hm : mg "_law_string" = some (.ref (W.F 40))) (g_min : mg "min" = none) (c__law_turned : Cal P w K mg base (L2.CX P w) W 3 "_law_turned" 39 2 f__law_turned) :
    Cal P w K mg base (L2.CX P w) W 4 "_law_string" 40 2 f__law_string :=
  ⟨fd, ["_law_plan", "_law_walk"], gokD F sc__law_string fun cdv B up z H E fr => 
      (dss_one (ds_ret (de_callB ((cr_bestmin rfl fr.r.units).or (cr_twomin rfl fr.r.units)) cd_min rfl g_min PyProof.Rows.boot_min (da_cons (de_var (i := 1) rfl (Or.inl rfl)) (da_cons (de_callP c__law_turned fr px rfl (da_cons (de_var (i := 0) rfl (Or.inl rfl)) (da_cons (de_var (i := 1) rfl (Or.inl rfl)) da_nil)) (hlen := (len_cons (len_cons len_nil)))) da_nil))))), hm, F.kp, F.bindsN fun _ _ _ _ _ _ us hl => match us, hl with | [_, _], _ => rfl⟩
theorem sc__law_stretch : FnScope ["_law_i", "_law_j", "_law_one", "_law_other", "_law_k"] ["_law_i", "_law_j"] (defScope s__law_stretch) := ⟨rfl, rfl, rfl, by decide +kernel, rfl, by decide +kernel, by decide +kernel⟩
theorem ok__law_stretch {fd : FuncData} (F : FunD K "_law_stretch" "_law_stretch" (defArgs s__law_stretch) (defBody s__law_stretch) (defScope s__law_stretch) [] [] (W.F 41) fd) (hm : mg "_law_stretch" = some (.ref (W.F 41))) (g_min : mg "min" = none) (g_range : mg "range" = none) (g_tuple : mg "tuple" = none) :
    Cal P w K mg base (L2.CX P w) W 1 "_law_stretch" 41 2 f__law_stretch :=
  ⟨fd, ["_law_i", "_law_j"], gokD F sc__law_stretch fun cdv B up z H E fr => 
      (dss_cons (ds_set (i := 2) sc__law_stretch.nd rfl (Or.inl rfl) (de_tup (da_cons (de_var (i := 0) rfl (Or.inl rfl)) (da_cons (de_tupRg rfl rfl g_tuple (dr_2 rfl g_range (de_var (i := 0) rfl (Or.inl rfl)) (de_var (i := 1) rfl (Or.inl rfl)))) da_nil))))
      (dss_cons (ds_set (i := 3) sc__law_stretch.nd rfl (Or.inl rfl) (de_tup (da_cons (de_var (i := 1) rfl (Or.inl rfl)) (da_cons (de_callTy call_tuple_of cd_tuple rfl g_tuple boot_tuple (da_cons (de_frz (dn_lc (own := [("_law_k", 4)]) (is := [4]) rfl sc__law_stretch.nd (di_down rfl g_range (de_sub (de_var (i := 1) rfl (Or.inl rfl)) de_int) (de_sub (de_var (i := 0) rfl (Or.inl rfl)) de_int) (de_neg de_int)) (blkOk_by rfl) ⟨gName 4, fun _ _ _ _ _ => pg_name (i := 4) sc__law_stretch.nd rfl (Or.inl rfl), tr_name⟩ (fun _ _ _ _ _ => dts_nil) (fun _ _ _ _ _ => (de_sub (de_neg de_int) (de_var (i := 4) rfl (Or.inl rfl)))) (by decide))) da_nil)) da_nil))))
      (dss_one (ds_ret (de_callB ((cr_bestmin rfl fr.r.units).or (cr_twomin rfl fr.r.units)) cd_min rfl g_min PyProof.Rows.boot_min (da_cons (de_var (i := 2) rfl (Or.inl rfl)) (da_cons (de_var (i := 3) rfl (Or.inl rfl)) da_nil))))))), hm, F.kp, F.bindsN fun _ _ _ _ _ _ us hl => match us, hl with | [_, _], _ => rfl⟩
theorem sc__law_line_right : FnScope ["_law_size", "_law_plan", "_law_i", "_law_j", "_law_later", "_law_ahead", "_law_some", "_law_one", "_law_told", "_law_k"] ["_law_size"] (defScope s__law_line_right) := ⟨rfl, rfl, rfl, by decide +kernel, rfl, by decide +kernel, by decide +kernel⟩
theorem ok__law_line_right {fd : FuncData} (F : FunD K "_law_line_right" "_law_line_right" (defArgs s__law_line_right) (defBody s__law_line_right) (defScope s__law_line_right) [] [] (W.F 42) fd) (hm : mg "_law_line_right" = some (.ref (W.F 42))) (g_range : mg "range" = none) (g_sorted : mg "sorted" = none) (g_tuple : mg "tuple" = none) (c__law_stretch : Cal P w K mg base (L2.CX P w) W 1 "_law_stretch" 41 2 f__law_stretch) (c_forth : Cal P w K mg base (L2.CX P w) W 8 "forth" 25 2 f_forth) (c_back : Cal P w K mg base (L2.CX P w) W 8 "back" 26 2 f_back) (c_middle : Cal P w K mg base (L2.CX P w) W 8 "middle" 29 2 f_middle) (c_road : Cal P w K mg base (L2.CX P w) W 10 "road" 32 3 f_road) (c_road_back : Cal P w K mg base (L2.CX P w) W 10 "road_back" 33 3 f_road_back) (c__law_like : Cal P w K mg base (L2.CX P w) W 1 "_law_like" 36 2 f__law_like) (c_almost_split : Cal P w K mg base (L2.CX P w) W 9 "almost_split" 30 2 f_almost_split) :
    Cal P w K mg base (L2.CX P w) W 11 "_law_line_right" 42 1 f__law_line_right :=
  ⟨fd, ["_law_size"], gokD F sc__law_line_right fun cdv B up z H E fr => 
      (dss_cons (ds_set (i := 1) sc__law_line_right.nd rfl (Or.inl rfl) (de_tup (da_cons (de_var (i := 0) rfl (Or.inl rfl)) (da_cons (de_callTy call_tuple_of cd_tuple rfl g_tuple boot_tuple (da_cons (de_frz (dn_lc (own := [("_law_k", 9)]) (is := [9]) rfl sc__law_line_right.nd (di_rg1 rfl g_range (de_sub (de_var (i := 0) rfl (Or.inl rfl)) de_int)) (blkOk_by rfl) ⟨gName 9, fun _ _ _ _ _ => pg_name (i := 9) sc__law_line_right.nd rfl (Or.inl rfl), tr_name⟩ (fun _ _ _ _ _ => dts_nil) (fun _ _ _ _ _ => (de_tup (da_cons (de_var (i := 9) rfl (Or.inl rfl)) (da_cons (de_add (de_var (i := 9) rfl (Or.inl rfl)) de_int) da_nil)))) (by decide))) da_nil)) (da_cons (de_tup da_nil) da_nil)))))
      (dss_cons (ds_for pown rfl (di_rg1 rfl g_range (de_var (i := 0) rfl (Or.inl rfl))) (dg_name (i := 2) sc__law_line_right.nd rfl (Or.inl rfl)) (dss_one (ds_for pown rfl (di_rg2 rfl g_range (de_var (i := 2) rfl (Or.inl rfl)) (de_var (i := 0) rfl (Or.inl rfl))) (dg_name (i := 3) sc__law_line_right.nd rfl (Or.inl rfl)) (dss_cons (ds_set (i := 4) sc__law_line_right.nd rfl (Or.inl rfl) (de_if (dt_cmp (op_gtP fr.r.units) od_gt (de_var (i := 2) rfl (Or.inl rfl)) de_int) (de_callP c__law_stretch fr px rfl (da_cons (de_sub (de_var (i := 2) rfl (Or.inl rfl)) de_int) (da_cons (de_sub (de_var (i := 3) rfl (Or.inl rfl)) de_int) da_nil)) (hlen := (len_cons (len_cons len_nil)))) de_non))
      (dss_cons (ds_set (i := 5) sc__law_line_right.nd rfl (Or.inl rfl) (de_if (dt_cmp (op_ltP fr.r.units) od_lt (de_add (de_var (i := 3) rfl (Or.inl rfl)) de_int) (de_var (i := 0) rfl (Or.inl rfl))) (de_callP c__law_stretch fr px rfl (da_cons (de_add (de_var (i := 2) rfl (Or.inl rfl)) de_int) (da_cons (de_add (de_var (i := 3) rfl (Or.inl rfl)) de_int) da_nil)) (hlen := (len_cons (len_cons len_nil)))) de_non))
      (dss_cons (ds_set (i := 6) sc__law_line_right.nd rfl (Or.inl rfl) (de_add (de_if (dt_cmp (op_gtP fr.r.units) od_gt (de_var (i := 2) rfl (Or.inl rfl)) de_int) (de_frz (dn_lst (da_cons (de_callP c__law_stretch fr px rfl (da_cons (de_sub (de_var (i := 2) rfl (Or.inl rfl)) de_int) (da_cons (de_var (i := 3) rfl (Or.inl rfl)) da_nil)) (hlen := (len_cons (len_cons len_nil)))) da_nil))) (de_frz (dn_lst da_nil))) (de_if (dt_cmp (op_gtP fr.r.units) od_gt (de_var (i := 3) rfl (Or.inl rfl)) (de_var (i := 2) rfl (Or.inl rfl))) (de_frz (dn_lst (da_cons (de_callP c__law_stretch fr px rfl (da_cons (de_var (i := 2) rfl (Or.inl rfl)) (da_cons (de_sub (de_var (i := 3) rfl (Or.inl rfl)) de_int) da_nil)) (hlen := (len_cons (len_cons len_nil)))) da_nil))) (de_frz (dn_lst da_nil)))))
      (dss_cons (ds_set (i := 7) sc__law_line_right.nd rfl (Or.inl rfl) (de_callP c__law_stretch fr px rfl (da_cons (de_var (i := 2) rfl (Or.inl rfl)) (da_cons (de_var (i := 3) rfl (Or.inl rfl)) da_nil)) (hlen := (len_cons (len_cons len_nil)))))
      (dss_cons (ds_set (i := 8) sc__law_line_right.nd rfl (Or.inl rfl) (de_frz (dn_lst (da_cons (de_callP c_forth fr px rfl (da_cons (de_var (i := 1) rfl (Or.inl rfl)) (da_cons (de_var (i := 7) rfl (Or.inl rfl)) da_nil)) (hlen := (len_cons (len_cons len_nil)))) (da_cons (de_callP c_back fr px rfl (da_cons (de_var (i := 1) rfl (Or.inl rfl)) (da_cons (de_var (i := 7) rfl (Or.inl rfl)) da_nil)) (hlen := (len_cons (len_cons len_nil)))) (da_cons (de_callP c_middle fr px rfl (da_cons (de_var (i := 1) rfl (Or.inl rfl)) (da_cons (de_var (i := 7) rfl (Or.inl rfl)) da_nil)) (hlen := (len_cons (len_cons len_nil)))) (da_cons (de_callP c_road fr px rfl (da_cons (de_var (i := 1) rfl (Or.inl rfl)) (da_cons (de_var (i := 7) rfl (Or.inl rfl)) (da_cons de_int da_nil))) (hlen := (len_cons (len_cons (len_cons len_nil))))) (da_cons (de_callP c_road_back fr px rfl (da_cons (de_var (i := 1) rfl (Or.inl rfl)) (da_cons (de_var (i := 7) rfl (Or.inl rfl)) (da_cons de_int da_nil))) (hlen := (len_cons (len_cons (len_cons len_nil))))) da_nil))))))))
      (dss_cons (ds_if (dt_not (dt_tru (de_callP c__law_like fr px rfl (da_cons (de_var (i := 8) rfl (Or.inl rfl)) (da_cons (de_frz (dn_lst (da_cons (de_var (i := 4) rfl (Or.inl rfl)) (da_cons (de_var (i := 5) rfl (Or.inl rfl)) (da_cons (de_callTy call_tuple_of cd_tuple rfl g_tuple boot_tuple (da_cons (de_frz (dn_callB (cr_sortB fr.r.units) cn_sortB rfl g_sorted PyProof.Rows.boot_sorted (da_cons (de_var (i := 6) rfl (Or.inl rfl)) da_nil))) da_nil)) (da_cons (de_tup (da_cons de_str (da_cons (de_var (i := 2) rfl (Or.inl rfl)) da_nil))) (da_cons (de_tup (da_cons de_str (da_cons (de_sub (de_sub (de_var (i := 0) rfl (Or.inl rfl)) de_int) (de_var (i := 3) rfl (Or.inl rfl))) da_nil))) da_nil))))))) da_nil)) (hlen := (len_cons (len_cons len_nil)))))) (dss_one (ds_ret de_bl)) dss_nil)
      (dss_one (ds_if (dt_cmp op_notN od_notN (de_var (i := 4) rfl (Or.inl rfl)) de_non) (dss_one (ds_if (dt_not (dt_tru (de_callP c__law_like fr px rfl (da_cons (de_callP c_almost_split fr px rfl (da_cons (de_var (i := 1) rfl (Or.inl rfl)) (da_cons (de_var (i := 7) rfl (Or.inl rfl)) da_nil)) (hlen := (len_cons (len_cons len_nil)))) (da_cons (de_tup (da_cons (de_var (i := 7) rfl (Or.inl rfl)) (da_cons (de_callTy call_tuple_of cd_tuple rfl g_tuple boot_tuple (da_cons (de_frz (dn_callB (cr_sortB fr.r.units) cn_sortB rfl g_sorted PyProof.Rows.boot_sorted (da_cons (de_var (i := 6) rfl (Or.inl rfl)) da_nil))) da_nil)) (da_cons (de_var (i := 4) rfl (Or.inl rfl)) da_nil)))) da_nil)) (hlen := (len_cons (len_cons len_nil)))))) (dss_one (ds_ret de_bl)) dss_nil)) dss_nil)))))))))))
      (dss_one (ds_ret de_bl)))), hm, F.kp, F.bindsN fun _ _ _ _ _ _ us hl => match us, hl with | [_], _ => rfl⟩
theorem sc__law_noughts_right : FnScope ["_law_size", "_law_is_round", "_law_count", "_law_pairs", "_law_plan", "_law_p", "_law_ahead", "_law_told", "_law_due", "_law_k", "_law_one", "_law_kept"] ["_law_size", "_law_is_round"] (defScope s__law_noughts_right) := ⟨rfl, rfl, rfl, by decide +kernel, rfl, by decide +kernel, by decide +kernel⟩
theorem ok__law_noughts_right {fd : FuncData} (F : FunD K "_law_noughts_right" "_law_noughts_right" (defArgs s__law_noughts_right) (defBody s__law_noughts_right) (defScope s__law_noughts_right) [] [] (W.F 43) fd) (hm : mg "_law_noughts_right" = some (.ref (W.F 43))) (g_int : mg "int" = none) (g_range : mg "range" = none) (g_sorted : mg "sorted" = none) (g_tuple : mg "tuple" = none) (c_forth : Cal P w K mg base (L2.CX P w) W 8 "forth" 25 2 f_forth) (c_road : Cal P w K mg base (L2.CX P w) W 10 "road" 32 3 f_road) (c__law_like : Cal P w K mg base (L2.CX P w) W 1 "_law_like" 36 2 f__law_like) (c__law_string : Cal P w K mg base (L2.CX P w) W 4 "_law_string" 40 2 f__law_string) (c_back : Cal P w K mg base (L2.CX P w) W 8 "back" 26 2 f_back) (c_middle : Cal P w K mg base (L2.CX P w) W 8 "middle" 29 2 f_middle) :
    Cal P w K mg base (L2.CX P w) W 11 "_law_noughts_right" 43 2 f__law_noughts_right :=
  ⟨fd, ["_law_size", "_law_is_round"], gokD F sc__law_noughts_right fun cdv B up z H E fr => 
      (dss_cons (ds_set (i := 2) sc__law_noughts_right.nd rfl (Or.inl rfl) (de_if (dt_tru (de_var (i := 1) rfl (Or.inl rfl))) (de_var (i := 0) rfl (Or.inr (Or.inl rfl))) (de_sub (de_var (i := 0) rfl (Or.inr (Or.inl rfl))) de_int)))
      (dss_cons (ds_set (i := 3) sc__law_noughts_right.nd rfl (Or.inl rfl) (de_callTy call_tuple_of cd_tuple rfl g_tuple boot_tuple (da_cons (de_frz (dn_lc (own := [("_law_k", 9)]) (is := [9]) rfl sc__law_noughts_right.nd (di_rg1 rfl g_range (de_if (dt_tru (de_var (i := 1) rfl (Or.inl rfl))) (de_var (i := 2) rfl (Or.inl rfl)) (de_sub (de_var (i := 2) rfl (Or.inl rfl)) de_int))) (blkOk_by rfl) ⟨gName 9, fun _ _ _ _ _ => pg_name (i := 9) sc__law_noughts_right.nd rfl (Or.inl rfl), tr_name⟩ (fun _ _ _ _ _ => dts_nil) (fun _ _ _ _ _ => (de_tup (da_cons (de_var (i := 9) rfl (Or.inl rfl)) (da_cons (de_mod (de_callTy call_int1 cd_int rfl g_int boot_int (da_cons (de_add (de_var (i := 9) rfl (Or.inl rfl)) de_int) da_nil)) (de_var (i := 0) rfl (Or.inr (Or.inl rfl)))) da_nil)))) (by decide))) da_nil)))
      (dss_cons (ds_set (i := 4) sc__law_noughts_right.nd rfl (Or.inl rfl) (de_tup (da_cons (de_var (i := 0) rfl (Or.inr (Or.inl rfl))) (da_cons (de_callTy call_tuple_of cd_tuple rfl g_tuple boot_tuple (da_cons (de_frz (dn_lc (own := [("_law_k", 9)]) (is := [9]) rfl sc__law_noughts_right.nd (di_rg1 rfl g_range (de_var (i := 2) rfl (Or.inl rfl))) (blkOk_by rfl) ⟨gName 9, fun _ _ _ _ _ => pg_name (i := 9) sc__law_noughts_right.nd rfl (Or.inl rfl), tr_name⟩ (fun _ _ _ _ _ => dts_nil) (fun _ _ _ _ _ => (de_tup (da_cons (de_var (i := 9) rfl (Or.inl rfl)) (da_cons (de_mod (de_callTy call_int1 cd_int rfl g_int boot_int (da_cons (de_add (de_var (i := 9) rfl (Or.inl rfl)) de_int) da_nil)) (de_var (i := 0) rfl (Or.inr (Or.inl rfl)))) da_nil)))) (by decide))) da_nil)) (da_cons (de_callTy call_tuple_of cd_tuple rfl g_tuple boot_tuple (da_cons (de_frz (dn_callB (cr_sortB fr.r.units) cn_sortB rfl g_sorted PyProof.Rows.boot_sorted (da_cons (de_var (i := 3) rfl (Or.inl rfl)) da_nil))) da_nil)) da_nil)))))
      (dss_cons (ds_for pown rfl (di_rg1 rfl g_range (de_var (i := 0) rfl (Or.inr (Or.inl rfl)))) (dg_name (i := 5) sc__law_noughts_right.nd rfl (Or.inl rfl)) (dss_cons (ds_set (i := 6) sc__law_noughts_right.nd rfl (Or.inl rfl) (de_if (dw_pt (dw_or (dt_tru (de_var (i := 1) rfl (Or.inl rfl))) (dw_or1 (dt_cmp (op_gtP fr.r.units) od_gt (de_var (i := 5) rfl (Or.inl rfl)) de_int)))) (de_mod (de_callTy call_int1 cd_int rfl g_int boot_int (da_cons (de_sub (de_var (i := 5) rfl (Or.inl rfl)) de_int) da_nil)) (de_var (i := 0) rfl (Or.inr (Or.inl rfl)))) de_non))
      (dss_cons (ds_set (i := 7) sc__law_noughts_right.nd rfl (Or.inl rfl) (de_frz (dn_lst (da_cons (de_callP c_forth fr px rfl (da_cons (de_var (i := 4) rfl (Or.inl rfl)) (da_cons (de_tup (da_cons (de_var (i := 5) rfl (Or.inl rfl)) (da_cons (de_tup da_nil) da_nil))) da_nil)) (hlen := (len_cons (len_cons len_nil)))) (da_cons (de_callP c_road fr px rfl (da_cons (de_var (i := 4) rfl (Or.inl rfl)) (da_cons (de_tup (da_cons (de_var (i := 5) rfl (Or.inl rfl)) (da_cons (de_tup da_nil) da_nil))) (da_cons de_int da_nil))) (hlen := (len_cons (len_cons (len_cons len_nil))))) da_nil)))))
      (dss_cons (ds_set (i := 8) sc__law_noughts_right.nd rfl (Or.inl rfl) (de_frz (dn_lst (da_cons (de_if (dt_cmp op_isN od_isN (de_var (i := 6) rfl (Or.inl rfl)) de_non) de_non (de_tup (da_cons (de_var (i := 6) rfl (Or.inl rfl)) (da_cons (de_tup da_nil) da_nil)))) (da_cons (de_if (dt_tru (de_var (i := 1) rfl (Or.inl rfl))) (de_tup (da_cons de_str (da_cons (de_var (i := 0) rfl (Or.inr (Or.inl rfl))) da_nil))) (de_tup (da_cons de_str (da_cons (de_var (i := 5) rfl (Or.inl rfl)) da_nil)))) da_nil)))))
      (dss_one (ds_if (dt_not (dt_tru (de_callP c__law_like fr px rfl (da_cons (de_var (i := 7) rfl (Or.inl rfl)) (da_cons (de_var (i := 8) rfl (Or.inl rfl)) da_nil)) (hlen := (len_cons (len_cons len_nil)))))) (dss_one (ds_ret de_bl)) dss_nil))))))
      (dss_cons (ds_for pown rfl (di_rg1 rfl g_range (de_var (i := 2) rfl (Or.inl rfl))) (dg_name (i := 9) sc__law_noughts_right.nd rfl (Or.inl rfl)) (dss_cons (ds_set (i := 10) sc__law_noughts_right.nd rfl (Or.inl rfl) (de_callP c__law_string fr px rfl (da_cons (de_var (i := 4) rfl (Or.inl rfl)) (da_cons (de_tup (da_cons (de_var (i := 9) rfl (Or.inl rfl)) (da_cons (de_tup (da_cons (de_var (i := 9) rfl (Or.inl rfl)) da_nil)) da_nil))) da_nil)) (hlen := (len_cons (len_cons len_nil)))))
      (dss_cons (ds_set (i := 11) sc__law_noughts_right.nd rfl (Or.inl rfl) (de_callP c__law_string fr px rfl (da_cons (de_var (i := 4) rfl (Or.inl rfl)) (da_cons (de_tup (da_cons (de_var (i := 9) rfl (Or.inl rfl)) (da_cons (de_tup da_nil) da_nil))) da_nil)) (hlen := (len_cons (len_cons len_nil)))))
      (dss_one (ds_if (dt_not (dt_tru (de_callP c__law_like fr px rfl (da_cons (de_frz (dn_lst (da_cons (de_callP c_forth fr px rfl (da_cons (de_var (i := 4) rfl (Or.inl rfl)) (da_cons (de_var (i := 10) rfl (Or.inl rfl)) da_nil)) (hlen := (len_cons (len_cons len_nil)))) (da_cons (de_callP c_back fr px rfl (da_cons (de_var (i := 4) rfl (Or.inl rfl)) (da_cons (de_var (i := 10) rfl (Or.inl rfl)) da_nil)) (hlen := (len_cons (len_cons len_nil)))) (da_cons (de_callP c_middle fr px rfl (da_cons (de_var (i := 4) rfl (Or.inl rfl)) (da_cons (de_var (i := 10) rfl (Or.inl rfl)) da_nil)) (hlen := (len_cons (len_cons len_nil)))) da_nil))))) (da_cons (de_frz (dn_lst (da_cons de_non (da_cons de_non (da_cons (de_tup (da_cons (de_var (i := 11) rfl (Or.inl rfl)) da_nil)) da_nil))))) da_nil)) (hlen := (len_cons (len_cons len_nil)))))) (dss_one (ds_ret de_bl)) dss_nil)))))
      (dss_one (ds_ret de_bl))))))), hm, F.kp, F.bindsN fun _ _ _ _ _ _ us hl => match us, hl with | [_, _], _ => rfl⟩
theorem sc_law : FnScope ["_law_script", "_law_m", "_law_size", "_law_many"] ["_law_script"] (defScope s_law) := ⟨rfl, rfl, rfl, by decide +kernel, rfl, by decide +kernel, by decide +kernel⟩
theorem okG_law {fd : FuncData} (F : FunD K "law" "law" (defArgs s_law) (defBody s_law) (defScope s_law) [] [] (W.F 44) fd) (c__law_begun : Cal P w K mg base (L2.CX P w) W 1 "_law_begun" 34 2 f__law_begun) (c__law_draw : Cal P w K mg base (L2.CX P w) W 1 "_law_draw" 35 2 f__law_draw) (c__law_line_right : Cal P w K mg base (L2.CX P w) W 11 "_law_line_right" 42 1 f__law_line_right) (c__law_noughts_right : Cal P w K mg base (L2.CX P w) W 11 "_law_noughts_right" 43 2 f__law_noughts_right) :
    GOk P w K mg base (L2.CX P w) 12 (W.F 44) fd ["_law_script"] (spD W 1 f_law) :=
  gokD F sc_law fun cdv B up z H E fr => 
      (dss_cons (ds_set (i := 1) sc_law.nd rfl (Or.inl rfl) (de_callR c__law_begun fr px rfl (da_cons (de_var (i := 0) rfl (Or.inl rfl)) (da_cons de_int da_nil)) (hlen := (len_cons (len_cons len_nil)))))
      (dss_cons (ds_set (i := 2) sc_law.nd rfl (Or.inl rfl) (de_add de_int (de_callR c__law_draw fr px rfl (da_cons (de_var (i := 1) rfl (Or.inl rfl)) (da_cons de_int da_nil)) (hlen := (len_cons (len_cons len_nil))))))
      (dss_cons (ds_for pown rfl (di_seq (de_tup (da_cons de_int (da_cons de_int (da_cons de_int (da_cons (de_var (i := 2) rfl (Or.inl rfl)) da_nil)))))) (dg_name (i := 3) sc_law.nd rfl (Or.inl rfl)) (dss_one (ds_if (dw_pt (dw_or (dt_not (dt_tru (de_callP c__law_line_right fr px rfl (da_cons (de_var (i := 3) rfl (Or.inl rfl)) da_nil) (hlen := (len_cons len_nil))))) (dw_or (dt_not (dt_tru (de_callP c__law_noughts_right fr px rfl (da_cons (de_var (i := 3) rfl (Or.inl rfl)) (da_cons de_bl da_nil)) (hlen := (len_cons (len_cons len_nil)))))) (dw_or1 (dt_not (dt_tru (de_callP c__law_noughts_right fr px rfl (da_cons (de_var (i := 3) rfl (Or.inl rfl)) (da_cons de_bl da_nil)) (hlen := (len_cons (len_cons len_nil)))))))))) (dss_one (ds_ret de_bl)) dss_nil)))
      (dss_one (ds_ret de_bl)))))
end
end FK

set_option Elab.async false
set_option linter.all false
set_option maxRecDepth 100000
namespace FK
open DL
/-! the script's cells and the draws -/
def zs (ns : List Int) : List D := ns.map D.int
theorem zs_fits : ∀ (ns : List Int) (n : Nat), fits (zs ns) (n + 1) = true
  | [], n => rfl
  | i :: ns, n => by
    show (fit (.int i) (n + 1) && fits (zs ns) (n + 1)) = true
    rw [zs_fits ns n]
    rfl
theorem mul_r {st : Store} {i j : Int} (h : inR j = true) : opMul st (.int i) (.int j) = some (.int (i * j)) := by
  show (if (inR i || inR j) = true then _ else _) = _
  rw [h, Bool.or_true, if_pos rfl]
theorem mul_l {st : Store} {i j : Int} (h : inR i = true) : opMul st (.int i) (.int j) = some (.int (i * j)) := by
  show (if (inR i || inR j) = true then _ else _) = _
  rw [h, Bool.true_or, if_pos rfl]
theorem mod_i {st : Store} {i j : Int} (h : j ≠ 0) : opMod st (.int i) (.int j) = some (.int (i.fmod j)) := if_neg h
theorem fdiv_i {st : Store} {i j : Int} (h : j ≠ 0) (h2 : j.natAbs < 1073741824) : opFdiv st (.int i) (.int j) = some (.int (i.fdiv j)) := by
  show (if j = 0 ∨ ¬ j.natAbs < 1073741824 then _ else _) = _
  rw [if_neg (by omega)]
theorem add_i {st : Store} {i j : Int} : opAdd st (.int i) (.int j) = some (.int (i + j)) := rfl
theorem ge_i {st : Store} {i j : Int} : opGe st (.int i) (.int j) = some (.bl (!decide (i < j))) := rfl
theorem gt_i {st : Store} {i j : Int} : opGt st (.int i) (.int j) = some (.bl (decide (j < i))) := rfl
theorem fmod_r {i j : Int} (h : 0 < j) : 0 ≤ i.fmod j ∧ i.fmod j < j := ⟨Int.fmod_nonneg_of_pos i h, Int.fmod_lt_of_pos i h⟩
/-- the seed's loop -/
abbrev bSeed : EvT := sAsg (eOp opMod (eCallB opInt (aCons (eOp opAdd (eOp opMul (eVar 4) (eC (.int 48271))) (eVar 5)) aNil)) (eC (.int 2147483647))) (tgN 4)
theorem seed_one (a b c d : Option D) (s i : Int) (st : Store) : bSeed [a, b, c, d, some (.int s), some (.int i)] st = .ok (.nx, [a, b, c, d, some (.int ((s * 48271 + i).fmod 2147483647)), some (.int i)]) st := by
  simp only [bSeed, sAsg, eOp, eCallB, aCons, aNil, eVar, eC, R.bind, R.ofO, List.getElem?_cons_succ, List.getElem?_cons_zero, mul_r (show inR 48271 = true by decide), add_i, opInt, mod_i (show (2147483647 : Int) ≠ 0 by decide), tgN, List.set_cons_succ, List.set_cons_zero]
theorem seed_loop : ∀ (ns : List Int) (a b c d x : Option D) (s : Int) (st : Store), ∃ (s' : Int) (x' : Option D), forVals (tgN 5) bSeed (zs ns) [a, b, c, d, some (.int s), x] st = .ok (.nx, [a, b, c, d, some (.int s'), x']) st
  | [], a, b, c, d, x, s, st => ⟨s, x, rfl⟩
  | i :: ns, a, b, c, d, x, s, st => by
    obtain ⟨s', x', h⟩ := seed_loop ns a b c d (some (.int i)) ((s * 48271 + i).fmod 2147483647) st
    refine ⟨s', x', ?_⟩
    rw [← h]
    show (bSeed [a, b, c, d, some (.int s), some (.int i)] st).bind _ = _
    rw [seed_one]
    rfl
theorem pow18 {st : Store} : opPow st (.int 10) (.int 18) = some (.int 1000000000000000000) := by
  show (if (0 : Int) ≤ 18 ∧ (18 : Int) ≤ 1000000 ∧ (10 : Int).natAbs < 18446744073709551616 then some (D.int ((10 : Int) ^ (18 : Int).toNat)) else none) = _
  rw [if_pos (by decide)]
  rfl
/-- the great cells -/
def great (ns : List Int) : List Int := ns.filter fun i => !decide (i < 1000000000000000000)
theorem great_one {env : Ent} {st : Store} {i : Int} (h : env.length = 6) : lcTurn (tgN 5) (tOf (eOp opGe (eVar 5) (eOp opPow (eC (.int 10)) (eC (.int 18))))) (eVar 5) (.int i) env st = .ok (if decide (i < 1000000000000000000) = true then none else some (.int i)) st := by
  match env, h with
  | [a, b, c, d, e, f], _ =>
    simp only [lcTurn, tgN, List.set_cons_succ, List.set_cons_zero, tOf, eOp, eVar, eC, R.bind, R.ofO, List.getElem?_cons_succ, List.getElem?_cons_zero, pow18, ge_i]
    cases decide (i < 1000000000000000000) <;> rfl
theorem great_all (env : Ent) (st : Store) (h : env.length = 6) : ∀ ns : List Int, lcVals (tgN 5) (tOf (eOp opGe (eVar 5) (eOp opPow (eC (.int 10)) (eC (.int 18))))) (eVar 5) env (zs ns) st = .ok (zs (great ns)) st
  | [] => rfl
  | i :: ns => by
    have ih := great_all env st h ns
    show (lcTurn _ _ _ (.int i) env st).bind _ = _
    rw [great_one h]
    unfold great
    rw [List.filter_cons]
    cases q : decide (i < 1000000000000000000)
    · rw [if_neg Bool.false_ne_true]
      show ((lcVals _ _ _ env (zs ns) st).bind _) = _
      rw [ih]
      rfl
    · rw [if_pos rfl]
      exact ih
theorem great_pos : ∀ {ns : List Int} {i : Int}, i ∈ great ns → 0 < i := fun h => by
  have := (List.mem_filter.mp h).2
  simp at this
  omega
def mD (L S : Int) (cs : List D) (sp : Int) : Cell := .dct [(.inr "left", .int L), (.inr "seed", .int S), (.inr "cells", .lst cs), (.inr "spot", .int sp)]
theorem cut0 {α : Type} (xs : List α) : cutD xs (some 0) none = xs := by
  unfold cutD
  simp [HT.sIx]
theorem cut00 {α : Type} (xs : List α) : cutD xs none (some 0) = [] := by
  unfold cutD
  simp [HT.sIx]
theorem ix0 {st : Store} {d : D} {ds : List D} : opIx st (.lst (d :: ds)) (.int 0) = some d := by
  show L2.atI (d :: ds) 0 = _
  simp [L2.atI, L2.ixN]
theorem seq_nx {f g : EvT} {env env1 : Ent} {st st1 : Store} (h : f env st = .ok (.nx, env1) st1) : sSeq f g env st = g env1 st1 := by
  unfold sSeq
  rw [h]
  rfl
theorem asg_ok {f : Ev} {i : Nat} {env : Ent} {st st1 : Store} {d : D} (h : f env st = .ok d st1) : sAsg f (tgN i) env st = .ok (.nx, env.set i (some d)) st1 := by
  unfold sAsg
  rw [h]
  rfl
theorem cons_ok {f : Ev} {h : EvL} {env : Ent} {st st1 st2 : Store} {a : D} {as : List D} (e1 : f env st = .ok a st1) (e2 : h env st1 = .ok as st2) : aCons f h env st = .ok (a :: as) st2 := by
  unfold aCons
  rw [e1]
  show R.bind (h env st1) _ = _
  rw [e2]
  rfl
theorem ret_ok {f : Ev} {env : Ent} {st st1 : Store} {d : D} (h : f env st = .ok d st1) : sRet f env st = .ok (.rt d, env) st1 := by
  unfold sRet
  rw [h]
  rfl
theorem sOk_small {n : Nat} (h : n ≤ 100) : sOk n = true := sOk_of (by omega)
set_option maxHeartbeats 4000000 in
theorem begun (ns : List Int) (hn : ns.length ≤ 63) : ∃ (L S : Int), 0 ≤ L ∧ f__law_begun [.lst (zs ns), .int 0] [] = .ok (.ref 0) [mD L S (zs ns ++ [.int 11]) 0] := by
  have lz : (zs ns).length = ns.length := by simp [zs]
  have lg : (zs (great ns)).length ≤ 63 := by
    simp only [zs, great, List.length_map]
    exact Nat.le_trans (List.length_filter_le ..) hn
  obtain ⟨s', x', hs⟩ := seed_loop ns (some (.lst (zs ns))) (some (.int 0)) (some (.lst (zs ns))) (some (.lst (zs (great ns)))) none 71 []
  have e1 : (eOp opAdd (eSl (eVar 0) (oSome (eVar 1)) oNone) (eSl (eVar 0) oNone (oSome (eVar 1)))) [some (.lst (zs ns)), some (.int 0), none, none, none, none] [] = .ok (.lst (zs ns)) [] := by
    show R.ofO (opAdd [] (.lst (cutD (zs ns) (some 0) none)) (.lst (cutD (zs ns) none (some 0)))) [] = _
    rw [cut0, cut00]
    show R.ofO (if sOk ((zs ns).length + 0) = true then some (D.lst (zs ns ++ [])) else none) [] = _
    rw [if_pos (sOk_small (by omega)), List.append_nil]
    rfl
  have e2 : (eFrz (nLc (iSeq (eVar 2)) (tgN 5) (tOf (eOp opGe (eVar 5) (eOp opPow (eC (.int 10)) (eC (.int 18))))) (eVar 5) [5])) [some (.lst (zs ns)), some (.int 0), some (.lst (zs ns)), none, none, none] [] = .ok (.lst (zs (great ns))) [] := by
    show R.bind (match lcVals _ _ _ [some (.lst (zs ns)), some (.int 0), some (.lst (zs ns)), none, none, none] (zs ns) [] with | .ok ds st2 => if sOk ds.length then .ok ds st2 else .no | _ => .no) _ = _
    rw [great_all _ _ rfl]
    show R.bind (if sOk (zs (great ns)).length = true then _ else _) _ = _
    rw [if_pos (sOk_small (by omega))]
    rfl
  have e3 : ∃ L : Int, 0 ≤ L ∧ ∀ env : Ent, env[3]? = some (some (.lst (zs (great ns)))) → (eIfE (tOf (eOp opNe (eVar 3) (eFrz (nLst aNil)))) (eOp opIx (eVar 3) (eC (.int 0))) (eC (.int 0))) env [.dct []] = .ok (.int L) [.dct []] := by
    cases hg : great ns with
    | nil => refine ⟨0, Int.le_refl _, fun env he => ?_⟩; simp only [eIfE, tOf, eOp, eVar, he]; rfl
    | cons g gs =>
      refine ⟨g, Int.le_of_lt (great_pos (ns := ns) (by rw [hg]; exact List.mem_cons_self ..)), fun env he => ?_⟩
      have q : ∀ st : Store, opNe st (.lst (zs (g :: gs))) (.lst []) = some (.bl true) := fun st => by
        show (if (fits (zs (g :: gs)) 39 && true) = true then some (D.bl true) else none) = _
        rw [zs_fits _ 38]
        rfl
      simp only [eIfE, tOf, eOp, eVar, he, eC, eFrz, nLst, aNil, R.bind, R.ofO, List.length_nil, sOk_small (Nat.zero_le _), if_true, q]
      show R.ofO (opIx _ (.lst (zs (g :: gs))) (.int 0)) _ = _
      rw [show zs (g :: gs) = .int g :: zs gs from rfl, ix0]
      rfl
  obtain ⟨L, hL, e3⟩ := e3
  refine ⟨L, s', hL, ?_⟩
  have e4 : (sFor 1000 (iSeq (eVar 2)) (tgN 5) bSeed) [some (.lst (zs ns)), some (.int 0), some (.lst (zs ns)), some (.lst (zs (great ns))), some (.int 71), none] [] = _ := hs
  have e5 : ∀ st : Store, opAdd st (.lst (zs ns)) (.lst [.int 11]) = some (.lst (zs ns ++ [.int 11])) := fun st => by
    show (if sOk ((zs ns).length + 1) = true then some (D.lst (zs ns ++ [.int 11])) else none) = _
    rw [if_pos (sOk_small (by omega))]
  have e6 : opMul [.dct []] (.int 53) (.int 0) = some (.int 0) := mul_l (by decide)
  show (runF 2 6 b__law_begun) _ _ = _
  have hb : b__law_begun [some (.lst (zs ns)), some (.int 0), none, none, none, none] [] = .ok (.rt (.ref 0), [some (.lst (zs ns)), some (.int 0), some (.lst (zs ns)), some (.lst (zs (great ns))), some (.int s'), x']) [mD L s' (zs ns ++ [.int 11]) 0] := by
    refine (seq_nx (asg_ok e1)).trans ?_
    refine (seq_nx (asg_ok e2)).trans ?_
    refine (seq_nx (asg_ok (d := .int 71) rfl)).trans ?_
    refine (seq_nx e4).trans ?_
    show (eDict _ _ [some (.lst (zs ns)), some (.int 0), some (.lst (zs ns)), some (.lst (zs (great ns))), some (.int s'), x'] []).bind _ = _
    have e7 : eOp opAdd (eVar 2) (eFrz (nLst (aCons (eOp opAdd (eOp opMul (eC (.int 53)) (eVar 1)) (eC (.int 11))) aNil))) [some (.lst (zs ns)), some (.int 0), some (.lst (zs ns)), some (.lst (zs (great ns))), some (.int s'), x'] [.dct []] = .ok (.lst (zs ns ++ [.int 11])) [.dct []] := by
      show R.ofO (opAdd [.dct []] (.lst (zs ns)) (.lst [.int 11])) _ = _
      rw [e5]
      rfl
    have e9 : eAll [eIfE (tOf (eOp opNe (eVar 3) (eFrz (nLst aNil)))) (eOp opIx (eVar 3) (eC (.int 0))) (eC (.int 0)), eVar 4, eOp opAdd (eVar 2) (eFrz (nLst (aCons (eOp opAdd (eOp opMul (eC (.int 53)) (eVar 1)) (eC (.int 11))) aNil))), eC (.int 0)] [some (.lst (zs ns)), some (.int 0), some (.lst (zs ns)), some (.lst (zs (great ns))), some (.int s'), x'] ([] ++ [.dct []]) = .ok [.int L, .int s', .lst (zs ns ++ [.int 11]), .int 0] [.dct []] := cons_ok (e3 _ rfl) (cons_ok (f := eVar 4) rfl (cons_ok e7 (cons_ok (f := eC (.int 0)) rfl (rfl : aNil _ _ = _))))
    unfold eDict
    rw [e9]
    rfl
  unfold runF
  show (b__law_begun [some (.lst (zs ns)), some (.int 0), none, none, none, none] []).bind _ = _
  rw [hb]
  rfl
theorem vhit {k : L2.Key} {d : D} {r : List (L2.Key × D)} : valD ((k, d) :: r) k = some d := by
  unfold valD
  rw [if_pos rfl]
theorem vskip {k1 k : L2.Key} {d : D} {r : List (L2.Key × D)} (h : k1 ≠ k) : valD ((k1, d) :: r) k = valD r k := by
  show (if k1 = k then some d else valD r k) = _
  rw [if_neg h]
theorem phit {k : L2.Key} {d d' : D} {r : List (L2.Key × D)} : putD ((k, d) :: r) k d' = (k, d') :: r := by
  unfold putD
  rw [if_pos rfl]
theorem pskip {k1 k : L2.Key} {d d' : D} {r : List (L2.Key × D)} (h : k1 ≠ k) : putD ((k1, d) :: r) k d' = (k1, d) :: putD r k d' := by
  show (if k1 = k then (k, d') :: r else (k1, d) :: putD r k d') = _
  rw [if_neg h]
section
variable {st : Store} {n : Nat} {L S sp : Int} {cs : List D}
theorem get_left (h : st[n]? = some (mD L S cs sp)) : opDGet st (.ref n) (.str "left") = some (.int L) := by
  show (match st[n]? with | some (.dct kds) => valD kds (.inr "left") | _ => none) = _
  rw [h]
  exact vhit
theorem get_seed (h : st[n]? = some (mD L S cs sp)) : opDGet st (.ref n) (.str "seed") = some (.int S) := by
  show (match st[n]? with | some (.dct kds) => valD kds (.inr "seed") | _ => none) = _
  rw [h]
  exact (vskip (by decide)).trans vhit
theorem get_cells (h : st[n]? = some (mD L S cs sp)) : opDGet st (.ref n) (.str "cells") = some (.lst cs) := by
  show (match st[n]? with | some (.dct kds) => valD kds (.inr "cells") | _ => none) = _
  rw [h]
  exact (vskip (by decide)).trans ((vskip (by decide)).trans vhit)
theorem get_spot (h : st[n]? = some (mD L S cs sp)) : opDGet st (.ref n) (.str "spot") = some (.int sp) := by
  show (match st[n]? with | some (.dct kds) => valD kds (.inr "spot") | _ => none) = _
  rw [h]
  exact (vskip (by decide)).trans ((vskip (by decide)).trans ((vskip (by decide)).trans vhit))
theorem nd_mD : ndK [((.inr "left" : L2.Key), D.int L), (.inr "seed", .int S), (.inr "cells", .lst cs), (.inr "spot", .int sp)] = true := by
  simp only [ndK, valD]
  simp (decide := true)
theorem put_ok {fd fk fv : Ev} {env : Ent} {v : D} {k : PySem.Str} {c : Cell} (e1 : fv env st = .ok v st) (e2 : fd env st = .ok (.ref n) st) (e3 : fk env st = .ok (.str k) st) (h : st[n]? = some (mD L S cs sp))
    (e4 : Cell.dct (putD [((.inr "left" : L2.Key), D.int L), (.inr "seed", .int S), (.inr "cells", .lst cs), (.inr "spot", .int sp)] (.inr k) v) = c) : sDPutD fd fk fv env st = .ok (.nx, env) (st.set n c) := by
  unfold sDPutD
  rw [e1]
  show R.bind (fd env st) _ = _
  rw [e2]
  show R.bind (fk env st) _ = _
  rw [e3]
  show (match st[n]? with | some (.dct kds) => (if (ndK kds && sOk (kds.length + 1)) = true then R.ok (Out.nx, env) (st.set n (.dct (putD kds (.inr k) v))) else .no) | _ => .no) = _
  rw [h]
  show (if (ndK _ && sOk 5) = true then _ else _) = _
  rw [nd_mD, sOk_small (by decide), if_pos (by rfl), e4]
theorem put_left {L' : Int} : Cell.dct (putD [((.inr "left" : L2.Key), D.int L), (.inr "seed", .int S), (.inr "cells", .lst cs), (.inr "spot", .int sp)] (.inr "left") (.int L')) = mD L' S cs sp := by
  rw [phit]
  rfl
theorem put_spot {sp' : Int} : Cell.dct (putD [((.inr "left" : L2.Key), D.int L), (.inr "seed", .int S), (.inr "cells", .lst cs), (.inr "spot", .int sp)] (.inr "spot") (.int sp')) = mD L S cs sp' := by
  rw [pskip (by decide), pskip (by decide), pskip (by decide), phit]
  rfl
end
theorem op_ok {op : Store → D → D → Option D} {f g : Ev} {env : Ent} {st st1 st2 : Store} {a b d : D} (h1 : f env st = .ok a st1) (h2 : g env st1 = .ok b st2) (h3 : op st2 a b = some d) : eOp op f g env st = .ok d st2 := by
  unfold eOp
  rw [h1]
  show R.bind (g env st1) _ = _
  rw [h2]
  show R.ofO (op st2 a b) st2 = _
  rw [h3]
  rfl
theorem callB_ok {op : Store → List D → Option D} {g : EvL} {env : Ent} {st st1 : Store} {as : List D} {d : D} (h1 : g env st = .ok as st1) (h3 : op st1 as = some d) : eCallB op g env st = .ok d st1 := by
  unfold eCallB
  rw [h1]
  show R.ofO (op st1 as) st1 = _
  rw [h3]
  rfl
theorem one_ok {f : Ev} {env : Ent} {st st1 : Store} {a : D} (h1 : f env st = .ok a st1) : aCons f aNil env st = .ok [a] st1 := cons_ok h1 rfl
theorem int_ok {f : Ev} {env : Ent} {st st1 : Store} {i : Int} (h1 : f env st = .ok (.int i) st1) : eCallB opInt (aCons f aNil) env st = .ok (.int i) st1 := callB_ok (one_ok h1) rfl
theorem par_ok {f g : Ev} {i j : Nat} {env : Ent} {st st1 st2 : Store} {a b : D} (h1 : f env st = .ok a st1) (h2 : g env st1 = .ok b st2) : sPar i j f g env st = .ok (.nx, (env.set i (some a)).set j (some b)) st2 := by
  unfold sPar
  rw [h1]
  show R.bind (g env st1) _ = _
  rw [h2]
  rfl
theorem if_t {p : EvB} {f g : EvT} {env : Ent} {st st1 : Store} (h : p env st = .ok true st1) : sIf p f g env st = f env st1 := by
  unfold sIf
  rw [h]
  rfl
theorem if_f {p : EvB} {f g : EvT} {env : Ent} {st st1 : Store} (h : p env st = .ok false st1) : sIf p f g env st = g env st1 := by
  unfold sIf
  rw [h]
  rfl
theorem tof_ok {f : Ev} {env : Ent} {st st1 : Store} {k : Bool} (h : f env st = .ok (.bl k) st1) : tOf f env st = .ok k st1 := by
  unfold tOf
  rw [h]
  rfl
theorem seq_rt {f g : EvT} {env env1 : Ent} {st st1 : Store} {d : D} (h : f env st = .ok (.rt d, env1) st1) : sSeq f g env st = .ok (.rt d, env1) st1 := by
  unfold sSeq
  rw [h]
  rfl
theorem ix_at {st : Store} {ms : List Int} {i : Int} (h0 : 0 ≤ i) (h1 : i < ms.length) : ∃ c : Int, opIx st (.lst (zs ms)) (.int i) = some (.int c) := by
  have hl : i.toNat < ms.length := by omega
  refine ⟨ms[i.toNat], ?_⟩
  show L2.atI (zs ms) i = _
  have lz : (zs ms).length = ms.length := by simp [zs]
  unfold L2.atI L2.ixN
  rw [if_pos h0, if_pos (by rw [lz]; exact h1)]
  show (zs ms)[i.toNat]? = _
  unfold zs
  rw [List.getElem?_map, List.getElem?_eq_getElem hl]
  rfl
theorem inR_of {i : Int} (h0 : 0 ≤ i) (h1 : i < 18446744073709551616) : inR i = true := by
  unfold inR
  simp
  omega
theorem draw {st : Store} {n : Nat} {L S sp b : Int} {ms : List Int} (h : st[n]? = some (mD L S (zs ms) sp)) (hL : 0 ≤ L) (hs0 : 0 ≤ sp) (hs1 : sp < 1000000000000) (hm : ms ≠ []) (hb : 1 ≤ b) (hb2 : b < 1073741824) :
    ∃ (v L' sp' : Int), f__law_draw [.ref n, .int b] st = .ok (.int v) (st.set n (mD L' S (zs ms) sp')) ∧ 0 ≤ v ∧ v < b ∧ 0 ≤ L' ∧ sp ≤ sp' ∧ sp' ≤ sp + 1 := by
  have hb0 : b ≠ 0 := by omega
  have hbn : b.natAbs < 1073741824 := by omega
  by_cases hl : 0 < L
  · refine ⟨L.fmod b, L.fdiv b, sp, ?_, (fmod_r (by omega)).1, (fmod_r (by omega)).2, Int.fdiv_nonneg hL (by omega), Int.le_refl _, by omega⟩
    have hb : b__law_draw [some (.ref n), some (.int b), none, none, none, none, none, none] st = .ok (.rt (.int (L.fmod b)), [some (.ref n), some (.int b), some (.int (L.fmod b)), none, none, none, none, none]) (st.set n (mD (L.fdiv b) S (zs ms) sp)) := by
      refine seq_rt ?_
      refine (if_t (tof_ok (op_ok (op_ok (f := eVar 0) rfl (g := eC _) rfl (get_left h)) (g := eC _) rfl (by rw [gt_i]; simp [hl] : _ = some (D.bl true))))).trans ?_
      refine (seq_nx (asg_ok (op_ok (int_ok (op_ok (f := eVar 0) rfl (g := eC _) rfl (get_left h))) (g := eVar 1) rfl (mod_i hb0)))).trans ?_
      refine (seq_nx (put_ok (n := n) (op_ok (op_ok (f := eVar 0) rfl (g := eC _) rfl (get_left h)) (g := eVar 1) rfl (fdiv_i hb0 hbn)) rfl rfl h put_left)).trans ?_
      exact ret_ok rfl
    unfold f__law_draw runF
    show (b__law_draw [some (.ref n), some (.int b), none, none, none, none, none, none] st).bind _ = _
    rw [hb]
    rfl
  · have hll : n < st.length := (List.getElem?_eq_some_iff.mp h).1
    have h2 : (st.set n (mD L S (zs ms) (sp + 1)))[n]? = some (mD L S (zs ms) (sp + 1)) := by rw [List.getElem?_set_self hll]
    have lz : ((zs ms).length : Int) = ms.length := by simp [zs]
    have hm0 : 0 < (ms.length : Int) := by
      have := List.length_pos_iff.mpr hm
      omega
    obtain ⟨c, hc⟩ := ix_at (st := st.set n (mD L S (zs ms) (sp + 1))) (ms := ms) (i := sp.fmod ms.length) (fmod_r hm0).1 (fmod_r hm0).2
    let b1 : Int := (c * (2 * sp + 3) + (S + 40503 * sp * sp)).fmod 2147483647
    have hb1 := fmod_r (i := c * (2 * sp + 3) + (S + 40503 * sp * sp)) (j := 2147483647) (by decide)
    let b2 : Int := (b1 * b1 + 69621 * sp + S).fmod 2147483629
    refine ⟨(((b2 * 48271 + sp).fmod 2147483647).fdiv 11).fmod b, L, sp + 1, ?_, (fmod_r (by omega)).1, (fmod_r (by omega)).2, hL, by omega, Int.le_refl _⟩
    have hb : b__law_draw [some (.ref n), some (.int b), none, none, none, none, none, none] st = .ok (.rt (.int ((((b2 * 48271 + sp).fmod 2147483647).fdiv 11).fmod b)), [some (.ref n), some (.int b), none, some (.int sp), some (.lst (zs ms)), some (.int (S + 40503 * sp * sp)), some (.int c), some (.int b2)]) (st.set n (mD L S (zs ms) (sp + 1))) := by
      refine (seq_nx ((if_f (tof_ok (op_ok (op_ok (f := eVar 0) rfl (g := eC _) rfl (get_left h)) (g := eC _) rfl (by rw [gt_i]; simp [hl] : _ = some (D.bl false))))).trans rfl)).trans ?_
      refine (seq_nx (asg_ok (op_ok (f := eVar 0) rfl (g := eC _) rfl (get_spot h)))).trans ?_
      refine (seq_nx (put_ok (n := n) (op_ok (f := eVar 3) rfl (g := eC _) rfl add_i) rfl rfl h put_spot)).trans ?_
      refine (seq_nx (par_ok (op_ok (f := eVar 0) rfl (g := eC _) rfl (get_cells h2)) (op_ok (op_ok (f := eVar 0) rfl (g := eC _) rfl (get_seed h2)) (op_ok (op_ok (f := eC _) rfl (g := eVar 3) rfl (mul_l (by decide))) (g := eVar 3) rfl (mul_r (inR_of hs0 (by omega)))) add_i))).trans ?_
      refine (seq_nx (asg_ok (op_ok (f := eVar 4) rfl (op_ok (int_ok (f := eVar 3) rfl) (callB_ok (one_ok (f := eVar 4) rfl) (rfl : opLen _ [D.lst (zs ms)] = _)) (by rw [lz]; exact mod_i (by omega))) hc))).trans ?_
      refine (seq_nx (asg_ok (op_ok (int_ok (op_ok (op_ok (f := eVar 6) rfl (op_ok (op_ok (f := eC _) rfl (g := eVar 3) rfl (mul_l (by decide))) (g := eC _) rfl add_i) (mul_r (inR_of (by omega) (by omega)))) (g := eVar 5) rfl add_i)) (g := eC _) rfl (mod_i (by decide))))).trans ?_
      refine (seq_nx (asg_ok (op_ok (int_ok (op_ok (op_ok (op_ok (f := eVar 7) rfl (g := eVar 7) rfl (mul_r (inR_of hb1.1 (by omega)))) (op_ok (f := eC _) rfl (g := eVar 3) rfl (mul_l (by decide))) add_i) (op_ok (f := eVar 0) rfl (g := eC _) rfl (get_seed h2)) add_i)) (g := eC _) rfl (mod_i (by decide))))).trans ?_
      exact ret_ok (op_ok (op_ok (op_ok (int_ok (op_ok (op_ok (f := eVar 7) rfl (g := eC _) rfl (mul_r (by decide))) (g := eVar 3) rfl add_i)) (g := eC _) rfl (mod_i (by decide))) (g := eC _) rfl (fdiv_i (by decide) (by decide))) (g := eVar 1) rfl (mod_i hb0))
    unfold f__law_draw runF
    show (b__law_draw [some (.ref n), some (.int b), none, none, none, none, none, none] st).bind _ = _
    rw [hb]
    rfl
end FK

set_option Elab.async false
set_option linter.all false
set_option maxRecDepth 100000
namespace FK
open DL
def okB : R D → Bool
  | .ok (.bl true) _ => true
  | _ => false
def bIn : EvT := (sFor 1000 (iRg2 (eVar 2) (eVar 0)) (tgN 3) (sSeq (sAsg (eIfE (tOf (eOp opGt (eVar 2) (eC (.int 0)))) (eCallP f__law_stretch (aCons (eOp opSub (eVar 2) (eC (.int 1))) (aCons (eOp opSub (eVar 3) (eC (.int 1))) aNil))) (eC .non)) (tgN 4)) (sSeq (sAsg (eIfE (tOf (eOp opLt (eOp opAdd (eVar 3) (eC (.int 1))) (eVar 0))) (eCallP f__law_stretch (aCons (eOp opAdd (eVar 2) (eC (.int 1))) (aCons (eOp opAdd (eVar 3) (eC (.int 1))) aNil))) (eC .non)) (tgN 5)) (sSeq (sAsg (eOp opAdd (eIfE (tOf (eOp opGt (eVar 2) (eC (.int 0)))) (eFrz (nLst (aCons (eCallP f__law_stretch (aCons (eOp opSub (eVar 2) (eC (.int 1))) (aCons (eVar 3) aNil))) aNil))) (eFrz (nLst aNil))) (eIfE (tOf (eOp opGt (eVar 3) (eVar 2))) (eFrz (nLst (aCons (eCallP f__law_stretch (aCons (eVar 2) (aCons (eOp opSub (eVar 3) (eC (.int 1))) aNil))) aNil))) (eFrz (nLst aNil)))) (tgN 6)) (sSeq (sAsg (eCallP f__law_stretch (aCons (eVar 2) (aCons (eVar 3) aNil))) (tgN 7)) (sSeq (sAsg (eFrz (nLst (aCons (eCallP f_forth (aCons (eVar 1) (aCons (eVar 7) aNil))) (aCons (eCallP f_back (aCons (eVar 1) (aCons (eVar 7) aNil))) (aCons (eCallP f_middle (aCons (eVar 1) (aCons (eVar 7) aNil))) (aCons (eCallP f_road (aCons (eVar 1) (aCons (eVar 7) (aCons (eC (.int 20)) aNil)))) (aCons (eCallP f_road_back (aCons (eVar 1) (aCons (eVar 7) (aCons (eC (.int 20)) aNil)))) aNil))))))) (tgN 8)) (sSeq (sIf (tNotD (tTru (eCallP f__law_like (aCons (eVar 8) (aCons (eFrz (nLst (aCons (eVar 4) (aCons (eVar 5) (aCons (eCallB opTuple (aCons (eFrz (nCallB opSortB (aCons (eVar 6) aNil))) aNil)) (aCons (eTup (aCons (eC (.str "end")) (aCons (eVar 2) aNil))) (aCons (eTup (aCons (eC (.str "end")) (aCons (eOp opSub (eOp opSub (eVar 0) (eC (.int 1))) (eVar 3)) aNil))) aNil))))))) aNil))))) (sRet (eC (.bl false))) sNx) (sIf (tOf (eOp opNotN (eVar 4) (eC .non))) (sIf (tNotD (tTru (eCallP f__law_like (aCons (eCallP f_almost_split (aCons (eVar 1) (aCons (eVar 7) aNil))) (aCons (eTup (aCons (eVar 7) (aCons (eCallB opTuple (aCons (eFrz (nCallB opSortB (aCons (eVar 6) aNil))) aNil)) (aCons (eVar 4) aNil)))) aNil))))) (sRet (eC (.bl false))) sNx) sNx))))))))
def bPl : EvT := (sAsg (eTup (aCons (eVar 0) (aCons (eCallB opTuple (aCons (eFrz (nLc (iRg1 (eOp opSub (eVar 0) (eC (.int 1)))) (tgN 9) tYesD (eTup (aCons (eVar 9) (aCons (eOp opAdd (eVar 9) (eC (.int 1))) aNil))) [9])) aNil)) (aCons (eTup aNil) aNil)))) (tgN 1))
theorem fv_cons {i : Nat} {body : EvT} {d : D} {ds : List D} {env env1 : Ent} {st st1 : Store} (h : body (env.set i (some d)) st = .ok (.nx, env1) st1) : forVals (tgN i) body (d :: ds) env st = forVals (tgN i) body ds env1 st1 := by
  show (body (env.set i (some d)) st).bind _ = _
  rw [h]
  rfl
theorem for_vals {it : EvS} {T : TgD} {body : EvT} {fuel : Nat} {ds : List D} {env : Ent} {st st1 : Store} (h : it env st = .ok (.vals ds) st1) : sFor fuel it T body env st = forVals T body ds env st1 := by
  unfold sFor
  rw [h]
  rfl
theorem okB_run {n N : Nat} {f : EvT} {ds : List D} {e : Ent} {st : Store} (h : f (ds.map some ++ List.replicate (N - n) none) [] = .ok (.rt (.bl true), e) st) : okB (runF n N f ds []) = true := by
  unfold runF
  rw [h]
  rfl
abbrev e_1_0 : Ent := [some (.int (1)), some (.tup [(.int (1)), (.tup []), (.tup [])]), none, none, none, none, none, none, none, none]
abbrev e_1_1 : Ent := [some (.int (1)), some (.tup [(.int (1)), (.tup []), (.tup [])]), some (.int (0)), some (.int (0)), some .non, some .non, some (.lst []), some (.tup [(.int (0)), (.tup [])]), some (.lst [.non, .non, (.tup []), (.tup [(.str "end"), (.int (0))]), (.tup [(.str "end"), (.int (0))])]), none]
theorem lp_1 : bPl [some (.int 1), none, none, none, none, none, none, none, none, none] [] = .ok (.nx, e_1_0) [] := by kernel_rfl
theorem ln_1_0 : bIn (e_1_0.set 2 (some (.int 0))) [] = .ok (.nx, e_1_1) [] := by kernel_rfl
theorem fl_1 : sFor 1000 (iRg1 (eVar 0)) (tgN 2) bIn e_1_0 [] = .ok (.nx, e_1_1) [] := by
  refine (for_vals (ds := [.int 0]) (env := e_1_0) (st1 := []) (by kernel_rfl)).trans ?_
  exact ((fv_cons ln_1_0).trans rfl)
theorem line_1 : okB (f__law_line_right [.int 1] []) = true := okB_run (n := 1) (N := 10) (f := b__law_line_right) (e := e_1_1) (st := []) (by
  show b__law_line_right [some (.int 1), none, none, none, none, none, none, none, none, none] [] = _
  exact (seq_nx (f := bPl) lp_1).trans ((seq_nx fl_1).trans (ret_ok rfl)))
theorem nf_1 : okB (f__law_noughts_right [.int 1, .bl false] []) = true := by decide +kernel
theorem nt_1 : okB (f__law_noughts_right [.int 1, .bl true] []) = true := by decide +kernel
abbrev e_2_0 : Ent := [some (.int (2)), some (.tup [(.int (2)), (.tup [(.tup [(.int (0)), (.int (1))])]), (.tup [])]), none, none, none, none, none, none, none, none]
abbrev e_2_1 : Ent := [some (.int (2)), some (.tup [(.int (2)), (.tup [(.tup [(.int (0)), (.int (1))])]), (.tup [])]), some (.int (0)), some (.int (1)), some .non, some .non, some (.lst [(.tup [(.int (0)), (.tup [])])]), some (.tup [(.int (0)), (.tup [(.int (0))])]), some (.lst [.non, .non, (.tup [(.tup [(.int (0)), (.tup [])])]), (.tup [(.str "end"), (.int (0))]), (.tup [(.str "end"), (.int (0))])]), none]
abbrev e_2_2 : Ent := [some (.int (2)), some (.tup [(.int (2)), (.tup [(.tup [(.int (0)), (.int (1))])]), (.tup [])]), some (.int (1)), some (.int (1)), some (.tup [(.int (0)), (.tup [])]), some .non, some (.lst [(.tup [(.int (0)), (.tup [(.int (0))])])]), some (.tup [(.int (1)), (.tup [])]), some (.lst [(.tup [(.int (0)), (.tup [])]), .non, (.tup [(.tup [(.int (0)), (.tup [(.int (0))])])]), (.tup [(.str "end"), (.int (1))]), (.tup [(.str "end"), (.int (0))])]), none]
theorem lp_2 : bPl [some (.int 2), none, none, none, none, none, none, none, none, none] [] = .ok (.nx, e_2_0) [] := by kernel_rfl
theorem ln_2_0 : bIn (e_2_0.set 2 (some (.int 0))) [] = .ok (.nx, e_2_1) [] := by kernel_rfl
theorem ln_2_1 : bIn (e_2_1.set 2 (some (.int 1))) [] = .ok (.nx, e_2_2) [] := by kernel_rfl
theorem fl_2 : sFor 1000 (iRg1 (eVar 0)) (tgN 2) bIn e_2_0 [] = .ok (.nx, e_2_2) [] := by
  refine (for_vals (ds := [.int 0, .int 1]) (env := e_2_0) (st1 := []) (by kernel_rfl)).trans ?_
  exact ((fv_cons ln_2_0).trans ((fv_cons ln_2_1).trans rfl))
theorem line_2 : okB (f__law_line_right [.int 2] []) = true := okB_run (n := 1) (N := 10) (f := b__law_line_right) (e := e_2_2) (st := []) (by
  show b__law_line_right [some (.int 2), none, none, none, none, none, none, none, none, none] [] = _
  exact (seq_nx (f := bPl) lp_2).trans ((seq_nx fl_2).trans (ret_ok rfl)))
theorem nf_2 : okB (f__law_noughts_right [.int 2, .bl false] []) = true := by decide +kernel
theorem nt_2 : okB (f__law_noughts_right [.int 2, .bl true] []) = true := by decide +kernel
abbrev e_3_0 : Ent := [some (.int (3)), some (.tup [(.int (3)), (.tup [(.tup [(.int (0)), (.int (1))]), (.tup [(.int (1)), (.int (2))])]), (.tup [])]), none, none, none, none, none, none, none, none]
abbrev e_3_1 : Ent := [some (.int (3)), some (.tup [(.int (3)), (.tup [(.tup [(.int (0)), (.int (1))]), (.tup [(.int (1)), (.int (2))])]), (.tup [])]), some (.int (0)), some (.int (2)), some .non, some .non, some (.lst [(.tup [(.int (0)), (.tup [(.int (0))])])]), some (.tup [(.int (0)), (.tup [(.int (0)), (.int (1))])]), some (.lst [.non, .non, (.tup [(.tup [(.int (0)), (.tup [(.int (0))])])]), (.tup [(.str "end"), (.int (0))]), (.tup [(.str "end"), (.int (0))])]), none]
abbrev e_3_2 : Ent := [some (.int (3)), some (.tup [(.int (3)), (.tup [(.tup [(.int (0)), (.int (1))]), (.tup [(.int (1)), (.int (2))])]), (.tup [])]), some (.int (1)), some (.int (2)), some (.tup [(.int (0)), (.tup [(.int (0))])]), some .non, some (.lst [(.tup [(.int (0)), (.tup [(.int (0)), (.int (1))])]), (.tup [(.int (1)), (.tup [])])]), some (.tup [(.int (1)), (.tup [(.int (1))])]), some (.lst [(.tup [(.int (0)), (.tup [(.int (0))])]), .non, (.tup [(.tup [(.int (0)), (.tup [(.int (0)), (.int (1))])]), (.tup [(.int (1)), (.tup [])])]), (.tup [(.str "end"), (.int (1))]), (.tup [(.str "end"), (.int (0))])]), none]
abbrev e_3_3 : Ent := [some (.int (3)), some (.tup [(.int (3)), (.tup [(.tup [(.int (0)), (.int (1))]), (.tup [(.int (1)), (.int (2))])]), (.tup [])]), some (.int (2)), some (.int (2)), some (.tup [(.int (1)), (.tup [])]), some .non, some (.lst [(.tup [(.int (1)), (.tup [(.int (1))])])]), some (.tup [(.int (2)), (.tup [])]), some (.lst [(.tup [(.int (1)), (.tup [])]), .non, (.tup [(.tup [(.int (1)), (.tup [(.int (1))])])]), (.tup [(.str "end"), (.int (2))]), (.tup [(.str "end"), (.int (0))])]), none]
theorem lp_3 : bPl [some (.int 3), none, none, none, none, none, none, none, none, none] [] = .ok (.nx, e_3_0) [] := by kernel_rfl
theorem ln_3_0 : bIn (e_3_0.set 2 (some (.int 0))) [] = .ok (.nx, e_3_1) [] := by kernel_rfl
theorem ln_3_1 : bIn (e_3_1.set 2 (some (.int 1))) [] = .ok (.nx, e_3_2) [] := by kernel_rfl
theorem ln_3_2 : bIn (e_3_2.set 2 (some (.int 2))) [] = .ok (.nx, e_3_3) [] := by kernel_rfl
theorem fl_3 : sFor 1000 (iRg1 (eVar 0)) (tgN 2) bIn e_3_0 [] = .ok (.nx, e_3_3) [] := by
  refine (for_vals (ds := [.int 0, .int 1, .int 2]) (env := e_3_0) (st1 := []) (by kernel_rfl)).trans ?_
  exact ((fv_cons ln_3_0).trans ((fv_cons ln_3_1).trans ((fv_cons ln_3_2).trans rfl)))
theorem line_3 : okB (f__law_line_right [.int 3] []) = true := okB_run (n := 1) (N := 10) (f := b__law_line_right) (e := e_3_3) (st := []) (by
  show b__law_line_right [some (.int 3), none, none, none, none, none, none, none, none, none] [] = _
  exact (seq_nx (f := bPl) lp_3).trans ((seq_nx fl_3).trans (ret_ok rfl)))
theorem nf_3 : okB (f__law_noughts_right [.int 3, .bl false] []) = true := by decide +kernel
theorem nt_3 : okB (f__law_noughts_right [.int 3, .bl true] []) = true := by decide +kernel
abbrev e_4_0 : Ent := [some (.int (4)), some (.tup [(.int (4)), (.tup [(.tup [(.int (0)), (.int (1))]), (.tup [(.int (1)), (.int (2))]), (.tup [(.int (2)), (.int (3))])]), (.tup [])]), none, none, none, none, none, none, none, none]
abbrev e_4_1 : Ent := [some (.int (4)), some (.tup [(.int (4)), (.tup [(.tup [(.int (0)), (.int (1))]), (.tup [(.int (1)), (.int (2))]), (.tup [(.int (2)), (.int (3))])]), (.tup [])]), some (.int (0)), some (.int (3)), some .non, some .non, some (.lst [(.tup [(.int (0)), (.tup [(.int (0)), (.int (1))])])]), some (.tup [(.int (0)), (.tup [(.int (0)), (.int (1)), (.int (2))])]), some (.lst [.non, .non, (.tup [(.tup [(.int (0)), (.tup [(.int (0)), (.int (1))])])]), (.tup [(.str "end"), (.int (0))]), (.tup [(.str "end"), (.int (0))])]), none]
abbrev e_4_2 : Ent := [some (.int (4)), some (.tup [(.int (4)), (.tup [(.tup [(.int (0)), (.int (1))]), (.tup [(.int (1)), (.int (2))]), (.tup [(.int (2)), (.int (3))])]), (.tup [])]), some (.int (1)), some (.int (3)), some (.tup [(.int (0)), (.tup [(.int (0)), (.int (1))])]), some .non, some (.lst [(.tup [(.int (0)), (.tup [(.int (0)), (.int (1)), (.int (2))])]), (.tup [(.int (1)), (.tup [(.int (1))])])]), some (.tup [(.int (1)), (.tup [(.int (1)), (.int (2))])]), some (.lst [(.tup [(.int (0)), (.tup [(.int (0)), (.int (1))])]), .non, (.tup [(.tup [(.int (0)), (.tup [(.int (0)), (.int (1)), (.int (2))])]), (.tup [(.int (1)), (.tup [(.int (1))])])]), (.tup [(.str "end"), (.int (1))]), (.tup [(.str "end"), (.int (0))])]), none]
abbrev e_4_3 : Ent := [some (.int (4)), some (.tup [(.int (4)), (.tup [(.tup [(.int (0)), (.int (1))]), (.tup [(.int (1)), (.int (2))]), (.tup [(.int (2)), (.int (3))])]), (.tup [])]), some (.int (2)), some (.int (3)), some (.tup [(.int (1)), (.tup [(.int (1))])]), some .non, some (.lst [(.tup [(.int (1)), (.tup [(.int (1)), (.int (2))])]), (.tup [(.int (2)), (.tup [])])]), some (.tup [(.int (2)), (.tup [(.int (2))])]), some (.lst [(.tup [(.int (1)), (.tup [(.int (1))])]), .non, (.tup [(.tup [(.int (1)), (.tup [(.int (1)), (.int (2))])]), (.tup [(.int (2)), (.tup [])])]), (.tup [(.str "end"), (.int (2))]), (.tup [(.str "end"), (.int (0))])]), none]
abbrev e_4_4 : Ent := [some (.int (4)), some (.tup [(.int (4)), (.tup [(.tup [(.int (0)), (.int (1))]), (.tup [(.int (1)), (.int (2))]), (.tup [(.int (2)), (.int (3))])]), (.tup [])]), some (.int (3)), some (.int (3)), some (.tup [(.int (2)), (.tup [])]), some .non, some (.lst [(.tup [(.int (2)), (.tup [(.int (2))])])]), some (.tup [(.int (3)), (.tup [])]), some (.lst [(.tup [(.int (2)), (.tup [])]), .non, (.tup [(.tup [(.int (2)), (.tup [(.int (2))])])]), (.tup [(.str "end"), (.int (3))]), (.tup [(.str "end"), (.int (0))])]), none]
theorem lp_4 : bPl [some (.int 4), none, none, none, none, none, none, none, none, none] [] = .ok (.nx, e_4_0) [] := by kernel_rfl
theorem ln_4_0 : bIn (e_4_0.set 2 (some (.int 0))) [] = .ok (.nx, e_4_1) [] := by kernel_rfl
theorem ln_4_1 : bIn (e_4_1.set 2 (some (.int 1))) [] = .ok (.nx, e_4_2) [] := by kernel_rfl
theorem ln_4_2 : bIn (e_4_2.set 2 (some (.int 2))) [] = .ok (.nx, e_4_3) [] := by kernel_rfl
theorem ln_4_3 : bIn (e_4_3.set 2 (some (.int 3))) [] = .ok (.nx, e_4_4) [] := by kernel_rfl
theorem fl_4 : sFor 1000 (iRg1 (eVar 0)) (tgN 2) bIn e_4_0 [] = .ok (.nx, e_4_4) [] := by
  refine (for_vals (ds := [.int 0, .int 1, .int 2, .int 3]) (env := e_4_0) (st1 := []) (by kernel_rfl)).trans ?_
  exact ((fv_cons ln_4_0).trans ((fv_cons ln_4_1).trans ((fv_cons ln_4_2).trans ((fv_cons ln_4_3).trans rfl))))
theorem line_4 : okB (f__law_line_right [.int 4] []) = true := okB_run (n := 1) (N := 10) (f := b__law_line_right) (e := e_4_4) (st := []) (by
  show b__law_line_right [some (.int 4), none, none, none, none, none, none, none, none, none] [] = _
  exact (seq_nx (f := bPl) lp_4).trans ((seq_nx fl_4).trans (ret_ok rfl)))
theorem nf_4 : okB (f__law_noughts_right [.int 4, .bl false] []) = true := by decide +kernel
theorem nt_4 : okB (f__law_noughts_right [.int 4, .bl true] []) = true := by decide +kernel
abbrev e_5_0 : Ent := [some (.int (5)), some (.tup [(.int (5)), (.tup [(.tup [(.int (0)), (.int (1))]), (.tup [(.int (1)), (.int (2))]), (.tup [(.int (2)), (.int (3))]), (.tup [(.int (3)), (.int (4))])]), (.tup [])]), none, none, none, none, none, none, none, none]
abbrev e_5_1 : Ent := [some (.int (5)), some (.tup [(.int (5)), (.tup [(.tup [(.int (0)), (.int (1))]), (.tup [(.int (1)), (.int (2))]), (.tup [(.int (2)), (.int (3))]), (.tup [(.int (3)), (.int (4))])]), (.tup [])]), some (.int (0)), some (.int (4)), some .non, some .non, some (.lst [(.tup [(.int (0)), (.tup [(.int (0)), (.int (1)), (.int (2))])])]), some (.tup [(.int (0)), (.tup [(.int (0)), (.int (1)), (.int (2)), (.int (3))])]), some (.lst [.non, .non, (.tup [(.tup [(.int (0)), (.tup [(.int (0)), (.int (1)), (.int (2))])])]), (.tup [(.str "end"), (.int (0))]), (.tup [(.str "end"), (.int (0))])]), none]
abbrev e_5_2 : Ent := [some (.int (5)), some (.tup [(.int (5)), (.tup [(.tup [(.int (0)), (.int (1))]), (.tup [(.int (1)), (.int (2))]), (.tup [(.int (2)), (.int (3))]), (.tup [(.int (3)), (.int (4))])]), (.tup [])]), some (.int (1)), some (.int (4)), some (.tup [(.int (0)), (.tup [(.int (0)), (.int (1)), (.int (2))])]), some .non, some (.lst [(.tup [(.int (0)), (.tup [(.int (0)), (.int (1)), (.int (2)), (.int (3))])]), (.tup [(.int (1)), (.tup [(.int (1)), (.int (2))])])]), some (.tup [(.int (1)), (.tup [(.int (1)), (.int (2)), (.int (3))])]), some (.lst [(.tup [(.int (0)), (.tup [(.int (0)), (.int (1)), (.int (2))])]), .non, (.tup [(.tup [(.int (0)), (.tup [(.int (0)), (.int (1)), (.int (2)), (.int (3))])]), (.tup [(.int (1)), (.tup [(.int (1)), (.int (2))])])]), (.tup [(.str "end"), (.int (1))]), (.tup [(.str "end"), (.int (0))])]), none]
abbrev e_5_3 : Ent := [some (.int (5)), some (.tup [(.int (5)), (.tup [(.tup [(.int (0)), (.int (1))]), (.tup [(.int (1)), (.int (2))]), (.tup [(.int (2)), (.int (3))]), (.tup [(.int (3)), (.int (4))])]), (.tup [])]), some (.int (2)), some (.int (4)), some (.tup [(.int (1)), (.tup [(.int (1)), (.int (2))])]), some .non, some (.lst [(.tup [(.int (1)), (.tup [(.int (1)), (.int (2)), (.int (3))])]), (.tup [(.int (2)), (.tup [(.int (2))])])]), some (.tup [(.int (2)), (.tup [(.int (2)), (.int (3))])]), some (.lst [(.tup [(.int (1)), (.tup [(.int (1)), (.int (2))])]), .non, (.tup [(.tup [(.int (1)), (.tup [(.int (1)), (.int (2)), (.int (3))])]), (.tup [(.int (2)), (.tup [(.int (2))])])]), (.tup [(.str "end"), (.int (2))]), (.tup [(.str "end"), (.int (0))])]), none]
abbrev e_5_4 : Ent := [some (.int (5)), some (.tup [(.int (5)), (.tup [(.tup [(.int (0)), (.int (1))]), (.tup [(.int (1)), (.int (2))]), (.tup [(.int (2)), (.int (3))]), (.tup [(.int (3)), (.int (4))])]), (.tup [])]), some (.int (3)), some (.int (4)), some (.tup [(.int (2)), (.tup [(.int (2))])]), some .non, some (.lst [(.tup [(.int (2)), (.tup [(.int (2)), (.int (3))])]), (.tup [(.int (3)), (.tup [])])]), some (.tup [(.int (3)), (.tup [(.int (3))])]), some (.lst [(.tup [(.int (2)), (.tup [(.int (2))])]), .non, (.tup [(.tup [(.int (2)), (.tup [(.int (2)), (.int (3))])]), (.tup [(.int (3)), (.tup [])])]), (.tup [(.str "end"), (.int (3))]), (.tup [(.str "end"), (.int (0))])]), none]
abbrev e_5_5 : Ent := [some (.int (5)), some (.tup [(.int (5)), (.tup [(.tup [(.int (0)), (.int (1))]), (.tup [(.int (1)), (.int (2))]), (.tup [(.int (2)), (.int (3))]), (.tup [(.int (3)), (.int (4))])]), (.tup [])]), some (.int (4)), some (.int (4)), some (.tup [(.int (3)), (.tup [])]), some .non, some (.lst [(.tup [(.int (3)), (.tup [(.int (3))])])]), some (.tup [(.int (4)), (.tup [])]), some (.lst [(.tup [(.int (3)), (.tup [])]), .non, (.tup [(.tup [(.int (3)), (.tup [(.int (3))])])]), (.tup [(.str "end"), (.int (4))]), (.tup [(.str "end"), (.int (0))])]), none]
theorem lp_5 : bPl [some (.int 5), none, none, none, none, none, none, none, none, none] [] = .ok (.nx, e_5_0) [] := by kernel_rfl
theorem ln_5_0 : bIn (e_5_0.set 2 (some (.int 0))) [] = .ok (.nx, e_5_1) [] := by kernel_rfl
theorem ln_5_1 : bIn (e_5_1.set 2 (some (.int 1))) [] = .ok (.nx, e_5_2) [] := by kernel_rfl
theorem ln_5_2 : bIn (e_5_2.set 2 (some (.int 2))) [] = .ok (.nx, e_5_3) [] := by kernel_rfl
theorem ln_5_3 : bIn (e_5_3.set 2 (some (.int 3))) [] = .ok (.nx, e_5_4) [] := by kernel_rfl
theorem ln_5_4 : bIn (e_5_4.set 2 (some (.int 4))) [] = .ok (.nx, e_5_5) [] := by kernel_rfl
theorem fl_5 : sFor 1000 (iRg1 (eVar 0)) (tgN 2) bIn e_5_0 [] = .ok (.nx, e_5_5) [] := by
  refine (for_vals (ds := [.int 0, .int 1, .int 2, .int 3, .int 4]) (env := e_5_0) (st1 := []) (by kernel_rfl)).trans ?_
  exact ((fv_cons ln_5_0).trans ((fv_cons ln_5_1).trans ((fv_cons ln_5_2).trans ((fv_cons ln_5_3).trans ((fv_cons ln_5_4).trans rfl)))))
theorem line_5 : okB (f__law_line_right [.int 5] []) = true := okB_run (n := 1) (N := 10) (f := b__law_line_right) (e := e_5_5) (st := []) (by
  show b__law_line_right [some (.int 5), none, none, none, none, none, none, none, none, none] [] = _
  exact (seq_nx (f := bPl) lp_5).trans ((seq_nx fl_5).trans (ret_ok rfl)))
theorem nf_5 : okB (f__law_noughts_right [.int 5, .bl false] []) = true := by decide +kernel
theorem nt_5 : okB (f__law_noughts_right [.int 5, .bl true] []) = true := by decide +kernel
abbrev e_6_0 : Ent := [some (.int (6)), some (.tup [(.int (6)), (.tup [(.tup [(.int (0)), (.int (1))]), (.tup [(.int (1)), (.int (2))]), (.tup [(.int (2)), (.int (3))]), (.tup [(.int (3)), (.int (4))]), (.tup [(.int (4)), (.int (5))])]), (.tup [])]), none, none, none, none, none, none, none, none]
abbrev e_6_1 : Ent := [some (.int (6)), some (.tup [(.int (6)), (.tup [(.tup [(.int (0)), (.int (1))]), (.tup [(.int (1)), (.int (2))]), (.tup [(.int (2)), (.int (3))]), (.tup [(.int (3)), (.int (4))]), (.tup [(.int (4)), (.int (5))])]), (.tup [])]), some (.int (0)), some (.int (5)), some .non, some .non, some (.lst [(.tup [(.int (0)), (.tup [(.int (0)), (.int (1)), (.int (2)), (.int (3))])])]), some (.tup [(.int (0)), (.tup [(.int (0)), (.int (1)), (.int (2)), (.int (3)), (.int (4))])]), some (.lst [.non, .non, (.tup [(.tup [(.int (0)), (.tup [(.int (0)), (.int (1)), (.int (2)), (.int (3))])])]), (.tup [(.str "end"), (.int (0))]), (.tup [(.str "end"), (.int (0))])]), none]
abbrev e_6_2 : Ent := [some (.int (6)), some (.tup [(.int (6)), (.tup [(.tup [(.int (0)), (.int (1))]), (.tup [(.int (1)), (.int (2))]), (.tup [(.int (2)), (.int (3))]), (.tup [(.int (3)), (.int (4))]), (.tup [(.int (4)), (.int (5))])]), (.tup [])]), some (.int (1)), some (.int (5)), some (.tup [(.int (0)), (.tup [(.int (0)), (.int (1)), (.int (2)), (.int (3))])]), some .non, some (.lst [(.tup [(.int (0)), (.tup [(.int (0)), (.int (1)), (.int (2)), (.int (3)), (.int (4))])]), (.tup [(.int (1)), (.tup [(.int (1)), (.int (2)), (.int (3))])])]), some (.tup [(.int (1)), (.tup [(.int (1)), (.int (2)), (.int (3)), (.int (4))])]), some (.lst [(.tup [(.int (0)), (.tup [(.int (0)), (.int (1)), (.int (2)), (.int (3))])]), .non, (.tup [(.tup [(.int (0)), (.tup [(.int (0)), (.int (1)), (.int (2)), (.int (3)), (.int (4))])]), (.tup [(.int (1)), (.tup [(.int (1)), (.int (2)), (.int (3))])])]), (.tup [(.str "end"), (.int (1))]), (.tup [(.str "end"), (.int (0))])]), none]
abbrev e_6_3 : Ent := [some (.int (6)), some (.tup [(.int (6)), (.tup [(.tup [(.int (0)), (.int (1))]), (.tup [(.int (1)), (.int (2))]), (.tup [(.int (2)), (.int (3))]), (.tup [(.int (3)), (.int (4))]), (.tup [(.int (4)), (.int (5))])]), (.tup [])]), some (.int (2)), some (.int (5)), some (.tup [(.int (1)), (.tup [(.int (1)), (.int (2)), (.int (3))])]), some .non, some (.lst [(.tup [(.int (1)), (.tup [(.int (1)), (.int (2)), (.int (3)), (.int (4))])]), (.tup [(.int (2)), (.tup [(.int (2)), (.int (3))])])]), some (.tup [(.int (2)), (.tup [(.int (2)), (.int (3)), (.int (4))])]), some (.lst [(.tup [(.int (1)), (.tup [(.int (1)), (.int (2)), (.int (3))])]), .non, (.tup [(.tup [(.int (1)), (.tup [(.int (1)), (.int (2)), (.int (3)), (.int (4))])]), (.tup [(.int (2)), (.tup [(.int (2)), (.int (3))])])]), (.tup [(.str "end"), (.int (2))]), (.tup [(.str "end"), (.int (0))])]), none]
abbrev e_6_4 : Ent := [some (.int (6)), some (.tup [(.int (6)), (.tup [(.tup [(.int (0)), (.int (1))]), (.tup [(.int (1)), (.int (2))]), (.tup [(.int (2)), (.int (3))]), (.tup [(.int (3)), (.int (4))]), (.tup [(.int (4)), (.int (5))])]), (.tup [])]), some (.int (3)), some (.int (5)), some (.tup [(.int (2)), (.tup [(.int (2)), (.int (3))])]), some .non, some (.lst [(.tup [(.int (2)), (.tup [(.int (2)), (.int (3)), (.int (4))])]), (.tup [(.int (3)), (.tup [(.int (3))])])]), some (.tup [(.int (3)), (.tup [(.int (3)), (.int (4))])]), some (.lst [(.tup [(.int (2)), (.tup [(.int (2)), (.int (3))])]), .non, (.tup [(.tup [(.int (2)), (.tup [(.int (2)), (.int (3)), (.int (4))])]), (.tup [(.int (3)), (.tup [(.int (3))])])]), (.tup [(.str "end"), (.int (3))]), (.tup [(.str "end"), (.int (0))])]), none]
abbrev e_6_5 : Ent := [some (.int (6)), some (.tup [(.int (6)), (.tup [(.tup [(.int (0)), (.int (1))]), (.tup [(.int (1)), (.int (2))]), (.tup [(.int (2)), (.int (3))]), (.tup [(.int (3)), (.int (4))]), (.tup [(.int (4)), (.int (5))])]), (.tup [])]), some (.int (4)), some (.int (5)), some (.tup [(.int (3)), (.tup [(.int (3))])]), some .non, some (.lst [(.tup [(.int (3)), (.tup [(.int (3)), (.int (4))])]), (.tup [(.int (4)), (.tup [])])]), some (.tup [(.int (4)), (.tup [(.int (4))])]), some (.lst [(.tup [(.int (3)), (.tup [(.int (3))])]), .non, (.tup [(.tup [(.int (3)), (.tup [(.int (3)), (.int (4))])]), (.tup [(.int (4)), (.tup [])])]), (.tup [(.str "end"), (.int (4))]), (.tup [(.str "end"), (.int (0))])]), none]
abbrev e_6_6 : Ent := [some (.int (6)), some (.tup [(.int (6)), (.tup [(.tup [(.int (0)), (.int (1))]), (.tup [(.int (1)), (.int (2))]), (.tup [(.int (2)), (.int (3))]), (.tup [(.int (3)), (.int (4))]), (.tup [(.int (4)), (.int (5))])]), (.tup [])]), some (.int (5)), some (.int (5)), some (.tup [(.int (4)), (.tup [])]), some .non, some (.lst [(.tup [(.int (4)), (.tup [(.int (4))])])]), some (.tup [(.int (5)), (.tup [])]), some (.lst [(.tup [(.int (4)), (.tup [])]), .non, (.tup [(.tup [(.int (4)), (.tup [(.int (4))])])]), (.tup [(.str "end"), (.int (5))]), (.tup [(.str "end"), (.int (0))])]), none]
theorem lp_6 : bPl [some (.int 6), none, none, none, none, none, none, none, none, none] [] = .ok (.nx, e_6_0) [] := by kernel_rfl
theorem ln_6_0 : bIn (e_6_0.set 2 (some (.int 0))) [] = .ok (.nx, e_6_1) [] := by kernel_rfl
theorem ln_6_1 : bIn (e_6_1.set 2 (some (.int 1))) [] = .ok (.nx, e_6_2) [] := by kernel_rfl
theorem ln_6_2 : bIn (e_6_2.set 2 (some (.int 2))) [] = .ok (.nx, e_6_3) [] := by kernel_rfl
theorem ln_6_3 : bIn (e_6_3.set 2 (some (.int 3))) [] = .ok (.nx, e_6_4) [] := by kernel_rfl
theorem ln_6_4 : bIn (e_6_4.set 2 (some (.int 4))) [] = .ok (.nx, e_6_5) [] := by kernel_rfl
theorem ln_6_5 : bIn (e_6_5.set 2 (some (.int 5))) [] = .ok (.nx, e_6_6) [] := by kernel_rfl
theorem fl_6 : sFor 1000 (iRg1 (eVar 0)) (tgN 2) bIn e_6_0 [] = .ok (.nx, e_6_6) [] := by
  refine (for_vals (ds := [.int 0, .int 1, .int 2, .int 3, .int 4, .int 5]) (env := e_6_0) (st1 := []) (by kernel_rfl)).trans ?_
  exact ((fv_cons ln_6_0).trans ((fv_cons ln_6_1).trans ((fv_cons ln_6_2).trans ((fv_cons ln_6_3).trans ((fv_cons ln_6_4).trans ((fv_cons ln_6_5).trans rfl))))))
theorem line_6 : okB (f__law_line_right [.int 6] []) = true := okB_run (n := 1) (N := 10) (f := b__law_line_right) (e := e_6_6) (st := []) (by
  show b__law_line_right [some (.int 6), none, none, none, none, none, none, none, none, none] [] = _
  exact (seq_nx (f := bPl) lp_6).trans ((seq_nx fl_6).trans (ret_ok rfl)))
theorem nf_6 : okB (f__law_noughts_right [.int 6, .bl false] []) = true := by decide +kernel
theorem nt_6 : okB (f__law_noughts_right [.int 6, .bl true] []) = true := by decide +kernel
abbrev e_7_0 : Ent := [some (.int (7)), some (.tup [(.int (7)), (.tup [(.tup [(.int (0)), (.int (1))]), (.tup [(.int (1)), (.int (2))]), (.tup [(.int (2)), (.int (3))]), (.tup [(.int (3)), (.int (4))]), (.tup [(.int (4)), (.int (5))]), (.tup [(.int (5)), (.int (6))])]), (.tup [])]), none, none, none, none, none, none, none, none]
abbrev e_7_1 : Ent := [some (.int (7)), some (.tup [(.int (7)), (.tup [(.tup [(.int (0)), (.int (1))]), (.tup [(.int (1)), (.int (2))]), (.tup [(.int (2)), (.int (3))]), (.tup [(.int (3)), (.int (4))]), (.tup [(.int (4)), (.int (5))]), (.tup [(.int (5)), (.int (6))])]), (.tup [])]), some (.int (0)), some (.int (6)), some .non, some .non, some (.lst [(.tup [(.int (0)), (.tup [(.int (0)), (.int (1)), (.int (2)), (.int (3)), (.int (4))])])]), some (.tup [(.int (0)), (.tup [(.int (0)), (.int (1)), (.int (2)), (.int (3)), (.int (4)), (.int (5))])]), some (.lst [.non, .non, (.tup [(.tup [(.int (0)), (.tup [(.int (0)), (.int (1)), (.int (2)), (.int (3)), (.int (4))])])]), (.tup [(.str "end"), (.int (0))]), (.tup [(.str "end"), (.int (0))])]), none]
abbrev e_7_2 : Ent := [some (.int (7)), some (.tup [(.int (7)), (.tup [(.tup [(.int (0)), (.int (1))]), (.tup [(.int (1)), (.int (2))]), (.tup [(.int (2)), (.int (3))]), (.tup [(.int (3)), (.int (4))]), (.tup [(.int (4)), (.int (5))]), (.tup [(.int (5)), (.int (6))])]), (.tup [])]), some (.int (1)), some (.int (6)), some (.tup [(.int (0)), (.tup [(.int (0)), (.int (1)), (.int (2)), (.int (3)), (.int (4))])]), some .non, some (.lst [(.tup [(.int (0)), (.tup [(.int (0)), (.int (1)), (.int (2)), (.int (3)), (.int (4)), (.int (5))])]), (.tup [(.int (1)), (.tup [(.int (1)), (.int (2)), (.int (3)), (.int (4))])])]), some (.tup [(.int (1)), (.tup [(.int (1)), (.int (2)), (.int (3)), (.int (4)), (.int (5))])]), some (.lst [(.tup [(.int (0)), (.tup [(.int (0)), (.int (1)), (.int (2)), (.int (3)), (.int (4))])]), .non, (.tup [(.tup [(.int (0)), (.tup [(.int (0)), (.int (1)), (.int (2)), (.int (3)), (.int (4)), (.int (5))])]), (.tup [(.int (1)), (.tup [(.int (1)), (.int (2)), (.int (3)), (.int (4))])])]), (.tup [(.str "end"), (.int (1))]), (.tup [(.str "end"), (.int (0))])]), none]
abbrev e_7_3 : Ent := [some (.int (7)), some (.tup [(.int (7)), (.tup [(.tup [(.int (0)), (.int (1))]), (.tup [(.int (1)), (.int (2))]), (.tup [(.int (2)), (.int (3))]), (.tup [(.int (3)), (.int (4))]), (.tup [(.int (4)), (.int (5))]), (.tup [(.int (5)), (.int (6))])]), (.tup [])]), some (.int (2)), some (.int (6)), some (.tup [(.int (1)), (.tup [(.int (1)), (.int (2)), (.int (3)), (.int (4))])]), some .non, some (.lst [(.tup [(.int (1)), (.tup [(.int (1)), (.int (2)), (.int (3)), (.int (4)), (.int (5))])]), (.tup [(.int (2)), (.tup [(.int (2)), (.int (3)), (.int (4))])])]), some (.tup [(.int (2)), (.tup [(.int (2)), (.int (3)), (.int (4)), (.int (5))])]), some (.lst [(.tup [(.int (1)), (.tup [(.int (1)), (.int (2)), (.int (3)), (.int (4))])]), .non, (.tup [(.tup [(.int (1)), (.tup [(.int (1)), (.int (2)), (.int (3)), (.int (4)), (.int (5))])]), (.tup [(.int (2)), (.tup [(.int (2)), (.int (3)), (.int (4))])])]), (.tup [(.str "end"), (.int (2))]), (.tup [(.str "end"), (.int (0))])]), none]
abbrev e_7_4 : Ent := [some (.int (7)), some (.tup [(.int (7)), (.tup [(.tup [(.int (0)), (.int (1))]), (.tup [(.int (1)), (.int (2))]), (.tup [(.int (2)), (.int (3))]), (.tup [(.int (3)), (.int (4))]), (.tup [(.int (4)), (.int (5))]), (.tup [(.int (5)), (.int (6))])]), (.tup [])]), some (.int (3)), some (.int (6)), some (.tup [(.int (2)), (.tup [(.int (2)), (.int (3)), (.int (4))])]), some .non, some (.lst [(.tup [(.int (2)), (.tup [(.int (2)), (.int (3)), (.int (4)), (.int (5))])]), (.tup [(.int (3)), (.tup [(.int (3)), (.int (4))])])]), some (.tup [(.int (3)), (.tup [(.int (3)), (.int (4)), (.int (5))])]), some (.lst [(.tup [(.int (2)), (.tup [(.int (2)), (.int (3)), (.int (4))])]), .non, (.tup [(.tup [(.int (2)), (.tup [(.int (2)), (.int (3)), (.int (4)), (.int (5))])]), (.tup [(.int (3)), (.tup [(.int (3)), (.int (4))])])]), (.tup [(.str "end"), (.int (3))]), (.tup [(.str "end"), (.int (0))])]), none]
abbrev e_7_5 : Ent := [some (.int (7)), some (.tup [(.int (7)), (.tup [(.tup [(.int (0)), (.int (1))]), (.tup [(.int (1)), (.int (2))]), (.tup [(.int (2)), (.int (3))]), (.tup [(.int (3)), (.int (4))]), (.tup [(.int (4)), (.int (5))]), (.tup [(.int (5)), (.int (6))])]), (.tup [])]), some (.int (4)), some (.int (6)), some (.tup [(.int (3)), (.tup [(.int (3)), (.int (4))])]), some .non, some (.lst [(.tup [(.int (3)), (.tup [(.int (3)), (.int (4)), (.int (5))])]), (.tup [(.int (4)), (.tup [(.int (4))])])]), some (.tup [(.int (4)), (.tup [(.int (4)), (.int (5))])]), some (.lst [(.tup [(.int (3)), (.tup [(.int (3)), (.int (4))])]), .non, (.tup [(.tup [(.int (3)), (.tup [(.int (3)), (.int (4)), (.int (5))])]), (.tup [(.int (4)), (.tup [(.int (4))])])]), (.tup [(.str "end"), (.int (4))]), (.tup [(.str "end"), (.int (0))])]), none]
abbrev e_7_6 : Ent := [some (.int (7)), some (.tup [(.int (7)), (.tup [(.tup [(.int (0)), (.int (1))]), (.tup [(.int (1)), (.int (2))]), (.tup [(.int (2)), (.int (3))]), (.tup [(.int (3)), (.int (4))]), (.tup [(.int (4)), (.int (5))]), (.tup [(.int (5)), (.int (6))])]), (.tup [])]), some (.int (5)), some (.int (6)), some (.tup [(.int (4)), (.tup [(.int (4))])]), some .non, some (.lst [(.tup [(.int (4)), (.tup [(.int (4)), (.int (5))])]), (.tup [(.int (5)), (.tup [])])]), some (.tup [(.int (5)), (.tup [(.int (5))])]), some (.lst [(.tup [(.int (4)), (.tup [(.int (4))])]), .non, (.tup [(.tup [(.int (4)), (.tup [(.int (4)), (.int (5))])]), (.tup [(.int (5)), (.tup [])])]), (.tup [(.str "end"), (.int (5))]), (.tup [(.str "end"), (.int (0))])]), none]
abbrev e_7_7 : Ent := [some (.int (7)), some (.tup [(.int (7)), (.tup [(.tup [(.int (0)), (.int (1))]), (.tup [(.int (1)), (.int (2))]), (.tup [(.int (2)), (.int (3))]), (.tup [(.int (3)), (.int (4))]), (.tup [(.int (4)), (.int (5))]), (.tup [(.int (5)), (.int (6))])]), (.tup [])]), some (.int (6)), some (.int (6)), some (.tup [(.int (5)), (.tup [])]), some .non, some (.lst [(.tup [(.int (5)), (.tup [(.int (5))])])]), some (.tup [(.int (6)), (.tup [])]), some (.lst [(.tup [(.int (5)), (.tup [])]), .non, (.tup [(.tup [(.int (5)), (.tup [(.int (5))])])]), (.tup [(.str "end"), (.int (6))]), (.tup [(.str "end"), (.int (0))])]), none]
theorem lp_7 : bPl [some (.int 7), none, none, none, none, none, none, none, none, none] [] = .ok (.nx, e_7_0) [] := by kernel_rfl
theorem ln_7_0 : bIn (e_7_0.set 2 (some (.int 0))) [] = .ok (.nx, e_7_1) [] := by kernel_rfl
theorem ln_7_1 : bIn (e_7_1.set 2 (some (.int 1))) [] = .ok (.nx, e_7_2) [] := by kernel_rfl
theorem ln_7_2 : bIn (e_7_2.set 2 (some (.int 2))) [] = .ok (.nx, e_7_3) [] := by kernel_rfl
theorem ln_7_3 : bIn (e_7_3.set 2 (some (.int 3))) [] = .ok (.nx, e_7_4) [] := by kernel_rfl
theorem ln_7_4 : bIn (e_7_4.set 2 (some (.int 4))) [] = .ok (.nx, e_7_5) [] := by kernel_rfl
theorem ln_7_5 : bIn (e_7_5.set 2 (some (.int 5))) [] = .ok (.nx, e_7_6) [] := by kernel_rfl
theorem ln_7_6 : bIn (e_7_6.set 2 (some (.int 6))) [] = .ok (.nx, e_7_7) [] := by kernel_rfl
theorem fl_7 : sFor 1000 (iRg1 (eVar 0)) (tgN 2) bIn e_7_0 [] = .ok (.nx, e_7_7) [] := by
  refine (for_vals (ds := [.int 0, .int 1, .int 2, .int 3, .int 4, .int 5, .int 6]) (env := e_7_0) (st1 := []) (by kernel_rfl)).trans ?_
  exact ((fv_cons ln_7_0).trans ((fv_cons ln_7_1).trans ((fv_cons ln_7_2).trans ((fv_cons ln_7_3).trans ((fv_cons ln_7_4).trans ((fv_cons ln_7_5).trans ((fv_cons ln_7_6).trans rfl)))))))
theorem line_7 : okB (f__law_line_right [.int 7] []) = true := okB_run (n := 1) (N := 10) (f := b__law_line_right) (e := e_7_7) (st := []) (by
  show b__law_line_right [some (.int 7), none, none, none, none, none, none, none, none, none] [] = _
  exact (seq_nx (f := bPl) lp_7).trans ((seq_nx fl_7).trans (ret_ok rfl)))
theorem nf_7 : okB (f__law_noughts_right [.int 7, .bl false] []) = true := by decide +kernel
theorem nt_7 : okB (f__law_noughts_right [.int 7, .bl true] []) = true := by decide +kernel
abbrev e_8_0 : Ent := [some (.int (8)), some (.tup [(.int (8)), (.tup [(.tup [(.int (0)), (.int (1))]), (.tup [(.int (1)), (.int (2))]), (.tup [(.int (2)), (.int (3))]), (.tup [(.int (3)), (.int (4))]), (.tup [(.int (4)), (.int (5))]), (.tup [(.int (5)), (.int (6))]), (.tup [(.int (6)), (.int (7))])]), (.tup [])]), none, none, none, none, none, none, none, none]
abbrev e_8_1 : Ent := [some (.int (8)), some (.tup [(.int (8)), (.tup [(.tup [(.int (0)), (.int (1))]), (.tup [(.int (1)), (.int (2))]), (.tup [(.int (2)), (.int (3))]), (.tup [(.int (3)), (.int (4))]), (.tup [(.int (4)), (.int (5))]), (.tup [(.int (5)), (.int (6))]), (.tup [(.int (6)), (.int (7))])]), (.tup [])]), some (.int (0)), some (.int (7)), some .non, some .non, some (.lst [(.tup [(.int (0)), (.tup [(.int (0)), (.int (1)), (.int (2)), (.int (3)), (.int (4)), (.int (5))])])]), some (.tup [(.int (0)), (.tup [(.int (0)), (.int (1)), (.int (2)), (.int (3)), (.int (4)), (.int (5)), (.int (6))])]), some (.lst [.non, .non, (.tup [(.tup [(.int (0)), (.tup [(.int (0)), (.int (1)), (.int (2)), (.int (3)), (.int (4)), (.int (5))])])]), (.tup [(.str "end"), (.int (0))]), (.tup [(.str "end"), (.int (0))])]), none]
abbrev e_8_2 : Ent := [some (.int (8)), some (.tup [(.int (8)), (.tup [(.tup [(.int (0)), (.int (1))]), (.tup [(.int (1)), (.int (2))]), (.tup [(.int (2)), (.int (3))]), (.tup [(.int (3)), (.int (4))]), (.tup [(.int (4)), (.int (5))]), (.tup [(.int (5)), (.int (6))]), (.tup [(.int (6)), (.int (7))])]), (.tup [])]), some (.int (1)), some (.int (7)), some (.tup [(.int (0)), (.tup [(.int (0)), (.int (1)), (.int (2)), (.int (3)), (.int (4)), (.int (5))])]), some .non, some (.lst [(.tup [(.int (0)), (.tup [(.int (0)), (.int (1)), (.int (2)), (.int (3)), (.int (4)), (.int (5)), (.int (6))])]), (.tup [(.int (1)), (.tup [(.int (1)), (.int (2)), (.int (3)), (.int (4)), (.int (5))])])]), some (.tup [(.int (1)), (.tup [(.int (1)), (.int (2)), (.int (3)), (.int (4)), (.int (5)), (.int (6))])]), some (.lst [(.tup [(.int (0)), (.tup [(.int (0)), (.int (1)), (.int (2)), (.int (3)), (.int (4)), (.int (5))])]), .non, (.tup [(.tup [(.int (0)), (.tup [(.int (0)), (.int (1)), (.int (2)), (.int (3)), (.int (4)), (.int (5)), (.int (6))])]), (.tup [(.int (1)), (.tup [(.int (1)), (.int (2)), (.int (3)), (.int (4)), (.int (5))])])]), (.tup [(.str "end"), (.int (1))]), (.tup [(.str "end"), (.int (0))])]), none]
abbrev e_8_3 : Ent := [some (.int (8)), some (.tup [(.int (8)), (.tup [(.tup [(.int (0)), (.int (1))]), (.tup [(.int (1)), (.int (2))]), (.tup [(.int (2)), (.int (3))]), (.tup [(.int (3)), (.int (4))]), (.tup [(.int (4)), (.int (5))]), (.tup [(.int (5)), (.int (6))]), (.tup [(.int (6)), (.int (7))])]), (.tup [])]), some (.int (2)), some (.int (7)), some (.tup [(.int (1)), (.tup [(.int (1)), (.int (2)), (.int (3)), (.int (4)), (.int (5))])]), some .non, some (.lst [(.tup [(.int (1)), (.tup [(.int (1)), (.int (2)), (.int (3)), (.int (4)), (.int (5)), (.int (6))])]), (.tup [(.int (2)), (.tup [(.int (2)), (.int (3)), (.int (4)), (.int (5))])])]), some (.tup [(.int (2)), (.tup [(.int (2)), (.int (3)), (.int (4)), (.int (5)), (.int (6))])]), some (.lst [(.tup [(.int (1)), (.tup [(.int (1)), (.int (2)), (.int (3)), (.int (4)), (.int (5))])]), .non, (.tup [(.tup [(.int (1)), (.tup [(.int (1)), (.int (2)), (.int (3)), (.int (4)), (.int (5)), (.int (6))])]), (.tup [(.int (2)), (.tup [(.int (2)), (.int (3)), (.int (4)), (.int (5))])])]), (.tup [(.str "end"), (.int (2))]), (.tup [(.str "end"), (.int (0))])]), none]
abbrev e_8_4 : Ent := [some (.int (8)), some (.tup [(.int (8)), (.tup [(.tup [(.int (0)), (.int (1))]), (.tup [(.int (1)), (.int (2))]), (.tup [(.int (2)), (.int (3))]), (.tup [(.int (3)), (.int (4))]), (.tup [(.int (4)), (.int (5))]), (.tup [(.int (5)), (.int (6))]), (.tup [(.int (6)), (.int (7))])]), (.tup [])]), some (.int (3)), some (.int (7)), some (.tup [(.int (2)), (.tup [(.int (2)), (.int (3)), (.int (4)), (.int (5))])]), some .non, some (.lst [(.tup [(.int (2)), (.tup [(.int (2)), (.int (3)), (.int (4)), (.int (5)), (.int (6))])]), (.tup [(.int (3)), (.tup [(.int (3)), (.int (4)), (.int (5))])])]), some (.tup [(.int (3)), (.tup [(.int (3)), (.int (4)), (.int (5)), (.int (6))])]), some (.lst [(.tup [(.int (2)), (.tup [(.int (2)), (.int (3)), (.int (4)), (.int (5))])]), .non, (.tup [(.tup [(.int (2)), (.tup [(.int (2)), (.int (3)), (.int (4)), (.int (5)), (.int (6))])]), (.tup [(.int (3)), (.tup [(.int (3)), (.int (4)), (.int (5))])])]), (.tup [(.str "end"), (.int (3))]), (.tup [(.str "end"), (.int (0))])]), none]
abbrev e_8_5 : Ent := [some (.int (8)), some (.tup [(.int (8)), (.tup [(.tup [(.int (0)), (.int (1))]), (.tup [(.int (1)), (.int (2))]), (.tup [(.int (2)), (.int (3))]), (.tup [(.int (3)), (.int (4))]), (.tup [(.int (4)), (.int (5))]), (.tup [(.int (5)), (.int (6))]), (.tup [(.int (6)), (.int (7))])]), (.tup [])]), some (.int (4)), some (.int (7)), some (.tup [(.int (3)), (.tup [(.int (3)), (.int (4)), (.int (5))])]), some .non, some (.lst [(.tup [(.int (3)), (.tup [(.int (3)), (.int (4)), (.int (5)), (.int (6))])]), (.tup [(.int (4)), (.tup [(.int (4)), (.int (5))])])]), some (.tup [(.int (4)), (.tup [(.int (4)), (.int (5)), (.int (6))])]), some (.lst [(.tup [(.int (3)), (.tup [(.int (3)), (.int (4)), (.int (5))])]), .non, (.tup [(.tup [(.int (3)), (.tup [(.int (3)), (.int (4)), (.int (5)), (.int (6))])]), (.tup [(.int (4)), (.tup [(.int (4)), (.int (5))])])]), (.tup [(.str "end"), (.int (4))]), (.tup [(.str "end"), (.int (0))])]), none]
abbrev e_8_6 : Ent := [some (.int (8)), some (.tup [(.int (8)), (.tup [(.tup [(.int (0)), (.int (1))]), (.tup [(.int (1)), (.int (2))]), (.tup [(.int (2)), (.int (3))]), (.tup [(.int (3)), (.int (4))]), (.tup [(.int (4)), (.int (5))]), (.tup [(.int (5)), (.int (6))]), (.tup [(.int (6)), (.int (7))])]), (.tup [])]), some (.int (5)), some (.int (7)), some (.tup [(.int (4)), (.tup [(.int (4)), (.int (5))])]), some .non, some (.lst [(.tup [(.int (4)), (.tup [(.int (4)), (.int (5)), (.int (6))])]), (.tup [(.int (5)), (.tup [(.int (5))])])]), some (.tup [(.int (5)), (.tup [(.int (5)), (.int (6))])]), some (.lst [(.tup [(.int (4)), (.tup [(.int (4)), (.int (5))])]), .non, (.tup [(.tup [(.int (4)), (.tup [(.int (4)), (.int (5)), (.int (6))])]), (.tup [(.int (5)), (.tup [(.int (5))])])]), (.tup [(.str "end"), (.int (5))]), (.tup [(.str "end"), (.int (0))])]), none]
abbrev e_8_7 : Ent := [some (.int (8)), some (.tup [(.int (8)), (.tup [(.tup [(.int (0)), (.int (1))]), (.tup [(.int (1)), (.int (2))]), (.tup [(.int (2)), (.int (3))]), (.tup [(.int (3)), (.int (4))]), (.tup [(.int (4)), (.int (5))]), (.tup [(.int (5)), (.int (6))]), (.tup [(.int (6)), (.int (7))])]), (.tup [])]), some (.int (6)), some (.int (7)), some (.tup [(.int (5)), (.tup [(.int (5))])]), some .non, some (.lst [(.tup [(.int (5)), (.tup [(.int (5)), (.int (6))])]), (.tup [(.int (6)), (.tup [])])]), some (.tup [(.int (6)), (.tup [(.int (6))])]), some (.lst [(.tup [(.int (5)), (.tup [(.int (5))])]), .non, (.tup [(.tup [(.int (5)), (.tup [(.int (5)), (.int (6))])]), (.tup [(.int (6)), (.tup [])])]), (.tup [(.str "end"), (.int (6))]), (.tup [(.str "end"), (.int (0))])]), none]
abbrev e_8_8 : Ent := [some (.int (8)), some (.tup [(.int (8)), (.tup [(.tup [(.int (0)), (.int (1))]), (.tup [(.int (1)), (.int (2))]), (.tup [(.int (2)), (.int (3))]), (.tup [(.int (3)), (.int (4))]), (.tup [(.int (4)), (.int (5))]), (.tup [(.int (5)), (.int (6))]), (.tup [(.int (6)), (.int (7))])]), (.tup [])]), some (.int (7)), some (.int (7)), some (.tup [(.int (6)), (.tup [])]), some .non, some (.lst [(.tup [(.int (6)), (.tup [(.int (6))])])]), some (.tup [(.int (7)), (.tup [])]), some (.lst [(.tup [(.int (6)), (.tup [])]), .non, (.tup [(.tup [(.int (6)), (.tup [(.int (6))])])]), (.tup [(.str "end"), (.int (7))]), (.tup [(.str "end"), (.int (0))])]), none]
theorem lp_8 : bPl [some (.int 8), none, none, none, none, none, none, none, none, none] [] = .ok (.nx, e_8_0) [] := by kernel_rfl
theorem ln_8_0 : bIn (e_8_0.set 2 (some (.int 0))) [] = .ok (.nx, e_8_1) [] := by kernel_rfl
theorem ln_8_1 : bIn (e_8_1.set 2 (some (.int 1))) [] = .ok (.nx, e_8_2) [] := by kernel_rfl
theorem ln_8_2 : bIn (e_8_2.set 2 (some (.int 2))) [] = .ok (.nx, e_8_3) [] := by kernel_rfl
theorem ln_8_3 : bIn (e_8_3.set 2 (some (.int 3))) [] = .ok (.nx, e_8_4) [] := by kernel_rfl
theorem ln_8_4 : bIn (e_8_4.set 2 (some (.int 4))) [] = .ok (.nx, e_8_5) [] := by kernel_rfl
theorem ln_8_5 : bIn (e_8_5.set 2 (some (.int 5))) [] = .ok (.nx, e_8_6) [] := by kernel_rfl
theorem ln_8_6 : bIn (e_8_6.set 2 (some (.int 6))) [] = .ok (.nx, e_8_7) [] := by kernel_rfl
theorem ln_8_7 : bIn (e_8_7.set 2 (some (.int 7))) [] = .ok (.nx, e_8_8) [] := by kernel_rfl
theorem fl_8 : sFor 1000 (iRg1 (eVar 0)) (tgN 2) bIn e_8_0 [] = .ok (.nx, e_8_8) [] := by
  refine (for_vals (ds := [.int 0, .int 1, .int 2, .int 3, .int 4, .int 5, .int 6, .int 7]) (env := e_8_0) (st1 := []) (by kernel_rfl)).trans ?_
  exact ((fv_cons ln_8_0).trans ((fv_cons ln_8_1).trans ((fv_cons ln_8_2).trans ((fv_cons ln_8_3).trans ((fv_cons ln_8_4).trans ((fv_cons ln_8_5).trans ((fv_cons ln_8_6).trans ((fv_cons ln_8_7).trans rfl))))))))
theorem line_8 : okB (f__law_line_right [.int 8] []) = true := okB_run (n := 1) (N := 10) (f := b__law_line_right) (e := e_8_8) (st := []) (by
  show b__law_line_right [some (.int 8), none, none, none, none, none, none, none, none, none] [] = _
  exact (seq_nx (f := bPl) lp_8).trans ((seq_nx fl_8).trans (ret_ok rfl)))
theorem nf_8 : okB (f__law_noughts_right [.int 8, .bl false] []) = true := by decide +kernel
theorem nt_8 : okB (f__law_noughts_right [.int 8, .bl true] []) = true := by decide +kernel
abbrev e_9_0 : Ent := [some (.int (9)), some (.tup [(.int (9)), (.tup [(.tup [(.int (0)), (.int (1))]), (.tup [(.int (1)), (.int (2))]), (.tup [(.int (2)), (.int (3))]), (.tup [(.int (3)), (.int (4))]), (.tup [(.int (4)), (.int (5))]), (.tup [(.int (5)), (.int (6))]), (.tup [(.int (6)), (.int (7))]), (.tup [(.int (7)), (.int (8))])]), (.tup [])]), none, none, none, none, none, none, none, none]
abbrev e_9_1 : Ent := [some (.int (9)), some (.tup [(.int (9)), (.tup [(.tup [(.int (0)), (.int (1))]), (.tup [(.int (1)), (.int (2))]), (.tup [(.int (2)), (.int (3))]), (.tup [(.int (3)), (.int (4))]), (.tup [(.int (4)), (.int (5))]), (.tup [(.int (5)), (.int (6))]), (.tup [(.int (6)), (.int (7))]), (.tup [(.int (7)), (.int (8))])]), (.tup [])]), some (.int (0)), some (.int (8)), some .non, some .non, some (.lst [(.tup [(.int (0)), (.tup [(.int (0)), (.int (1)), (.int (2)), (.int (3)), (.int (4)), (.int (5)), (.int (6))])])]), some (.tup [(.int (0)), (.tup [(.int (0)), (.int (1)), (.int (2)), (.int (3)), (.int (4)), (.int (5)), (.int (6)), (.int (7))])]), some (.lst [.non, .non, (.tup [(.tup [(.int (0)), (.tup [(.int (0)), (.int (1)), (.int (2)), (.int (3)), (.int (4)), (.int (5)), (.int (6))])])]), (.tup [(.str "end"), (.int (0))]), (.tup [(.str "end"), (.int (0))])]), none]
abbrev e_9_2 : Ent := [some (.int (9)), some (.tup [(.int (9)), (.tup [(.tup [(.int (0)), (.int (1))]), (.tup [(.int (1)), (.int (2))]), (.tup [(.int (2)), (.int (3))]), (.tup [(.int (3)), (.int (4))]), (.tup [(.int (4)), (.int (5))]), (.tup [(.int (5)), (.int (6))]), (.tup [(.int (6)), (.int (7))]), (.tup [(.int (7)), (.int (8))])]), (.tup [])]), some (.int (1)), some (.int (8)), some (.tup [(.int (0)), (.tup [(.int (0)), (.int (1)), (.int (2)), (.int (3)), (.int (4)), (.int (5)), (.int (6))])]), some .non, some (.lst [(.tup [(.int (0)), (.tup [(.int (0)), (.int (1)), (.int (2)), (.int (3)), (.int (4)), (.int (5)), (.int (6)), (.int (7))])]), (.tup [(.int (1)), (.tup [(.int (1)), (.int (2)), (.int (3)), (.int (4)), (.int (5)), (.int (6))])])]), some (.tup [(.int (1)), (.tup [(.int (1)), (.int (2)), (.int (3)), (.int (4)), (.int (5)), (.int (6)), (.int (7))])]), some (.lst [(.tup [(.int (0)), (.tup [(.int (0)), (.int (1)), (.int (2)), (.int (3)), (.int (4)), (.int (5)), (.int (6))])]), .non, (.tup [(.tup [(.int (0)), (.tup [(.int (0)), (.int (1)), (.int (2)), (.int (3)), (.int (4)), (.int (5)), (.int (6)), (.int (7))])]), (.tup [(.int (1)), (.tup [(.int (1)), (.int (2)), (.int (3)), (.int (4)), (.int (5)), (.int (6))])])]), (.tup [(.str "end"), (.int (1))]), (.tup [(.str "end"), (.int (0))])]), none]
abbrev e_9_3 : Ent := [some (.int (9)), some (.tup [(.int (9)), (.tup [(.tup [(.int (0)), (.int (1))]), (.tup [(.int (1)), (.int (2))]), (.tup [(.int (2)), (.int (3))]), (.tup [(.int (3)), (.int (4))]), (.tup [(.int (4)), (.int (5))]), (.tup [(.int (5)), (.int (6))]), (.tup [(.int (6)), (.int (7))]), (.tup [(.int (7)), (.int (8))])]), (.tup [])]), some (.int (2)), some (.int (8)), some (.tup [(.int (1)), (.tup [(.int (1)), (.int (2)), (.int (3)), (.int (4)), (.int (5)), (.int (6))])]), some .non, some (.lst [(.tup [(.int (1)), (.tup [(.int (1)), (.int (2)), (.int (3)), (.int (4)), (.int (5)), (.int (6)), (.int (7))])]), (.tup [(.int (2)), (.tup [(.int (2)), (.int (3)), (.int (4)), (.int (5)), (.int (6))])])]), some (.tup [(.int (2)), (.tup [(.int (2)), (.int (3)), (.int (4)), (.int (5)), (.int (6)), (.int (7))])]), some (.lst [(.tup [(.int (1)), (.tup [(.int (1)), (.int (2)), (.int (3)), (.int (4)), (.int (5)), (.int (6))])]), .non, (.tup [(.tup [(.int (1)), (.tup [(.int (1)), (.int (2)), (.int (3)), (.int (4)), (.int (5)), (.int (6)), (.int (7))])]), (.tup [(.int (2)), (.tup [(.int (2)), (.int (3)), (.int (4)), (.int (5)), (.int (6))])])]), (.tup [(.str "end"), (.int (2))]), (.tup [(.str "end"), (.int (0))])]), none]
abbrev e_9_4 : Ent := [some (.int (9)), some (.tup [(.int (9)), (.tup [(.tup [(.int (0)), (.int (1))]), (.tup [(.int (1)), (.int (2))]), (.tup [(.int (2)), (.int (3))]), (.tup [(.int (3)), (.int (4))]), (.tup [(.int (4)), (.int (5))]), (.tup [(.int (5)), (.int (6))]), (.tup [(.int (6)), (.int (7))]), (.tup [(.int (7)), (.int (8))])]), (.tup [])]), some (.int (3)), some (.int (8)), some (.tup [(.int (2)), (.tup [(.int (2)), (.int (3)), (.int (4)), (.int (5)), (.int (6))])]), some .non, some (.lst [(.tup [(.int (2)), (.tup [(.int (2)), (.int (3)), (.int (4)), (.int (5)), (.int (6)), (.int (7))])]), (.tup [(.int (3)), (.tup [(.int (3)), (.int (4)), (.int (5)), (.int (6))])])]), some (.tup [(.int (3)), (.tup [(.int (3)), (.int (4)), (.int (5)), (.int (6)), (.int (7))])]), some (.lst [(.tup [(.int (2)), (.tup [(.int (2)), (.int (3)), (.int (4)), (.int (5)), (.int (6))])]), .non, (.tup [(.tup [(.int (2)), (.tup [(.int (2)), (.int (3)), (.int (4)), (.int (5)), (.int (6)), (.int (7))])]), (.tup [(.int (3)), (.tup [(.int (3)), (.int (4)), (.int (5)), (.int (6))])])]), (.tup [(.str "end"), (.int (3))]), (.tup [(.str "end"), (.int (0))])]), none]
abbrev e_9_5 : Ent := [some (.int (9)), some (.tup [(.int (9)), (.tup [(.tup [(.int (0)), (.int (1))]), (.tup [(.int (1)), (.int (2))]), (.tup [(.int (2)), (.int (3))]), (.tup [(.int (3)), (.int (4))]), (.tup [(.int (4)), (.int (5))]), (.tup [(.int (5)), (.int (6))]), (.tup [(.int (6)), (.int (7))]), (.tup [(.int (7)), (.int (8))])]), (.tup [])]), some (.int (4)), some (.int (8)), some (.tup [(.int (3)), (.tup [(.int (3)), (.int (4)), (.int (5)), (.int (6))])]), some .non, some (.lst [(.tup [(.int (3)), (.tup [(.int (3)), (.int (4)), (.int (5)), (.int (6)), (.int (7))])]), (.tup [(.int (4)), (.tup [(.int (4)), (.int (5)), (.int (6))])])]), some (.tup [(.int (4)), (.tup [(.int (4)), (.int (5)), (.int (6)), (.int (7))])]), some (.lst [(.tup [(.int (3)), (.tup [(.int (3)), (.int (4)), (.int (5)), (.int (6))])]), .non, (.tup [(.tup [(.int (3)), (.tup [(.int (3)), (.int (4)), (.int (5)), (.int (6)), (.int (7))])]), (.tup [(.int (4)), (.tup [(.int (4)), (.int (5)), (.int (6))])])]), (.tup [(.str "end"), (.int (4))]), (.tup [(.str "end"), (.int (0))])]), none]
abbrev e_9_6 : Ent := [some (.int (9)), some (.tup [(.int (9)), (.tup [(.tup [(.int (0)), (.int (1))]), (.tup [(.int (1)), (.int (2))]), (.tup [(.int (2)), (.int (3))]), (.tup [(.int (3)), (.int (4))]), (.tup [(.int (4)), (.int (5))]), (.tup [(.int (5)), (.int (6))]), (.tup [(.int (6)), (.int (7))]), (.tup [(.int (7)), (.int (8))])]), (.tup [])]), some (.int (5)), some (.int (8)), some (.tup [(.int (4)), (.tup [(.int (4)), (.int (5)), (.int (6))])]), some .non, some (.lst [(.tup [(.int (4)), (.tup [(.int (4)), (.int (5)), (.int (6)), (.int (7))])]), (.tup [(.int (5)), (.tup [(.int (5)), (.int (6))])])]), some (.tup [(.int (5)), (.tup [(.int (5)), (.int (6)), (.int (7))])]), some (.lst [(.tup [(.int (4)), (.tup [(.int (4)), (.int (5)), (.int (6))])]), .non, (.tup [(.tup [(.int (4)), (.tup [(.int (4)), (.int (5)), (.int (6)), (.int (7))])]), (.tup [(.int (5)), (.tup [(.int (5)), (.int (6))])])]), (.tup [(.str "end"), (.int (5))]), (.tup [(.str "end"), (.int (0))])]), none]
abbrev e_9_7 : Ent := [some (.int (9)), some (.tup [(.int (9)), (.tup [(.tup [(.int (0)), (.int (1))]), (.tup [(.int (1)), (.int (2))]), (.tup [(.int (2)), (.int (3))]), (.tup [(.int (3)), (.int (4))]), (.tup [(.int (4)), (.int (5))]), (.tup [(.int (5)), (.int (6))]), (.tup [(.int (6)), (.int (7))]), (.tup [(.int (7)), (.int (8))])]), (.tup [])]), some (.int (6)), some (.int (8)), some (.tup [(.int (5)), (.tup [(.int (5)), (.int (6))])]), some .non, some (.lst [(.tup [(.int (5)), (.tup [(.int (5)), (.int (6)), (.int (7))])]), (.tup [(.int (6)), (.tup [(.int (6))])])]), some (.tup [(.int (6)), (.tup [(.int (6)), (.int (7))])]), some (.lst [(.tup [(.int (5)), (.tup [(.int (5)), (.int (6))])]), .non, (.tup [(.tup [(.int (5)), (.tup [(.int (5)), (.int (6)), (.int (7))])]), (.tup [(.int (6)), (.tup [(.int (6))])])]), (.tup [(.str "end"), (.int (6))]), (.tup [(.str "end"), (.int (0))])]), none]
abbrev e_9_8 : Ent := [some (.int (9)), some (.tup [(.int (9)), (.tup [(.tup [(.int (0)), (.int (1))]), (.tup [(.int (1)), (.int (2))]), (.tup [(.int (2)), (.int (3))]), (.tup [(.int (3)), (.int (4))]), (.tup [(.int (4)), (.int (5))]), (.tup [(.int (5)), (.int (6))]), (.tup [(.int (6)), (.int (7))]), (.tup [(.int (7)), (.int (8))])]), (.tup [])]), some (.int (7)), some (.int (8)), some (.tup [(.int (6)), (.tup [(.int (6))])]), some .non, some (.lst [(.tup [(.int (6)), (.tup [(.int (6)), (.int (7))])]), (.tup [(.int (7)), (.tup [])])]), some (.tup [(.int (7)), (.tup [(.int (7))])]), some (.lst [(.tup [(.int (6)), (.tup [(.int (6))])]), .non, (.tup [(.tup [(.int (6)), (.tup [(.int (6)), (.int (7))])]), (.tup [(.int (7)), (.tup [])])]), (.tup [(.str "end"), (.int (7))]), (.tup [(.str "end"), (.int (0))])]), none]
abbrev e_9_9 : Ent := [some (.int (9)), some (.tup [(.int (9)), (.tup [(.tup [(.int (0)), (.int (1))]), (.tup [(.int (1)), (.int (2))]), (.tup [(.int (2)), (.int (3))]), (.tup [(.int (3)), (.int (4))]), (.tup [(.int (4)), (.int (5))]), (.tup [(.int (5)), (.int (6))]), (.tup [(.int (6)), (.int (7))]), (.tup [(.int (7)), (.int (8))])]), (.tup [])]), some (.int (8)), some (.int (8)), some (.tup [(.int (7)), (.tup [])]), some .non, some (.lst [(.tup [(.int (7)), (.tup [(.int (7))])])]), some (.tup [(.int (8)), (.tup [])]), some (.lst [(.tup [(.int (7)), (.tup [])]), .non, (.tup [(.tup [(.int (7)), (.tup [(.int (7))])])]), (.tup [(.str "end"), (.int (8))]), (.tup [(.str "end"), (.int (0))])]), none]
theorem lp_9 : bPl [some (.int 9), none, none, none, none, none, none, none, none, none] [] = .ok (.nx, e_9_0) [] := by kernel_rfl
theorem ln_9_0 : bIn (e_9_0.set 2 (some (.int 0))) [] = .ok (.nx, e_9_1) [] := by kernel_rfl
theorem ln_9_1 : bIn (e_9_1.set 2 (some (.int 1))) [] = .ok (.nx, e_9_2) [] := by kernel_rfl
theorem ln_9_2 : bIn (e_9_2.set 2 (some (.int 2))) [] = .ok (.nx, e_9_3) [] := by kernel_rfl
theorem ln_9_3 : bIn (e_9_3.set 2 (some (.int 3))) [] = .ok (.nx, e_9_4) [] := by kernel_rfl
theorem ln_9_4 : bIn (e_9_4.set 2 (some (.int 4))) [] = .ok (.nx, e_9_5) [] := by kernel_rfl
theorem ln_9_5 : bIn (e_9_5.set 2 (some (.int 5))) [] = .ok (.nx, e_9_6) [] := by kernel_rfl
theorem ln_9_6 : bIn (e_9_6.set 2 (some (.int 6))) [] = .ok (.nx, e_9_7) [] := by kernel_rfl
theorem ln_9_7 : bIn (e_9_7.set 2 (some (.int 7))) [] = .ok (.nx, e_9_8) [] := by kernel_rfl
theorem ln_9_8 : bIn (e_9_8.set 2 (some (.int 8))) [] = .ok (.nx, e_9_9) [] := by kernel_rfl
theorem fl_9 : sFor 1000 (iRg1 (eVar 0)) (tgN 2) bIn e_9_0 [] = .ok (.nx, e_9_9) [] := by
  refine (for_vals (ds := [.int 0, .int 1, .int 2, .int 3, .int 4, .int 5, .int 6, .int 7, .int 8]) (env := e_9_0) (st1 := []) (by kernel_rfl)).trans ?_
  exact ((fv_cons ln_9_0).trans ((fv_cons ln_9_1).trans ((fv_cons ln_9_2).trans ((fv_cons ln_9_3).trans ((fv_cons ln_9_4).trans ((fv_cons ln_9_5).trans ((fv_cons ln_9_6).trans ((fv_cons ln_9_7).trans ((fv_cons ln_9_8).trans rfl)))))))))
theorem line_9 : okB (f__law_line_right [.int 9] []) = true := okB_run (n := 1) (N := 10) (f := b__law_line_right) (e := e_9_9) (st := []) (by
  show b__law_line_right [some (.int 9), none, none, none, none, none, none, none, none, none] [] = _
  exact (seq_nx (f := bPl) lp_9).trans ((seq_nx fl_9).trans (ret_ok rfl)))
theorem nf_9 : okB (f__law_noughts_right [.int 9, .bl false] []) = true := by decide +kernel
theorem nt_9 : okB (f__law_noughts_right [.int 9, .bl true] []) = true := by decide +kernel
abbrev e_10_0 : Ent := [some (.int (10)), some (.tup [(.int (10)), (.tup [(.tup [(.int (0)), (.int (1))]), (.tup [(.int (1)), (.int (2))]), (.tup [(.int (2)), (.int (3))]), (.tup [(.int (3)), (.int (4))]), (.tup [(.int (4)), (.int (5))]), (.tup [(.int (5)), (.int (6))]), (.tup [(.int (6)), (.int (7))]), (.tup [(.int (7)), (.int (8))]), (.tup [(.int (8)), (.int (9))])]), (.tup [])]), none, none, none, none, none, none, none, none]
abbrev e_10_1 : Ent := [some (.int (10)), some (.tup [(.int (10)), (.tup [(.tup [(.int (0)), (.int (1))]), (.tup [(.int (1)), (.int (2))]), (.tup [(.int (2)), (.int (3))]), (.tup [(.int (3)), (.int (4))]), (.tup [(.int (4)), (.int (5))]), (.tup [(.int (5)), (.int (6))]), (.tup [(.int (6)), (.int (7))]), (.tup [(.int (7)), (.int (8))]), (.tup [(.int (8)), (.int (9))])]), (.tup [])]), some (.int (0)), some (.int (9)), some .non, some .non, some (.lst [(.tup [(.int (0)), (.tup [(.int (0)), (.int (1)), (.int (2)), (.int (3)), (.int (4)), (.int (5)), (.int (6)), (.int (7))])])]), some (.tup [(.int (0)), (.tup [(.int (0)), (.int (1)), (.int (2)), (.int (3)), (.int (4)), (.int (5)), (.int (6)), (.int (7)), (.int (8))])]), some (.lst [.non, .non, (.tup [(.tup [(.int (0)), (.tup [(.int (0)), (.int (1)), (.int (2)), (.int (3)), (.int (4)), (.int (5)), (.int (6)), (.int (7))])])]), (.tup [(.str "end"), (.int (0))]), (.tup [(.str "end"), (.int (0))])]), none]
abbrev e_10_2 : Ent := [some (.int (10)), some (.tup [(.int (10)), (.tup [(.tup [(.int (0)), (.int (1))]), (.tup [(.int (1)), (.int (2))]), (.tup [(.int (2)), (.int (3))]), (.tup [(.int (3)), (.int (4))]), (.tup [(.int (4)), (.int (5))]), (.tup [(.int (5)), (.int (6))]), (.tup [(.int (6)), (.int (7))]), (.tup [(.int (7)), (.int (8))]), (.tup [(.int (8)), (.int (9))])]), (.tup [])]), some (.int (1)), some (.int (9)), some (.tup [(.int (0)), (.tup [(.int (0)), (.int (1)), (.int (2)), (.int (3)), (.int (4)), (.int (5)), (.int (6)), (.int (7))])]), some .non, some (.lst [(.tup [(.int (0)), (.tup [(.int (0)), (.int (1)), (.int (2)), (.int (3)), (.int (4)), (.int (5)), (.int (6)), (.int (7)), (.int (8))])]), (.tup [(.int (1)), (.tup [(.int (1)), (.int (2)), (.int (3)), (.int (4)), (.int (5)), (.int (6)), (.int (7))])])]), some (.tup [(.int (1)), (.tup [(.int (1)), (.int (2)), (.int (3)), (.int (4)), (.int (5)), (.int (6)), (.int (7)), (.int (8))])]), some (.lst [(.tup [(.int (0)), (.tup [(.int (0)), (.int (1)), (.int (2)), (.int (3)), (.int (4)), (.int (5)), (.int (6)), (.int (7))])]), .non, (.tup [(.tup [(.int (0)), (.tup [(.int (0)), (.int (1)), (.int (2)), (.int (3)), (.int (4)), (.int (5)), (.int (6)), (.int (7)), (.int (8))])]), (.tup [(.int (1)), (.tup [(.int (1)), (.int (2)), (.int (3)), (.int (4)), (.int (5)), (.int (6)), (.int (7))])])]), (.tup [(.str "end"), (.int (1))]), (.tup [(.str "end"), (.int (0))])]), none]
abbrev e_10_3 : Ent := [some (.int (10)), some (.tup [(.int (10)), (.tup [(.tup [(.int (0)), (.int (1))]), (.tup [(.int (1)), (.int (2))]), (.tup [(.int (2)), (.int (3))]), (.tup [(.int (3)), (.int (4))]), (.tup [(.int (4)), (.int (5))]), (.tup [(.int (5)), (.int (6))]), (.tup [(.int (6)), (.int (7))]), (.tup [(.int (7)), (.int (8))]), (.tup [(.int (8)), (.int (9))])]), (.tup [])]), some (.int (2)), some (.int (9)), some (.tup [(.int (1)), (.tup [(.int (1)), (.int (2)), (.int (3)), (.int (4)), (.int (5)), (.int (6)), (.int (7))])]), some .non, some (.lst [(.tup [(.int (1)), (.tup [(.int (1)), (.int (2)), (.int (3)), (.int (4)), (.int (5)), (.int (6)), (.int (7)), (.int (8))])]), (.tup [(.int (2)), (.tup [(.int (2)), (.int (3)), (.int (4)), (.int (5)), (.int (6)), (.int (7))])])]), some (.tup [(.int (2)), (.tup [(.int (2)), (.int (3)), (.int (4)), (.int (5)), (.int (6)), (.int (7)), (.int (8))])]), some (.lst [(.tup [(.int (1)), (.tup [(.int (1)), (.int (2)), (.int (3)), (.int (4)), (.int (5)), (.int (6)), (.int (7))])]), .non, (.tup [(.tup [(.int (1)), (.tup [(.int (1)), (.int (2)), (.int (3)), (.int (4)), (.int (5)), (.int (6)), (.int (7)), (.int (8))])]), (.tup [(.int (2)), (.tup [(.int (2)), (.int (3)), (.int (4)), (.int (5)), (.int (6)), (.int (7))])])]), (.tup [(.str "end"), (.int (2))]), (.tup [(.str "end"), (.int (0))])]), none]
abbrev e_10_4 : Ent := [some (.int (10)), some (.tup [(.int (10)), (.tup [(.tup [(.int (0)), (.int (1))]), (.tup [(.int (1)), (.int (2))]), (.tup [(.int (2)), (.int (3))]), (.tup [(.int (3)), (.int (4))]), (.tup [(.int (4)), (.int (5))]), (.tup [(.int (5)), (.int (6))]), (.tup [(.int (6)), (.int (7))]), (.tup [(.int (7)), (.int (8))]), (.tup [(.int (8)), (.int (9))])]), (.tup [])]), some (.int (3)), some (.int (9)), some (.tup [(.int (2)), (.tup [(.int (2)), (.int (3)), (.int (4)), (.int (5)), (.int (6)), (.int (7))])]), some .non, some (.lst [(.tup [(.int (2)), (.tup [(.int (2)), (.int (3)), (.int (4)), (.int (5)), (.int (6)), (.int (7)), (.int (8))])]), (.tup [(.int (3)), (.tup [(.int (3)), (.int (4)), (.int (5)), (.int (6)), (.int (7))])])]), some (.tup [(.int (3)), (.tup [(.int (3)), (.int (4)), (.int (5)), (.int (6)), (.int (7)), (.int (8))])]), some (.lst [(.tup [(.int (2)), (.tup [(.int (2)), (.int (3)), (.int (4)), (.int (5)), (.int (6)), (.int (7))])]), .non, (.tup [(.tup [(.int (2)), (.tup [(.int (2)), (.int (3)), (.int (4)), (.int (5)), (.int (6)), (.int (7)), (.int (8))])]), (.tup [(.int (3)), (.tup [(.int (3)), (.int (4)), (.int (5)), (.int (6)), (.int (7))])])]), (.tup [(.str "end"), (.int (3))]), (.tup [(.str "end"), (.int (0))])]), none]
abbrev e_10_5 : Ent := [some (.int (10)), some (.tup [(.int (10)), (.tup [(.tup [(.int (0)), (.int (1))]), (.tup [(.int (1)), (.int (2))]), (.tup [(.int (2)), (.int (3))]), (.tup [(.int (3)), (.int (4))]), (.tup [(.int (4)), (.int (5))]), (.tup [(.int (5)), (.int (6))]), (.tup [(.int (6)), (.int (7))]), (.tup [(.int (7)), (.int (8))]), (.tup [(.int (8)), (.int (9))])]), (.tup [])]), some (.int (4)), some (.int (9)), some (.tup [(.int (3)), (.tup [(.int (3)), (.int (4)), (.int (5)), (.int (6)), (.int (7))])]), some .non, some (.lst [(.tup [(.int (3)), (.tup [(.int (3)), (.int (4)), (.int (5)), (.int (6)), (.int (7)), (.int (8))])]), (.tup [(.int (4)), (.tup [(.int (4)), (.int (5)), (.int (6)), (.int (7))])])]), some (.tup [(.int (4)), (.tup [(.int (4)), (.int (5)), (.int (6)), (.int (7)), (.int (8))])]), some (.lst [(.tup [(.int (3)), (.tup [(.int (3)), (.int (4)), (.int (5)), (.int (6)), (.int (7))])]), .non, (.tup [(.tup [(.int (3)), (.tup [(.int (3)), (.int (4)), (.int (5)), (.int (6)), (.int (7)), (.int (8))])]), (.tup [(.int (4)), (.tup [(.int (4)), (.int (5)), (.int (6)), (.int (7))])])]), (.tup [(.str "end"), (.int (4))]), (.tup [(.str "end"), (.int (0))])]), none]
abbrev e_10_6 : Ent := [some (.int (10)), some (.tup [(.int (10)), (.tup [(.tup [(.int (0)), (.int (1))]), (.tup [(.int (1)), (.int (2))]), (.tup [(.int (2)), (.int (3))]), (.tup [(.int (3)), (.int (4))]), (.tup [(.int (4)), (.int (5))]), (.tup [(.int (5)), (.int (6))]), (.tup [(.int (6)), (.int (7))]), (.tup [(.int (7)), (.int (8))]), (.tup [(.int (8)), (.int (9))])]), (.tup [])]), some (.int (5)), some (.int (9)), some (.tup [(.int (4)), (.tup [(.int (4)), (.int (5)), (.int (6)), (.int (7))])]), some .non, some (.lst [(.tup [(.int (4)), (.tup [(.int (4)), (.int (5)), (.int (6)), (.int (7)), (.int (8))])]), (.tup [(.int (5)), (.tup [(.int (5)), (.int (6)), (.int (7))])])]), some (.tup [(.int (5)), (.tup [(.int (5)), (.int (6)), (.int (7)), (.int (8))])]), some (.lst [(.tup [(.int (4)), (.tup [(.int (4)), (.int (5)), (.int (6)), (.int (7))])]), .non, (.tup [(.tup [(.int (4)), (.tup [(.int (4)), (.int (5)), (.int (6)), (.int (7)), (.int (8))])]), (.tup [(.int (5)), (.tup [(.int (5)), (.int (6)), (.int (7))])])]), (.tup [(.str "end"), (.int (5))]), (.tup [(.str "end"), (.int (0))])]), none]
abbrev e_10_7 : Ent := [some (.int (10)), some (.tup [(.int (10)), (.tup [(.tup [(.int (0)), (.int (1))]), (.tup [(.int (1)), (.int (2))]), (.tup [(.int (2)), (.int (3))]), (.tup [(.int (3)), (.int (4))]), (.tup [(.int (4)), (.int (5))]), (.tup [(.int (5)), (.int (6))]), (.tup [(.int (6)), (.int (7))]), (.tup [(.int (7)), (.int (8))]), (.tup [(.int (8)), (.int (9))])]), (.tup [])]), some (.int (6)), some (.int (9)), some (.tup [(.int (5)), (.tup [(.int (5)), (.int (6)), (.int (7))])]), some .non, some (.lst [(.tup [(.int (5)), (.tup [(.int (5)), (.int (6)), (.int (7)), (.int (8))])]), (.tup [(.int (6)), (.tup [(.int (6)), (.int (7))])])]), some (.tup [(.int (6)), (.tup [(.int (6)), (.int (7)), (.int (8))])]), some (.lst [(.tup [(.int (5)), (.tup [(.int (5)), (.int (6)), (.int (7))])]), .non, (.tup [(.tup [(.int (5)), (.tup [(.int (5)), (.int (6)), (.int (7)), (.int (8))])]), (.tup [(.int (6)), (.tup [(.int (6)), (.int (7))])])]), (.tup [(.str "end"), (.int (6))]), (.tup [(.str "end"), (.int (0))])]), none]
abbrev e_10_8 : Ent := [some (.int (10)), some (.tup [(.int (10)), (.tup [(.tup [(.int (0)), (.int (1))]), (.tup [(.int (1)), (.int (2))]), (.tup [(.int (2)), (.int (3))]), (.tup [(.int (3)), (.int (4))]), (.tup [(.int (4)), (.int (5))]), (.tup [(.int (5)), (.int (6))]), (.tup [(.int (6)), (.int (7))]), (.tup [(.int (7)), (.int (8))]), (.tup [(.int (8)), (.int (9))])]), (.tup [])]), some (.int (7)), some (.int (9)), some (.tup [(.int (6)), (.tup [(.int (6)), (.int (7))])]), some .non, some (.lst [(.tup [(.int (6)), (.tup [(.int (6)), (.int (7)), (.int (8))])]), (.tup [(.int (7)), (.tup [(.int (7))])])]), some (.tup [(.int (7)), (.tup [(.int (7)), (.int (8))])]), some (.lst [(.tup [(.int (6)), (.tup [(.int (6)), (.int (7))])]), .non, (.tup [(.tup [(.int (6)), (.tup [(.int (6)), (.int (7)), (.int (8))])]), (.tup [(.int (7)), (.tup [(.int (7))])])]), (.tup [(.str "end"), (.int (7))]), (.tup [(.str "end"), (.int (0))])]), none]
abbrev e_10_9 : Ent := [some (.int (10)), some (.tup [(.int (10)), (.tup [(.tup [(.int (0)), (.int (1))]), (.tup [(.int (1)), (.int (2))]), (.tup [(.int (2)), (.int (3))]), (.tup [(.int (3)), (.int (4))]), (.tup [(.int (4)), (.int (5))]), (.tup [(.int (5)), (.int (6))]), (.tup [(.int (6)), (.int (7))]), (.tup [(.int (7)), (.int (8))]), (.tup [(.int (8)), (.int (9))])]), (.tup [])]), some (.int (8)), some (.int (9)), some (.tup [(.int (7)), (.tup [(.int (7))])]), some .non, some (.lst [(.tup [(.int (7)), (.tup [(.int (7)), (.int (8))])]), (.tup [(.int (8)), (.tup [])])]), some (.tup [(.int (8)), (.tup [(.int (8))])]), some (.lst [(.tup [(.int (7)), (.tup [(.int (7))])]), .non, (.tup [(.tup [(.int (7)), (.tup [(.int (7)), (.int (8))])]), (.tup [(.int (8)), (.tup [])])]), (.tup [(.str "end"), (.int (8))]), (.tup [(.str "end"), (.int (0))])]), none]
abbrev e_10_10 : Ent := [some (.int (10)), some (.tup [(.int (10)), (.tup [(.tup [(.int (0)), (.int (1))]), (.tup [(.int (1)), (.int (2))]), (.tup [(.int (2)), (.int (3))]), (.tup [(.int (3)), (.int (4))]), (.tup [(.int (4)), (.int (5))]), (.tup [(.int (5)), (.int (6))]), (.tup [(.int (6)), (.int (7))]), (.tup [(.int (7)), (.int (8))]), (.tup [(.int (8)), (.int (9))])]), (.tup [])]), some (.int (9)), some (.int (9)), some (.tup [(.int (8)), (.tup [])]), some .non, some (.lst [(.tup [(.int (8)), (.tup [(.int (8))])])]), some (.tup [(.int (9)), (.tup [])]), some (.lst [(.tup [(.int (8)), (.tup [])]), .non, (.tup [(.tup [(.int (8)), (.tup [(.int (8))])])]), (.tup [(.str "end"), (.int (9))]), (.tup [(.str "end"), (.int (0))])]), none]
theorem lp_10 : bPl [some (.int 10), none, none, none, none, none, none, none, none, none] [] = .ok (.nx, e_10_0) [] := by kernel_rfl
theorem ln_10_0 : bIn (e_10_0.set 2 (some (.int 0))) [] = .ok (.nx, e_10_1) [] := by kernel_rfl
theorem ln_10_1 : bIn (e_10_1.set 2 (some (.int 1))) [] = .ok (.nx, e_10_2) [] := by kernel_rfl
theorem ln_10_2 : bIn (e_10_2.set 2 (some (.int 2))) [] = .ok (.nx, e_10_3) [] := by kernel_rfl
theorem ln_10_3 : bIn (e_10_3.set 2 (some (.int 3))) [] = .ok (.nx, e_10_4) [] := by kernel_rfl
theorem ln_10_4 : bIn (e_10_4.set 2 (some (.int 4))) [] = .ok (.nx, e_10_5) [] := by kernel_rfl
theorem ln_10_5 : bIn (e_10_5.set 2 (some (.int 5))) [] = .ok (.nx, e_10_6) [] := by kernel_rfl
theorem ln_10_6 : bIn (e_10_6.set 2 (some (.int 6))) [] = .ok (.nx, e_10_7) [] := by kernel_rfl
theorem ln_10_7 : bIn (e_10_7.set 2 (some (.int 7))) [] = .ok (.nx, e_10_8) [] := by kernel_rfl
theorem ln_10_8 : bIn (e_10_8.set 2 (some (.int 8))) [] = .ok (.nx, e_10_9) [] := by kernel_rfl
theorem ln_10_9 : bIn (e_10_9.set 2 (some (.int 9))) [] = .ok (.nx, e_10_10) [] := by kernel_rfl
theorem fl_10 : sFor 1000 (iRg1 (eVar 0)) (tgN 2) bIn e_10_0 [] = .ok (.nx, e_10_10) [] := by
  refine (for_vals (ds := [.int 0, .int 1, .int 2, .int 3, .int 4, .int 5, .int 6, .int 7, .int 8, .int 9]) (env := e_10_0) (st1 := []) (by kernel_rfl)).trans ?_
  exact ((fv_cons ln_10_0).trans ((fv_cons ln_10_1).trans ((fv_cons ln_10_2).trans ((fv_cons ln_10_3).trans ((fv_cons ln_10_4).trans ((fv_cons ln_10_5).trans ((fv_cons ln_10_6).trans ((fv_cons ln_10_7).trans ((fv_cons ln_10_8).trans ((fv_cons ln_10_9).trans rfl))))))))))
theorem line_10 : okB (f__law_line_right [.int 10] []) = true := okB_run (n := 1) (N := 10) (f := b__law_line_right) (e := e_10_10) (st := []) (by
  show b__law_line_right [some (.int 10), none, none, none, none, none, none, none, none, none] [] = _
  exact (seq_nx (f := bPl) lp_10).trans ((seq_nx fl_10).trans (ret_ok rfl)))
theorem nf_10 : okB (f__law_noughts_right [.int 10, .bl false] []) = true := by decide +kernel
theorem nt_10 : okB (f__law_noughts_right [.int 10, .bl true] []) = true := by decide +kernel
abbrev e_11_0 : Ent := [some (.int (11)), some (.tup [(.int (11)), (.tup [(.tup [(.int (0)), (.int (1))]), (.tup [(.int (1)), (.int (2))]), (.tup [(.int (2)), (.int (3))]), (.tup [(.int (3)), (.int (4))]), (.tup [(.int (4)), (.int (5))]), (.tup [(.int (5)), (.int (6))]), (.tup [(.int (6)), (.int (7))]), (.tup [(.int (7)), (.int (8))]), (.tup [(.int (8)), (.int (9))]), (.tup [(.int (9)), (.int (10))])]), (.tup [])]), none, none, none, none, none, none, none, none]
abbrev e_11_1 : Ent := [some (.int (11)), some (.tup [(.int (11)), (.tup [(.tup [(.int (0)), (.int (1))]), (.tup [(.int (1)), (.int (2))]), (.tup [(.int (2)), (.int (3))]), (.tup [(.int (3)), (.int (4))]), (.tup [(.int (4)), (.int (5))]), (.tup [(.int (5)), (.int (6))]), (.tup [(.int (6)), (.int (7))]), (.tup [(.int (7)), (.int (8))]), (.tup [(.int (8)), (.int (9))]), (.tup [(.int (9)), (.int (10))])]), (.tup [])]), some (.int (0)), some (.int (10)), some .non, some .non, some (.lst [(.tup [(.int (0)), (.tup [(.int (0)), (.int (1)), (.int (2)), (.int (3)), (.int (4)), (.int (5)), (.int (6)), (.int (7)), (.int (8))])])]), some (.tup [(.int (0)), (.tup [(.int (0)), (.int (1)), (.int (2)), (.int (3)), (.int (4)), (.int (5)), (.int (6)), (.int (7)), (.int (8)), (.int (9))])]), some (.lst [.non, .non, (.tup [(.tup [(.int (0)), (.tup [(.int (0)), (.int (1)), (.int (2)), (.int (3)), (.int (4)), (.int (5)), (.int (6)), (.int (7)), (.int (8))])])]), (.tup [(.str "end"), (.int (0))]), (.tup [(.str "end"), (.int (0))])]), none]
abbrev e_11_2 : Ent := [some (.int (11)), some (.tup [(.int (11)), (.tup [(.tup [(.int (0)), (.int (1))]), (.tup [(.int (1)), (.int (2))]), (.tup [(.int (2)), (.int (3))]), (.tup [(.int (3)), (.int (4))]), (.tup [(.int (4)), (.int (5))]), (.tup [(.int (5)), (.int (6))]), (.tup [(.int (6)), (.int (7))]), (.tup [(.int (7)), (.int (8))]), (.tup [(.int (8)), (.int (9))]), (.tup [(.int (9)), (.int (10))])]), (.tup [])]), some (.int (1)), some (.int (10)), some (.tup [(.int (0)), (.tup [(.int (0)), (.int (1)), (.int (2)), (.int (3)), (.int (4)), (.int (5)), (.int (6)), (.int (7)), (.int (8))])]), some .non, some (.lst [(.tup [(.int (0)), (.tup [(.int (0)), (.int (1)), (.int (2)), (.int (3)), (.int (4)), (.int (5)), (.int (6)), (.int (7)), (.int (8)), (.int (9))])]), (.tup [(.int (1)), (.tup [(.int (1)), (.int (2)), (.int (3)), (.int (4)), (.int (5)), (.int (6)), (.int (7)), (.int (8))])])]), some (.tup [(.int (1)), (.tup [(.int (1)), (.int (2)), (.int (3)), (.int (4)), (.int (5)), (.int (6)), (.int (7)), (.int (8)), (.int (9))])]), some (.lst [(.tup [(.int (0)), (.tup [(.int (0)), (.int (1)), (.int (2)), (.int (3)), (.int (4)), (.int (5)), (.int (6)), (.int (7)), (.int (8))])]), .non, (.tup [(.tup [(.int (0)), (.tup [(.int (0)), (.int (1)), (.int (2)), (.int (3)), (.int (4)), (.int (5)), (.int (6)), (.int (7)), (.int (8)), (.int (9))])]), (.tup [(.int (1)), (.tup [(.int (1)), (.int (2)), (.int (3)), (.int (4)), (.int (5)), (.int (6)), (.int (7)), (.int (8))])])]), (.tup [(.str "end"), (.int (1))]), (.tup [(.str "end"), (.int (0))])]), none]
abbrev e_11_3 : Ent := [some (.int (11)), some (.tup [(.int (11)), (.tup [(.tup [(.int (0)), (.int (1))]), (.tup [(.int (1)), (.int (2))]), (.tup [(.int (2)), (.int (3))]), (.tup [(.int (3)), (.int (4))]), (.tup [(.int (4)), (.int (5))]), (.tup [(.int (5)), (.int (6))]), (.tup [(.int (6)), (.int (7))]), (.tup [(.int (7)), (.int (8))]), (.tup [(.int (8)), (.int (9))]), (.tup [(.int (9)), (.int (10))])]), (.tup [])]), some (.int (2)), some (.int (10)), some (.tup [(.int (1)), (.tup [(.int (1)), (.int (2)), (.int (3)), (.int (4)), (.int (5)), (.int (6)), (.int (7)), (.int (8))])]), some .non, some (.lst [(.tup [(.int (1)), (.tup [(.int (1)), (.int (2)), (.int (3)), (.int (4)), (.int (5)), (.int (6)), (.int (7)), (.int (8)), (.int (9))])]), (.tup [(.int (2)), (.tup [(.int (2)), (.int (3)), (.int (4)), (.int (5)), (.int (6)), (.int (7)), (.int (8))])])]), some (.tup [(.int (2)), (.tup [(.int (2)), (.int (3)), (.int (4)), (.int (5)), (.int (6)), (.int (7)), (.int (8)), (.int (9))])]), some (.lst [(.tup [(.int (1)), (.tup [(.int (1)), (.int (2)), (.int (3)), (.int (4)), (.int (5)), (.int (6)), (.int (7)), (.int (8))])]), .non, (.tup [(.tup [(.int (1)), (.tup [(.int (1)), (.int (2)), (.int (3)), (.int (4)), (.int (5)), (.int (6)), (.int (7)), (.int (8)), (.int (9))])]), (.tup [(.int (2)), (.tup [(.int (2)), (.int (3)), (.int (4)), (.int (5)), (.int (6)), (.int (7)), (.int (8))])])]), (.tup [(.str "end"), (.int (2))]), (.tup [(.str "end"), (.int (0))])]), none]
abbrev e_11_4 : Ent := [some (.int (11)), some (.tup [(.int (11)), (.tup [(.tup [(.int (0)), (.int (1))]), (.tup [(.int (1)), (.int (2))]), (.tup [(.int (2)), (.int (3))]), (.tup [(.int (3)), (.int (4))]), (.tup [(.int (4)), (.int (5))]), (.tup [(.int (5)), (.int (6))]), (.tup [(.int (6)), (.int (7))]), (.tup [(.int (7)), (.int (8))]), (.tup [(.int (8)), (.int (9))]), (.tup [(.int (9)), (.int (10))])]), (.tup [])]), some (.int (3)), some (.int (10)), some (.tup [(.int (2)), (.tup [(.int (2)), (.int (3)), (.int (4)), (.int (5)), (.int (6)), (.int (7)), (.int (8))])]), some .non, some (.lst [(.tup [(.int (2)), (.tup [(.int (2)), (.int (3)), (.int (4)), (.int (5)), (.int (6)), (.int (7)), (.int (8)), (.int (9))])]), (.tup [(.int (3)), (.tup [(.int (3)), (.int (4)), (.int (5)), (.int (6)), (.int (7)), (.int (8))])])]), some (.tup [(.int (3)), (.tup [(.int (3)), (.int (4)), (.int (5)), (.int (6)), (.int (7)), (.int (8)), (.int (9))])]), some (.lst [(.tup [(.int (2)), (.tup [(.int (2)), (.int (3)), (.int (4)), (.int (5)), (.int (6)), (.int (7)), (.int (8))])]), .non, (.tup [(.tup [(.int (2)), (.tup [(.int (2)), (.int (3)), (.int (4)), (.int (5)), (.int (6)), (.int (7)), (.int (8)), (.int (9))])]), (.tup [(.int (3)), (.tup [(.int (3)), (.int (4)), (.int (5)), (.int (6)), (.int (7)), (.int (8))])])]), (.tup [(.str "end"), (.int (3))]), (.tup [(.str "end"), (.int (0))])]), none]
abbrev e_11_5 : Ent := [some (.int (11)), some (.tup [(.int (11)), (.tup [(.tup [(.int (0)), (.int (1))]), (.tup [(.int (1)), (.int (2))]), (.tup [(.int (2)), (.int (3))]), (.tup [(.int (3)), (.int (4))]), (.tup [(.int (4)), (.int (5))]), (.tup [(.int (5)), (.int (6))]), (.tup [(.int (6)), (.int (7))]), (.tup [(.int (7)), (.int (8))]), (.tup [(.int (8)), (.int (9))]), (.tup [(.int (9)), (.int (10))])]), (.tup [])]), some (.int (4)), some (.int (10)), some (.tup [(.int (3)), (.tup [(.int (3)), (.int (4)), (.int (5)), (.int (6)), (.int (7)), (.int (8))])]), some .non, some (.lst [(.tup [(.int (3)), (.tup [(.int (3)), (.int (4)), (.int (5)), (.int (6)), (.int (7)), (.int (8)), (.int (9))])]), (.tup [(.int (4)), (.tup [(.int (4)), (.int (5)), (.int (6)), (.int (7)), (.int (8))])])]), some (.tup [(.int (4)), (.tup [(.int (4)), (.int (5)), (.int (6)), (.int (7)), (.int (8)), (.int (9))])]), some (.lst [(.tup [(.int (3)), (.tup [(.int (3)), (.int (4)), (.int (5)), (.int (6)), (.int (7)), (.int (8))])]), .non, (.tup [(.tup [(.int (3)), (.tup [(.int (3)), (.int (4)), (.int (5)), (.int (6)), (.int (7)), (.int (8)), (.int (9))])]), (.tup [(.int (4)), (.tup [(.int (4)), (.int (5)), (.int (6)), (.int (7)), (.int (8))])])]), (.tup [(.str "end"), (.int (4))]), (.tup [(.str "end"), (.int (0))])]), none]
abbrev e_11_6 : Ent := [some (.int (11)), some (.tup [(.int (11)), (.tup [(.tup [(.int (0)), (.int (1))]), (.tup [(.int (1)), (.int (2))]), (.tup [(.int (2)), (.int (3))]), (.tup [(.int (3)), (.int (4))]), (.tup [(.int (4)), (.int (5))]), (.tup [(.int (5)), (.int (6))]), (.tup [(.int (6)), (.int (7))]), (.tup [(.int (7)), (.int (8))]), (.tup [(.int (8)), (.int (9))]), (.tup [(.int (9)), (.int (10))])]), (.tup [])]), some (.int (5)), some (.int (10)), some (.tup [(.int (4)), (.tup [(.int (4)), (.int (5)), (.int (6)), (.int (7)), (.int (8))])]), some .non, some (.lst [(.tup [(.int (4)), (.tup [(.int (4)), (.int (5)), (.int (6)), (.int (7)), (.int (8)), (.int (9))])]), (.tup [(.int (5)), (.tup [(.int (5)), (.int (6)), (.int (7)), (.int (8))])])]), some (.tup [(.int (5)), (.tup [(.int (5)), (.int (6)), (.int (7)), (.int (8)), (.int (9))])]), some (.lst [(.tup [(.int (4)), (.tup [(.int (4)), (.int (5)), (.int (6)), (.int (7)), (.int (8))])]), .non, (.tup [(.tup [(.int (4)), (.tup [(.int (4)), (.int (5)), (.int (6)), (.int (7)), (.int (8)), (.int (9))])]), (.tup [(.int (5)), (.tup [(.int (5)), (.int (6)), (.int (7)), (.int (8))])])]), (.tup [(.str "end"), (.int (5))]), (.tup [(.str "end"), (.int (0))])]), none]
abbrev e_11_7 : Ent := [some (.int (11)), some (.tup [(.int (11)), (.tup [(.tup [(.int (0)), (.int (1))]), (.tup [(.int (1)), (.int (2))]), (.tup [(.int (2)), (.int (3))]), (.tup [(.int (3)), (.int (4))]), (.tup [(.int (4)), (.int (5))]), (.tup [(.int (5)), (.int (6))]), (.tup [(.int (6)), (.int (7))]), (.tup [(.int (7)), (.int (8))]), (.tup [(.int (8)), (.int (9))]), (.tup [(.int (9)), (.int (10))])]), (.tup [])]), some (.int (6)), some (.int (10)), some (.tup [(.int (5)), (.tup [(.int (5)), (.int (6)), (.int (7)), (.int (8))])]), some .non, some (.lst [(.tup [(.int (5)), (.tup [(.int (5)), (.int (6)), (.int (7)), (.int (8)), (.int (9))])]), (.tup [(.int (6)), (.tup [(.int (6)), (.int (7)), (.int (8))])])]), some (.tup [(.int (6)), (.tup [(.int (6)), (.int (7)), (.int (8)), (.int (9))])]), some (.lst [(.tup [(.int (5)), (.tup [(.int (5)), (.int (6)), (.int (7)), (.int (8))])]), .non, (.tup [(.tup [(.int (5)), (.tup [(.int (5)), (.int (6)), (.int (7)), (.int (8)), (.int (9))])]), (.tup [(.int (6)), (.tup [(.int (6)), (.int (7)), (.int (8))])])]), (.tup [(.str "end"), (.int (6))]), (.tup [(.str "end"), (.int (0))])]), none]
abbrev e_11_8 : Ent := [some (.int (11)), some (.tup [(.int (11)), (.tup [(.tup [(.int (0)), (.int (1))]), (.tup [(.int (1)), (.int (2))]), (.tup [(.int (2)), (.int (3))]), (.tup [(.int (3)), (.int (4))]), (.tup [(.int (4)), (.int (5))]), (.tup [(.int (5)), (.int (6))]), (.tup [(.int (6)), (.int (7))]), (.tup [(.int (7)), (.int (8))]), (.tup [(.int (8)), (.int (9))]), (.tup [(.int (9)), (.int (10))])]), (.tup [])]), some (.int (7)), some (.int (10)), some (.tup [(.int (6)), (.tup [(.int (6)), (.int (7)), (.int (8))])]), some .non, some (.lst [(.tup [(.int (6)), (.tup [(.int (6)), (.int (7)), (.int (8)), (.int (9))])]), (.tup [(.int (7)), (.tup [(.int (7)), (.int (8))])])]), some (.tup [(.int (7)), (.tup [(.int (7)), (.int (8)), (.int (9))])]), some (.lst [(.tup [(.int (6)), (.tup [(.int (6)), (.int (7)), (.int (8))])]), .non, (.tup [(.tup [(.int (6)), (.tup [(.int (6)), (.int (7)), (.int (8)), (.int (9))])]), (.tup [(.int (7)), (.tup [(.int (7)), (.int (8))])])]), (.tup [(.str "end"), (.int (7))]), (.tup [(.str "end"), (.int (0))])]), none]
abbrev e_11_9 : Ent := [some (.int (11)), some (.tup [(.int (11)), (.tup [(.tup [(.int (0)), (.int (1))]), (.tup [(.int (1)), (.int (2))]), (.tup [(.int (2)), (.int (3))]), (.tup [(.int (3)), (.int (4))]), (.tup [(.int (4)), (.int (5))]), (.tup [(.int (5)), (.int (6))]), (.tup [(.int (6)), (.int (7))]), (.tup [(.int (7)), (.int (8))]), (.tup [(.int (8)), (.int (9))]), (.tup [(.int (9)), (.int (10))])]), (.tup [])]), some (.int (8)), some (.int (10)), some (.tup [(.int (7)), (.tup [(.int (7)), (.int (8))])]), some .non, some (.lst [(.tup [(.int (7)), (.tup [(.int (7)), (.int (8)), (.int (9))])]), (.tup [(.int (8)), (.tup [(.int (8))])])]), some (.tup [(.int (8)), (.tup [(.int (8)), (.int (9))])]), some (.lst [(.tup [(.int (7)), (.tup [(.int (7)), (.int (8))])]), .non, (.tup [(.tup [(.int (7)), (.tup [(.int (7)), (.int (8)), (.int (9))])]), (.tup [(.int (8)), (.tup [(.int (8))])])]), (.tup [(.str "end"), (.int (8))]), (.tup [(.str "end"), (.int (0))])]), none]
abbrev e_11_10 : Ent := [some (.int (11)), some (.tup [(.int (11)), (.tup [(.tup [(.int (0)), (.int (1))]), (.tup [(.int (1)), (.int (2))]), (.tup [(.int (2)), (.int (3))]), (.tup [(.int (3)), (.int (4))]), (.tup [(.int (4)), (.int (5))]), (.tup [(.int (5)), (.int (6))]), (.tup [(.int (6)), (.int (7))]), (.tup [(.int (7)), (.int (8))]), (.tup [(.int (8)), (.int (9))]), (.tup [(.int (9)), (.int (10))])]), (.tup [])]), some (.int (9)), some (.int (10)), some (.tup [(.int (8)), (.tup [(.int (8))])]), some .non, some (.lst [(.tup [(.int (8)), (.tup [(.int (8)), (.int (9))])]), (.tup [(.int (9)), (.tup [])])]), some (.tup [(.int (9)), (.tup [(.int (9))])]), some (.lst [(.tup [(.int (8)), (.tup [(.int (8))])]), .non, (.tup [(.tup [(.int (8)), (.tup [(.int (8)), (.int (9))])]), (.tup [(.int (9)), (.tup [])])]), (.tup [(.str "end"), (.int (9))]), (.tup [(.str "end"), (.int (0))])]), none]
abbrev e_11_11 : Ent := [some (.int (11)), some (.tup [(.int (11)), (.tup [(.tup [(.int (0)), (.int (1))]), (.tup [(.int (1)), (.int (2))]), (.tup [(.int (2)), (.int (3))]), (.tup [(.int (3)), (.int (4))]), (.tup [(.int (4)), (.int (5))]), (.tup [(.int (5)), (.int (6))]), (.tup [(.int (6)), (.int (7))]), (.tup [(.int (7)), (.int (8))]), (.tup [(.int (8)), (.int (9))]), (.tup [(.int (9)), (.int (10))])]), (.tup [])]), some (.int (10)), some (.int (10)), some (.tup [(.int (9)), (.tup [])]), some .non, some (.lst [(.tup [(.int (9)), (.tup [(.int (9))])])]), some (.tup [(.int (10)), (.tup [])]), some (.lst [(.tup [(.int (9)), (.tup [])]), .non, (.tup [(.tup [(.int (9)), (.tup [(.int (9))])])]), (.tup [(.str "end"), (.int (10))]), (.tup [(.str "end"), (.int (0))])]), none]
theorem lp_11 : bPl [some (.int 11), none, none, none, none, none, none, none, none, none] [] = .ok (.nx, e_11_0) [] := by kernel_rfl
theorem ln_11_0 : bIn (e_11_0.set 2 (some (.int 0))) [] = .ok (.nx, e_11_1) [] := by kernel_rfl
theorem ln_11_1 : bIn (e_11_1.set 2 (some (.int 1))) [] = .ok (.nx, e_11_2) [] := by kernel_rfl
theorem ln_11_2 : bIn (e_11_2.set 2 (some (.int 2))) [] = .ok (.nx, e_11_3) [] := by kernel_rfl
theorem ln_11_3 : bIn (e_11_3.set 2 (some (.int 3))) [] = .ok (.nx, e_11_4) [] := by kernel_rfl
theorem ln_11_4 : bIn (e_11_4.set 2 (some (.int 4))) [] = .ok (.nx, e_11_5) [] := by kernel_rfl
theorem ln_11_5 : bIn (e_11_5.set 2 (some (.int 5))) [] = .ok (.nx, e_11_6) [] := by kernel_rfl
theorem ln_11_6 : bIn (e_11_6.set 2 (some (.int 6))) [] = .ok (.nx, e_11_7) [] := by kernel_rfl
theorem ln_11_7 : bIn (e_11_7.set 2 (some (.int 7))) [] = .ok (.nx, e_11_8) [] := by kernel_rfl
theorem ln_11_8 : bIn (e_11_8.set 2 (some (.int 8))) [] = .ok (.nx, e_11_9) [] := by kernel_rfl
theorem ln_11_9 : bIn (e_11_9.set 2 (some (.int 9))) [] = .ok (.nx, e_11_10) [] := by kernel_rfl
theorem ln_11_10 : bIn (e_11_10.set 2 (some (.int 10))) [] = .ok (.nx, e_11_11) [] := by kernel_rfl
theorem fl_11 : sFor 1000 (iRg1 (eVar 0)) (tgN 2) bIn e_11_0 [] = .ok (.nx, e_11_11) [] := by
  refine (for_vals (ds := [.int 0, .int 1, .int 2, .int 3, .int 4, .int 5, .int 6, .int 7, .int 8, .int 9, .int 10]) (env := e_11_0) (st1 := []) (by kernel_rfl)).trans ?_
  exact ((fv_cons ln_11_0).trans ((fv_cons ln_11_1).trans ((fv_cons ln_11_2).trans ((fv_cons ln_11_3).trans ((fv_cons ln_11_4).trans ((fv_cons ln_11_5).trans ((fv_cons ln_11_6).trans ((fv_cons ln_11_7).trans ((fv_cons ln_11_8).trans ((fv_cons ln_11_9).trans ((fv_cons ln_11_10).trans rfl)))))))))))
theorem line_11 : okB (f__law_line_right [.int 11] []) = true := okB_run (n := 1) (N := 10) (f := b__law_line_right) (e := e_11_11) (st := []) (by
  show b__law_line_right [some (.int 11), none, none, none, none, none, none, none, none, none] [] = _
  exact (seq_nx (f := bPl) lp_11).trans ((seq_nx fl_11).trans (ret_ok rfl)))
theorem nf_11 : okB (f__law_noughts_right [.int 11, .bl false] []) = true := by decide +kernel
theorem nt_11 : okB (f__law_noughts_right [.int 11, .bl true] []) = true := by decide +kernel
abbrev e_12_0 : Ent := [some (.int (12)), some (.tup [(.int (12)), (.tup [(.tup [(.int (0)), (.int (1))]), (.tup [(.int (1)), (.int (2))]), (.tup [(.int (2)), (.int (3))]), (.tup [(.int (3)), (.int (4))]), (.tup [(.int (4)), (.int (5))]), (.tup [(.int (5)), (.int (6))]), (.tup [(.int (6)), (.int (7))]), (.tup [(.int (7)), (.int (8))]), (.tup [(.int (8)), (.int (9))]), (.tup [(.int (9)), (.int (10))]), (.tup [(.int (10)), (.int (11))])]), (.tup [])]), none, none, none, none, none, none, none, none]
abbrev e_12_1 : Ent := [some (.int (12)), some (.tup [(.int (12)), (.tup [(.tup [(.int (0)), (.int (1))]), (.tup [(.int (1)), (.int (2))]), (.tup [(.int (2)), (.int (3))]), (.tup [(.int (3)), (.int (4))]), (.tup [(.int (4)), (.int (5))]), (.tup [(.int (5)), (.int (6))]), (.tup [(.int (6)), (.int (7))]), (.tup [(.int (7)), (.int (8))]), (.tup [(.int (8)), (.int (9))]), (.tup [(.int (9)), (.int (10))]), (.tup [(.int (10)), (.int (11))])]), (.tup [])]), some (.int (0)), some (.int (11)), some .non, some .non, some (.lst [(.tup [(.int (0)), (.tup [(.int (0)), (.int (1)), (.int (2)), (.int (3)), (.int (4)), (.int (5)), (.int (6)), (.int (7)), (.int (8)), (.int (9))])])]), some (.tup [(.int (0)), (.tup [(.int (0)), (.int (1)), (.int (2)), (.int (3)), (.int (4)), (.int (5)), (.int (6)), (.int (7)), (.int (8)), (.int (9)), (.int (10))])]), some (.lst [.non, .non, (.tup [(.tup [(.int (0)), (.tup [(.int (0)), (.int (1)), (.int (2)), (.int (3)), (.int (4)), (.int (5)), (.int (6)), (.int (7)), (.int (8)), (.int (9))])])]), (.tup [(.str "end"), (.int (0))]), (.tup [(.str "end"), (.int (0))])]), none]
abbrev e_12_2 : Ent := [some (.int (12)), some (.tup [(.int (12)), (.tup [(.tup [(.int (0)), (.int (1))]), (.tup [(.int (1)), (.int (2))]), (.tup [(.int (2)), (.int (3))]), (.tup [(.int (3)), (.int (4))]), (.tup [(.int (4)), (.int (5))]), (.tup [(.int (5)), (.int (6))]), (.tup [(.int (6)), (.int (7))]), (.tup [(.int (7)), (.int (8))]), (.tup [(.int (8)), (.int (9))]), (.tup [(.int (9)), (.int (10))]), (.tup [(.int (10)), (.int (11))])]), (.tup [])]), some (.int (1)), some (.int (11)), some (.tup [(.int (0)), (.tup [(.int (0)), (.int (1)), (.int (2)), (.int (3)), (.int (4)), (.int (5)), (.int (6)), (.int (7)), (.int (8)), (.int (9))])]), some .non, some (.lst [(.tup [(.int (0)), (.tup [(.int (0)), (.int (1)), (.int (2)), (.int (3)), (.int (4)), (.int (5)), (.int (6)), (.int (7)), (.int (8)), (.int (9)), (.int (10))])]), (.tup [(.int (1)), (.tup [(.int (1)), (.int (2)), (.int (3)), (.int (4)), (.int (5)), (.int (6)), (.int (7)), (.int (8)), (.int (9))])])]), some (.tup [(.int (1)), (.tup [(.int (1)), (.int (2)), (.int (3)), (.int (4)), (.int (5)), (.int (6)), (.int (7)), (.int (8)), (.int (9)), (.int (10))])]), some (.lst [(.tup [(.int (0)), (.tup [(.int (0)), (.int (1)), (.int (2)), (.int (3)), (.int (4)), (.int (5)), (.int (6)), (.int (7)), (.int (8)), (.int (9))])]), .non, (.tup [(.tup [(.int (0)), (.tup [(.int (0)), (.int (1)), (.int (2)), (.int (3)), (.int (4)), (.int (5)), (.int (6)), (.int (7)), (.int (8)), (.int (9)), (.int (10))])]), (.tup [(.int (1)), (.tup [(.int (1)), (.int (2)), (.int (3)), (.int (4)), (.int (5)), (.int (6)), (.int (7)), (.int (8)), (.int (9))])])]), (.tup [(.str "end"), (.int (1))]), (.tup [(.str "end"), (.int (0))])]), none]
abbrev e_12_3 : Ent := [some (.int (12)), some (.tup [(.int (12)), (.tup [(.tup [(.int (0)), (.int (1))]), (.tup [(.int (1)), (.int (2))]), (.tup [(.int (2)), (.int (3))]), (.tup [(.int (3)), (.int (4))]), (.tup [(.int (4)), (.int (5))]), (.tup [(.int (5)), (.int (6))]), (.tup [(.int (6)), (.int (7))]), (.tup [(.int (7)), (.int (8))]), (.tup [(.int (8)), (.int (9))]), (.tup [(.int (9)), (.int (10))]), (.tup [(.int (10)), (.int (11))])]), (.tup [])]), some (.int (2)), some (.int (11)), some (.tup [(.int (1)), (.tup [(.int (1)), (.int (2)), (.int (3)), (.int (4)), (.int (5)), (.int (6)), (.int (7)), (.int (8)), (.int (9))])]), some .non, some (.lst [(.tup [(.int (1)), (.tup [(.int (1)), (.int (2)), (.int (3)), (.int (4)), (.int (5)), (.int (6)), (.int (7)), (.int (8)), (.int (9)), (.int (10))])]), (.tup [(.int (2)), (.tup [(.int (2)), (.int (3)), (.int (4)), (.int (5)), (.int (6)), (.int (7)), (.int (8)), (.int (9))])])]), some (.tup [(.int (2)), (.tup [(.int (2)), (.int (3)), (.int (4)), (.int (5)), (.int (6)), (.int (7)), (.int (8)), (.int (9)), (.int (10))])]), some (.lst [(.tup [(.int (1)), (.tup [(.int (1)), (.int (2)), (.int (3)), (.int (4)), (.int (5)), (.int (6)), (.int (7)), (.int (8)), (.int (9))])]), .non, (.tup [(.tup [(.int (1)), (.tup [(.int (1)), (.int (2)), (.int (3)), (.int (4)), (.int (5)), (.int (6)), (.int (7)), (.int (8)), (.int (9)), (.int (10))])]), (.tup [(.int (2)), (.tup [(.int (2)), (.int (3)), (.int (4)), (.int (5)), (.int (6)), (.int (7)), (.int (8)), (.int (9))])])]), (.tup [(.str "end"), (.int (2))]), (.tup [(.str "end"), (.int (0))])]), none]
abbrev e_12_4 : Ent := [some (.int (12)), some (.tup [(.int (12)), (.tup [(.tup [(.int (0)), (.int (1))]), (.tup [(.int (1)), (.int (2))]), (.tup [(.int (2)), (.int (3))]), (.tup [(.int (3)), (.int (4))]), (.tup [(.int (4)), (.int (5))]), (.tup [(.int (5)), (.int (6))]), (.tup [(.int (6)), (.int (7))]), (.tup [(.int (7)), (.int (8))]), (.tup [(.int (8)), (.int (9))]), (.tup [(.int (9)), (.int (10))]), (.tup [(.int (10)), (.int (11))])]), (.tup [])]), some (.int (3)), some (.int (11)), some (.tup [(.int (2)), (.tup [(.int (2)), (.int (3)), (.int (4)), (.int (5)), (.int (6)), (.int (7)), (.int (8)), (.int (9))])]), some .non, some (.lst [(.tup [(.int (2)), (.tup [(.int (2)), (.int (3)), (.int (4)), (.int (5)), (.int (6)), (.int (7)), (.int (8)), (.int (9)), (.int (10))])]), (.tup [(.int (3)), (.tup [(.int (3)), (.int (4)), (.int (5)), (.int (6)), (.int (7)), (.int (8)), (.int (9))])])]), some (.tup [(.int (3)), (.tup [(.int (3)), (.int (4)), (.int (5)), (.int (6)), (.int (7)), (.int (8)), (.int (9)), (.int (10))])]), some (.lst [(.tup [(.int (2)), (.tup [(.int (2)), (.int (3)), (.int (4)), (.int (5)), (.int (6)), (.int (7)), (.int (8)), (.int (9))])]), .non, (.tup [(.tup [(.int (2)), (.tup [(.int (2)), (.int (3)), (.int (4)), (.int (5)), (.int (6)), (.int (7)), (.int (8)), (.int (9)), (.int (10))])]), (.tup [(.int (3)), (.tup [(.int (3)), (.int (4)), (.int (5)), (.int (6)), (.int (7)), (.int (8)), (.int (9))])])]), (.tup [(.str "end"), (.int (3))]), (.tup [(.str "end"), (.int (0))])]), none]
abbrev e_12_5 : Ent := [some (.int (12)), some (.tup [(.int (12)), (.tup [(.tup [(.int (0)), (.int (1))]), (.tup [(.int (1)), (.int (2))]), (.tup [(.int (2)), (.int (3))]), (.tup [(.int (3)), (.int (4))]), (.tup [(.int (4)), (.int (5))]), (.tup [(.int (5)), (.int (6))]), (.tup [(.int (6)), (.int (7))]), (.tup [(.int (7)), (.int (8))]), (.tup [(.int (8)), (.int (9))]), (.tup [(.int (9)), (.int (10))]), (.tup [(.int (10)), (.int (11))])]), (.tup [])]), some (.int (4)), some (.int (11)), some (.tup [(.int (3)), (.tup [(.int (3)), (.int (4)), (.int (5)), (.int (6)), (.int (7)), (.int (8)), (.int (9))])]), some .non, some (.lst [(.tup [(.int (3)), (.tup [(.int (3)), (.int (4)), (.int (5)), (.int (6)), (.int (7)), (.int (8)), (.int (9)), (.int (10))])]), (.tup [(.int (4)), (.tup [(.int (4)), (.int (5)), (.int (6)), (.int (7)), (.int (8)), (.int (9))])])]), some (.tup [(.int (4)), (.tup [(.int (4)), (.int (5)), (.int (6)), (.int (7)), (.int (8)), (.int (9)), (.int (10))])]), some (.lst [(.tup [(.int (3)), (.tup [(.int (3)), (.int (4)), (.int (5)), (.int (6)), (.int (7)), (.int (8)), (.int (9))])]), .non, (.tup [(.tup [(.int (3)), (.tup [(.int (3)), (.int (4)), (.int (5)), (.int (6)), (.int (7)), (.int (8)), (.int (9)), (.int (10))])]), (.tup [(.int (4)), (.tup [(.int (4)), (.int (5)), (.int (6)), (.int (7)), (.int (8)), (.int (9))])])]), (.tup [(.str "end"), (.int (4))]), (.tup [(.str "end"), (.int (0))])]), none]
abbrev e_12_6 : Ent := [some (.int (12)), some (.tup [(.int (12)), (.tup [(.tup [(.int (0)), (.int (1))]), (.tup [(.int (1)), (.int (2))]), (.tup [(.int (2)), (.int (3))]), (.tup [(.int (3)), (.int (4))]), (.tup [(.int (4)), (.int (5))]), (.tup [(.int (5)), (.int (6))]), (.tup [(.int (6)), (.int (7))]), (.tup [(.int (7)), (.int (8))]), (.tup [(.int (8)), (.int (9))]), (.tup [(.int (9)), (.int (10))]), (.tup [(.int (10)), (.int (11))])]), (.tup [])]), some (.int (5)), some (.int (11)), some (.tup [(.int (4)), (.tup [(.int (4)), (.int (5)), (.int (6)), (.int (7)), (.int (8)), (.int (9))])]), some .non, some (.lst [(.tup [(.int (4)), (.tup [(.int (4)), (.int (5)), (.int (6)), (.int (7)), (.int (8)), (.int (9)), (.int (10))])]), (.tup [(.int (5)), (.tup [(.int (5)), (.int (6)), (.int (7)), (.int (8)), (.int (9))])])]), some (.tup [(.int (5)), (.tup [(.int (5)), (.int (6)), (.int (7)), (.int (8)), (.int (9)), (.int (10))])]), some (.lst [(.tup [(.int (4)), (.tup [(.int (4)), (.int (5)), (.int (6)), (.int (7)), (.int (8)), (.int (9))])]), .non, (.tup [(.tup [(.int (4)), (.tup [(.int (4)), (.int (5)), (.int (6)), (.int (7)), (.int (8)), (.int (9)), (.int (10))])]), (.tup [(.int (5)), (.tup [(.int (5)), (.int (6)), (.int (7)), (.int (8)), (.int (9))])])]), (.tup [(.str "end"), (.int (5))]), (.tup [(.str "end"), (.int (0))])]), none]
abbrev e_12_7 : Ent := [some (.int (12)), some (.tup [(.int (12)), (.tup [(.tup [(.int (0)), (.int (1))]), (.tup [(.int (1)), (.int (2))]), (.tup [(.int (2)), (.int (3))]), (.tup [(.int (3)), (.int (4))]), (.tup [(.int (4)), (.int (5))]), (.tup [(.int (5)), (.int (6))]), (.tup [(.int (6)), (.int (7))]), (.tup [(.int (7)), (.int (8))]), (.tup [(.int (8)), (.int (9))]), (.tup [(.int (9)), (.int (10))]), (.tup [(.int (10)), (.int (11))])]), (.tup [])]), some (.int (6)), some (.int (11)), some (.tup [(.int (5)), (.tup [(.int (5)), (.int (6)), (.int (7)), (.int (8)), (.int (9))])]), some .non, some (.lst [(.tup [(.int (5)), (.tup [(.int (5)), (.int (6)), (.int (7)), (.int (8)), (.int (9)), (.int (10))])]), (.tup [(.int (6)), (.tup [(.int (6)), (.int (7)), (.int (8)), (.int (9))])])]), some (.tup [(.int (6)), (.tup [(.int (6)), (.int (7)), (.int (8)), (.int (9)), (.int (10))])]), some (.lst [(.tup [(.int (5)), (.tup [(.int (5)), (.int (6)), (.int (7)), (.int (8)), (.int (9))])]), .non, (.tup [(.tup [(.int (5)), (.tup [(.int (5)), (.int (6)), (.int (7)), (.int (8)), (.int (9)), (.int (10))])]), (.tup [(.int (6)), (.tup [(.int (6)), (.int (7)), (.int (8)), (.int (9))])])]), (.tup [(.str "end"), (.int (6))]), (.tup [(.str "end"), (.int (0))])]), none]
abbrev e_12_8 : Ent := [some (.int (12)), some (.tup [(.int (12)), (.tup [(.tup [(.int (0)), (.int (1))]), (.tup [(.int (1)), (.int (2))]), (.tup [(.int (2)), (.int (3))]), (.tup [(.int (3)), (.int (4))]), (.tup [(.int (4)), (.int (5))]), (.tup [(.int (5)), (.int (6))]), (.tup [(.int (6)), (.int (7))]), (.tup [(.int (7)), (.int (8))]), (.tup [(.int (8)), (.int (9))]), (.tup [(.int (9)), (.int (10))]), (.tup [(.int (10)), (.int (11))])]), (.tup [])]), some (.int (7)), some (.int (11)), some (.tup [(.int (6)), (.tup [(.int (6)), (.int (7)), (.int (8)), (.int (9))])]), some .non, some (.lst [(.tup [(.int (6)), (.tup [(.int (6)), (.int (7)), (.int (8)), (.int (9)), (.int (10))])]), (.tup [(.int (7)), (.tup [(.int (7)), (.int (8)), (.int (9))])])]), some (.tup [(.int (7)), (.tup [(.int (7)), (.int (8)), (.int (9)), (.int (10))])]), some (.lst [(.tup [(.int (6)), (.tup [(.int (6)), (.int (7)), (.int (8)), (.int (9))])]), .non, (.tup [(.tup [(.int (6)), (.tup [(.int (6)), (.int (7)), (.int (8)), (.int (9)), (.int (10))])]), (.tup [(.int (7)), (.tup [(.int (7)), (.int (8)), (.int (9))])])]), (.tup [(.str "end"), (.int (7))]), (.tup [(.str "end"), (.int (0))])]), none]
abbrev e_12_9 : Ent := [some (.int (12)), some (.tup [(.int (12)), (.tup [(.tup [(.int (0)), (.int (1))]), (.tup [(.int (1)), (.int (2))]), (.tup [(.int (2)), (.int (3))]), (.tup [(.int (3)), (.int (4))]), (.tup [(.int (4)), (.int (5))]), (.tup [(.int (5)), (.int (6))]), (.tup [(.int (6)), (.int (7))]), (.tup [(.int (7)), (.int (8))]), (.tup [(.int (8)), (.int (9))]), (.tup [(.int (9)), (.int (10))]), (.tup [(.int (10)), (.int (11))])]), (.tup [])]), some (.int (8)), some (.int (11)), some (.tup [(.int (7)), (.tup [(.int (7)), (.int (8)), (.int (9))])]), some .non, some (.lst [(.tup [(.int (7)), (.tup [(.int (7)), (.int (8)), (.int (9)), (.int (10))])]), (.tup [(.int (8)), (.tup [(.int (8)), (.int (9))])])]), some (.tup [(.int (8)), (.tup [(.int (8)), (.int (9)), (.int (10))])]), some (.lst [(.tup [(.int (7)), (.tup [(.int (7)), (.int (8)), (.int (9))])]), .non, (.tup [(.tup [(.int (7)), (.tup [(.int (7)), (.int (8)), (.int (9)), (.int (10))])]), (.tup [(.int (8)), (.tup [(.int (8)), (.int (9))])])]), (.tup [(.str "end"), (.int (8))]), (.tup [(.str "end"), (.int (0))])]), none]
abbrev e_12_10 : Ent := [some (.int (12)), some (.tup [(.int (12)), (.tup [(.tup [(.int (0)), (.int (1))]), (.tup [(.int (1)), (.int (2))]), (.tup [(.int (2)), (.int (3))]), (.tup [(.int (3)), (.int (4))]), (.tup [(.int (4)), (.int (5))]), (.tup [(.int (5)), (.int (6))]), (.tup [(.int (6)), (.int (7))]), (.tup [(.int (7)), (.int (8))]), (.tup [(.int (8)), (.int (9))]), (.tup [(.int (9)), (.int (10))]), (.tup [(.int (10)), (.int (11))])]), (.tup [])]), some (.int (9)), some (.int (11)), some (.tup [(.int (8)), (.tup [(.int (8)), (.int (9))])]), some .non, some (.lst [(.tup [(.int (8)), (.tup [(.int (8)), (.int (9)), (.int (10))])]), (.tup [(.int (9)), (.tup [(.int (9))])])]), some (.tup [(.int (9)), (.tup [(.int (9)), (.int (10))])]), some (.lst [(.tup [(.int (8)), (.tup [(.int (8)), (.int (9))])]), .non, (.tup [(.tup [(.int (8)), (.tup [(.int (8)), (.int (9)), (.int (10))])]), (.tup [(.int (9)), (.tup [(.int (9))])])]), (.tup [(.str "end"), (.int (9))]), (.tup [(.str "end"), (.int (0))])]), none]
abbrev e_12_11 : Ent := [some (.int (12)), some (.tup [(.int (12)), (.tup [(.tup [(.int (0)), (.int (1))]), (.tup [(.int (1)), (.int (2))]), (.tup [(.int (2)), (.int (3))]), (.tup [(.int (3)), (.int (4))]), (.tup [(.int (4)), (.int (5))]), (.tup [(.int (5)), (.int (6))]), (.tup [(.int (6)), (.int (7))]), (.tup [(.int (7)), (.int (8))]), (.tup [(.int (8)), (.int (9))]), (.tup [(.int (9)), (.int (10))]), (.tup [(.int (10)), (.int (11))])]), (.tup [])]), some (.int (10)), some (.int (11)), some (.tup [(.int (9)), (.tup [(.int (9))])]), some .non, some (.lst [(.tup [(.int (9)), (.tup [(.int (9)), (.int (10))])]), (.tup [(.int (10)), (.tup [])])]), some (.tup [(.int (10)), (.tup [(.int (10))])]), some (.lst [(.tup [(.int (9)), (.tup [(.int (9))])]), .non, (.tup [(.tup [(.int (9)), (.tup [(.int (9)), (.int (10))])]), (.tup [(.int (10)), (.tup [])])]), (.tup [(.str "end"), (.int (10))]), (.tup [(.str "end"), (.int (0))])]), none]
abbrev e_12_12 : Ent := [some (.int (12)), some (.tup [(.int (12)), (.tup [(.tup [(.int (0)), (.int (1))]), (.tup [(.int (1)), (.int (2))]), (.tup [(.int (2)), (.int (3))]), (.tup [(.int (3)), (.int (4))]), (.tup [(.int (4)), (.int (5))]), (.tup [(.int (5)), (.int (6))]), (.tup [(.int (6)), (.int (7))]), (.tup [(.int (7)), (.int (8))]), (.tup [(.int (8)), (.int (9))]), (.tup [(.int (9)), (.int (10))]), (.tup [(.int (10)), (.int (11))])]), (.tup [])]), some (.int (11)), some (.int (11)), some (.tup [(.int (10)), (.tup [])]), some .non, some (.lst [(.tup [(.int (10)), (.tup [(.int (10))])])]), some (.tup [(.int (11)), (.tup [])]), some (.lst [(.tup [(.int (10)), (.tup [])]), .non, (.tup [(.tup [(.int (10)), (.tup [(.int (10))])])]), (.tup [(.str "end"), (.int (11))]), (.tup [(.str "end"), (.int (0))])]), none]
theorem lp_12 : bPl [some (.int 12), none, none, none, none, none, none, none, none, none] [] = .ok (.nx, e_12_0) [] := by kernel_rfl
theorem ln_12_0 : bIn (e_12_0.set 2 (some (.int 0))) [] = .ok (.nx, e_12_1) [] := by kernel_rfl
theorem ln_12_1 : bIn (e_12_1.set 2 (some (.int 1))) [] = .ok (.nx, e_12_2) [] := by kernel_rfl
theorem ln_12_2 : bIn (e_12_2.set 2 (some (.int 2))) [] = .ok (.nx, e_12_3) [] := by kernel_rfl
theorem ln_12_3 : bIn (e_12_3.set 2 (some (.int 3))) [] = .ok (.nx, e_12_4) [] := by kernel_rfl
theorem ln_12_4 : bIn (e_12_4.set 2 (some (.int 4))) [] = .ok (.nx, e_12_5) [] := by kernel_rfl
theorem ln_12_5 : bIn (e_12_5.set 2 (some (.int 5))) [] = .ok (.nx, e_12_6) [] := by kernel_rfl
theorem ln_12_6 : bIn (e_12_6.set 2 (some (.int 6))) [] = .ok (.nx, e_12_7) [] := by kernel_rfl
theorem ln_12_7 : bIn (e_12_7.set 2 (some (.int 7))) [] = .ok (.nx, e_12_8) [] := by kernel_rfl
theorem ln_12_8 : bIn (e_12_8.set 2 (some (.int 8))) [] = .ok (.nx, e_12_9) [] := by kernel_rfl
theorem ln_12_9 : bIn (e_12_9.set 2 (some (.int 9))) [] = .ok (.nx, e_12_10) [] := by kernel_rfl
theorem ln_12_10 : bIn (e_12_10.set 2 (some (.int 10))) [] = .ok (.nx, e_12_11) [] := by kernel_rfl
theorem ln_12_11 : bIn (e_12_11.set 2 (some (.int 11))) [] = .ok (.nx, e_12_12) [] := by kernel_rfl
theorem fl_12 : sFor 1000 (iRg1 (eVar 0)) (tgN 2) bIn e_12_0 [] = .ok (.nx, e_12_12) [] := by
  refine (for_vals (ds := [.int 0, .int 1, .int 2, .int 3, .int 4, .int 5, .int 6, .int 7, .int 8, .int 9, .int 10, .int 11]) (env := e_12_0) (st1 := []) (by kernel_rfl)).trans ?_
  exact ((fv_cons ln_12_0).trans ((fv_cons ln_12_1).trans ((fv_cons ln_12_2).trans ((fv_cons ln_12_3).trans ((fv_cons ln_12_4).trans ((fv_cons ln_12_5).trans ((fv_cons ln_12_6).trans ((fv_cons ln_12_7).trans ((fv_cons ln_12_8).trans ((fv_cons ln_12_9).trans ((fv_cons ln_12_10).trans ((fv_cons ln_12_11).trans rfl))))))))))))
theorem line_12 : okB (f__law_line_right [.int 12] []) = true := okB_run (n := 1) (N := 10) (f := b__law_line_right) (e := e_12_12) (st := []) (by
  show b__law_line_right [some (.int 12), none, none, none, none, none, none, none, none, none] [] = _
  exact (seq_nx (f := bPl) lp_12).trans ((seq_nx fl_12).trans (ret_ok rfl)))
theorem nf_12 : okB (f__law_noughts_right [.int 12, .bl false] []) = true := by decide +kernel
theorem nt_12 : okB (f__law_noughts_right [.int 12, .bl true] []) = true := by decide +kernel
def three (n : Int) : Bool := okB (f__law_line_right [.int n] []) && (okB (f__law_noughts_right [.int n, .bl false] []) && okB (f__law_noughts_right [.int n, .bl true] []))
theorem three_of {n : Int} (h1 : okB (f__law_line_right [.int n] []) = true) (h2 : okB (f__law_noughts_right [.int n, .bl false] []) = true) (h3 : okB (f__law_noughts_right [.int n, .bl true] []) = true) : three n = true := by
  unfold three
  rw [h1, h2, h3]
  rfl
theorem three_1 : three 1 = true := three_of line_1 nf_1 nt_1
theorem three_2 : three 2 = true := three_of line_2 nf_2 nt_2
theorem three_3 : three 3 = true := three_of line_3 nf_3 nt_3
theorem three_4 : three 4 = true := three_of line_4 nf_4 nt_4
theorem three_5 : three 5 = true := three_of line_5 nf_5 nt_5
theorem three_6 : three 6 = true := three_of line_6 nf_6 nt_6
theorem three_7 : three 7 = true := three_of line_7 nf_7 nt_7
theorem three_8 : three 8 = true := three_of line_8 nf_8 nt_8
theorem three_9 : three 9 = true := three_of line_9 nf_9 nt_9
theorem three_10 : three 10 = true := three_of line_10 nf_10 nt_10
theorem three_11 : three 11 = true := three_of line_11 nf_11 nt_11
theorem three_12 : three 12 = true := three_of line_12 nf_12 nt_12
end FK

set_option Elab.async false
set_option linter.all false
set_option maxRecDepth 100000
namespace FK
open DL
theorem three_all {v : Int} (h0 : 0 ≤ v) (h1 : v < 12) : three (1 + v) = true := by
  have : v = 0 ∨ v = 1 ∨ v = 2 ∨ v = 3 ∨ v = 4 ∨ v = 5 ∨ v = 6 ∨ v = 7 ∨ v = 8 ∨ v = 9 ∨ v = 10 ∨ v = 11 := by omega
  rcases this with rfl | rfl | rfl | rfl | rfl | rfl | rfl | rfl | rfl | rfl | rfl | rfl
  · exact three_1
  · exact three_2
  · exact three_3
  · exact three_4
  · exact three_5
  · exact three_6
  · exact three_7
  · exact three_8
  · exact three_9
  · exact three_10
  · exact three_11
  · exact three_12
theorem okB_app {g : List D → Store → R D} {ds : List D} (hp : purs ds = true) (h : okB (g ds []) = true) : appP g ds = some (.bl true) := by
  unfold appP
  rw [if_pos hp]
  cases e : g ds [] with
  | ok d st =>
    rw [e] at h
    cases d with
    | bl b => cases b with
      | true => rfl
      | false => cases h
    | _ => cases h
  | ex _ _ _ => rw [e] at h; cases h
  | no => rw [e] at h; cases h
abbrev bMany : EvT := sIf (tOrD (tNotD (tTru (eCallP f__law_line_right (aCons (eVar 3) aNil)))) (tOrD (tNotD (tTru (eCallP f__law_noughts_right (aCons (eVar 3) (aCons (eC (.bl false)) aNil))))) (tNotD (tTru (eCallP f__law_noughts_right (aCons (eVar 3) (aCons (eC (.bl true)) aNil))))))) (sRet (eC (.bl false))) sNx
theorem many_ok {a b c : Option D} {n : Int} {st : Store} (h : three n = true) : bMany [a, b, c, some (.int n)] st = .ok (.nx, [a, b, c, some (.int n)]) st := by
  unfold three at h
  simp only [Bool.and_eq_true] at h
  obtain ⟨h1, h2, h3⟩ := h
  have e1 := okB_app (g := f__law_line_right) rfl h1
  have e2 := okB_app (g := f__law_noughts_right) rfl h2
  have e3 := okB_app (g := f__law_noughts_right) rfl h3
  have q1 : eCallP f__law_line_right (aCons (eVar 3) aNil) [a, b, c, some (.int n)] st = .ok (.bl true) st := by
    show R.ofO (appP f__law_line_right [.int n]) st = _
    rw [e1]
    rfl
  have q2 : eCallP f__law_noughts_right (aCons (eVar 3) (aCons (eC (.bl false)) aNil)) [a, b, c, some (.int n)] st = .ok (.bl true) st := by
    show R.ofO (appP f__law_noughts_right [.int n, .bl false]) st = _
    rw [e2]
    rfl
  have q3 : eCallP f__law_noughts_right (aCons (eVar 3) (aCons (eC (.bl true)) aNil)) [a, b, c, some (.int n)] st = .ok (.bl true) st := by
    show R.ofO (appP f__law_noughts_right [.int n, .bl true]) st = _
    rw [e3]
    rfl
  refine if_f ?_
  have t : ∀ {f : Ev} {env : Ent}, f env st = .ok (.bl true) st → tNotD (tTru f) env st = .ok false st := fun {f env} e => by
    unfold tNotD tTru
    rw [e]
    rfl
  have o : ∀ {p q : EvB} {env : Ent}, p env st = .ok false st → q env st = .ok false st → tOrD p q env st = .ok false st := fun {p q env} e e' => by
    unfold tOrD
    rw [e]
    exact e'
  exact o (t q1) (o (t q2) (t q3))
theorem law_true (ns : List Int) (hn : ns.length ≤ 63) : ∃ st, f_law [.lst (zs ns)] [] = .ok (.bl true) st := by
  obtain ⟨L, S, hL, eb⟩ := begun ns hn
  have ez : zs ns ++ [.int 11] = zs (ns ++ [11]) := by simp [zs]
  rw [ez] at eb
  obtain ⟨v, L', sp', ed, v0, v1, _⟩ := draw (st := [mD L S (zs (ns ++ [11])) 0]) (n := 0) (b := 12) rfl hL (Int.le_refl _) (by decide) (by simp) (by decide) (by decide)
  generalize hst : [mD L S (zs (ns ++ [11])) 0].set 0 (mD L' S (zs (ns ++ [11])) sp') = st2 at ed
  refine ⟨st2, ?_⟩
  have h1 : eCallR f__law_begun (aCons (eVar 0) (aCons (eC (.int 0)) aNil)) [some (.lst (zs ns)), none, none, none] [] = .ok (.ref 0) [mD L S (zs (ns ++ [11])) 0] := by
    show f__law_begun [.lst (zs ns), .int 0] [] = _
    exact eb
  have h2 : eCallR f__law_draw (aCons (eVar 1) (aCons (eC (.int 12)) aNil)) [some (.lst (zs ns)), some (.ref 0), none, none] [mD L S (zs (ns ++ [11])) 0] = .ok (.int v) st2 := ed
  have hb : b_law [some (.lst (zs ns)), none, none, none] [] = .ok (.rt (.bl true), [some (.lst (zs ns)), some (.ref 0), some (.int (1 + v)), some (.int (1 + v))]) st2 := by
    refine (seq_nx (asg_ok h1)).trans ?_
    refine (seq_nx (asg_ok (op_ok (f := eC (.int 1)) rfl h2 add_i))).trans ?_
    refine (seq_nx (env1 := [some (.lst (zs ns)), some (.ref 0), some (.int (1 + v)), some (.int (1 + v))]) (st1 := st2) ?_).trans (ret_ok rfl)
    have e0 : (eTup (aCons (eC (.int 1)) (aCons (eC (.int 2)) (aCons (eC (.int 3)) (aCons (eVar 2) aNil))))) [some (.lst (zs ns)), some (.ref 0), some (.int (1 + v)), none] st2 = .ok (.tup [.int 1, .int 2, .int 3, .int (1 + v)]) st2 := rfl
    show forVals (tgN 3) bMany [.int 1, .int 2, .int 3, .int (1 + v)] [some (.lst (zs ns)), some (.ref 0), some (.int (1 + v)), none] st2 = _
    have one : ∀ (n : Int) (x : Option D) (ds : List D), three n = true → forVals (tgN 3) bMany (.int n :: ds) [some (.lst (zs ns)), some (.ref 0), some (.int (1 + v)), x] st2 = forVals (tgN 3) bMany ds [some (.lst (zs ns)), some (.ref 0), some (.int (1 + v)), some (.int n)] st2 := fun n x ds h => by
      show (bMany [some (.lst (zs ns)), some (.ref 0), some (.int (1 + v)), some (.int n)] st2).bind _ = _
      rw [many_ok h]
      rfl
    rw [one 1 _ _ three_1, one 2 _ _ three_2, one 3 _ _ three_3, one (1 + v) _ _ (three_all v0 v1)]
    rfl
  unfold f_law runF
  show (b_law [some (.lst (zs ns)), none, none, none] []).bind _ = _
  rw [hb]
  rfl
end FK

namespace FK
section
open PySem PySem.Spec PyProof.Rows L2 DL HeadK
def WdOf (K : PySem.W.Frag) : Wd := ⟨fun i => He.fAd K ((fn.map He.DefD.at_).getD i ("", none)), fun _ _ _ _ _ _ => False⟩
theorem facts {P : Program} {w : World} {K : PySem.W.Frag} {h : Heap} {mg : PySem.Str → Option Value} {f a : Addr} (X : K.In h) (G : h.Ns mainGlobals mg) (hfa : mg ("law" : PySem.Str) = some (.ref f)) (c : He.SaysD fa fn K) (no : NoFn K a) :
    ∃ fd : FuncData, (∀ (s : Shared) (v : Value), BindsTo s fd ⟨[v], []⟩ [("_law_script", v)]) ∧ ∀ base : Heap, GOk P w (less K a) mg base (L2.CX P w) 12 f fd ["_law_script"] (spD (WdOf K) 1 f_law) := by
  have m__law_begun : mg "_law_begun" = some (.ref ((WdOf K).F 34)) := He.glo_ok X G (c.fact 34 (f := .glo "_law_begun") rfl)
  have m__law_draw : mg "_law_draw" = some (.ref ((WdOf K).F 35)) := He.glo_ok X G (c.fact 35 (f := .glo "_law_draw") rfl)
  have m__law_stretch : mg "_law_stretch" = some (.ref ((WdOf K).F 41)) := He.glo_ok X G (c.fact 41 (f := .glo "_law_stretch") rfl)
  have m_arrows_into : mg "arrows_into" = some (.ref ((WdOf K).F 13)) := He.glo_ok X G (c.fact 13 (f := .glo "arrows_into") rfl)
  have m_ends_of : mg "ends_of" = some (.ref ((WdOf K).F 0)) := He.glo_ok X G (c.fact 0 (f := .glo "ends_of") rfl)
  have m_end_of : mg "end_of" = some (.ref ((WdOf K).F 9)) := He.glo_ok X G (c.fact 9 (f := .glo "end_of") rfl)
  have m_turned : mg "turned" = some (.ref ((WdOf K).F 10)) := He.glo_ok X G (c.fact 10 (f := .glo "turned") rfl)
  have m_next_of : mg "next_of" = some (.ref ((WdOf K).F 1)) := He.glo_ok X G (c.fact 1 (f := .glo "next_of") rfl)
  have m_other_ended : mg "other_ended" = some (.ref ((WdOf K).F 4)) := He.glo_ok X G (c.fact 4 (f := .glo "other_ended") rfl)
  have m_other_begun : mg "other_begun" = some (.ref ((WdOf K).F 3)) := He.glo_ok X G (c.fact 3 (f := .glo "other_begun") rfl)
  have m_ahead_of : mg "ahead_of" = some (.ref ((WdOf K).F 2)) := He.glo_ok X G (c.fact 2 (f := .glo "ahead_of") rfl)
  have m_followers : mg "followers" = some (.ref ((WdOf K).F 6)) := He.glo_ok X G (c.fact 6 (f := .glo "followers") rfl)
  have m_may_follow : mg "may_follow" = some (.ref ((WdOf K).F 7)) := He.glo_ok X G (c.fact 7 (f := .glo "may_follow") rfl)
  have m_right_arrow : mg "right_arrow" = some (.ref ((WdOf K).F 15)) := He.glo_ok X G (c.fact 15 (f := .glo "right_arrow") rfl)
  have m_end_arrows : mg "end_arrows" = some (.ref ((WdOf K).F 16)) := He.glo_ok X G (c.fact 16 (f := .glo "end_arrows") rfl)
  have m_mate_of : mg "mate_of" = some (.ref ((WdOf K).F 5)) := He.glo_ok X G (c.fact 5 (f := .glo "mate_of") rfl)
  have m_hook_row : mg "hook_row" = some (.ref ((WdOf K).F 14)) := He.glo_ok X G (c.fact 14 (f := .glo "hook_row") rfl)
  have m_hooks : mg "hooks" = some (.ref ((WdOf K).F 17)) := He.glo_ok X G (c.fact 17 (f := .glo "hooks") rfl)
  have m_hooked_right : mg "hooked_right" = some (.ref ((WdOf K).F 21)) := He.glo_ok X G (c.fact 21 (f := .glo "hooked_right") rfl)
  have m_hooked_left : mg "hooked_left" = some (.ref ((WdOf K).F 22)) := He.glo_ok X G (c.fact 22 (f := .glo "hooked_left") rfl)
  have m_first_against : mg "first_against" = some (.ref ((WdOf K).F 19)) := He.glo_ok X G (c.fact 19 (f := .glo "first_against") rfl)
  have m_piece : mg "piece" = some (.ref ((WdOf K).F 20)) := He.glo_ok X G (c.fact 20 (f := .glo "piece") rfl)
  have m_one_end : mg "one_end" = some (.ref ((WdOf K).F 23)) := He.glo_ok X G (c.fact 23 (f := .glo "one_end") rfl)
  have m_last_along : mg "last_along" = some (.ref ((WdOf K).F 18)) := He.glo_ok X G (c.fact 18 (f := .glo "last_along") rfl)
  have m_forth_walk : mg "forth_walk" = some (.ref ((WdOf K).F 24)) := He.glo_ok X G (c.fact 24 (f := .glo "forth_walk") rfl)
  have m_string_of : mg "string_of" = some (.ref ((WdOf K).F 11)) := He.glo_ok X G (c.fact 11 (f := .glo "string_of") rfl)
  have m_forth : mg "forth" = some (.ref ((WdOf K).F 25)) := He.glo_ok X G (c.fact 25 (f := .glo "forth") rfl)
  have m_turned_plan : mg "turned_plan" = some (.ref ((WdOf K).F 8)) := He.glo_ok X G (c.fact 8 (f := .glo "turned_plan") rfl)
  have m_in_turned_plan : mg "in_turned_plan" = some (.ref ((WdOf K).F 12)) := He.glo_ok X G (c.fact 12 (f := .glo "in_turned_plan") rfl)
  have m_back : mg "back" = some (.ref ((WdOf K).F 26)) := He.glo_ok X G (c.fact 26 (f := .glo "back") rfl)
  have m_right_done : mg "right_done" = some (.ref ((WdOf K).F 27)) := He.glo_ok X G (c.fact 27 (f := .glo "right_done") rfl)
  have m_middle_walks : mg "middle_walks" = some (.ref ((WdOf K).F 28)) := He.glo_ok X G (c.fact 28 (f := .glo "middle_walks") rfl)
  have m_middle : mg "middle" = some (.ref ((WdOf K).F 29)) := He.glo_ok X G (c.fact 29 (f := .glo "middle") rfl)
  have m_road_by : mg "road_by" = some (.ref ((WdOf K).F 31)) := He.glo_ok X G (c.fact 31 (f := .glo "road_by") rfl)
  have m_road : mg "road" = some (.ref ((WdOf K).F 32)) := He.glo_ok X G (c.fact 32 (f := .glo "road") rfl)
  have m_road_back : mg "road_back" = some (.ref ((WdOf K).F 33)) := He.glo_ok X G (c.fact 33 (f := .glo "road_back") rfl)
  have m__law_like : mg "_law_like" = some (.ref ((WdOf K).F 36)) := He.glo_ok X G (c.fact 36 (f := .glo "_law_like") rfl)
  have m_almost_split : mg "almost_split" = some (.ref ((WdOf K).F 30)) := He.glo_ok X G (c.fact 30 (f := .glo "almost_split") rfl)
  have m__law_line_right : mg "_law_line_right" = some (.ref ((WdOf K).F 42)) := He.glo_ok X G (c.fact 42 (f := .glo "_law_line_right") rfl)
  have m__law_ends : mg "_law_ends" = some (.ref ((WdOf K).F 37)) := He.glo_ok X G (c.fact 37 (f := .glo "_law_ends") rfl)
  have m__law_points : mg "_law_points" = some (.ref ((WdOf K).F 38)) := He.glo_ok X G (c.fact 38 (f := .glo "_law_points") rfl)
  have m__law_turned : mg "_law_turned" = some (.ref ((WdOf K).F 39)) := He.glo_ok X G (c.fact 39 (f := .glo "_law_turned") rfl)
  have m__law_string : mg "_law_string" = some (.ref ((WdOf K).F 40)) := He.glo_ok X G (c.fact 40 (f := .glo "_law_string") rfl)
  have m__law_noughts_right : mg "_law_noughts_right" = some (.ref ((WdOf K).F 43)) := He.glo_ok X G (c.fact 43 (f := .glo "_law_noughts_right") rfl)
  have m_law : mg "law" = some (.ref ((WdOf K).F 44)) := He.glo_ok X G (c.fact 44 (f := .glo "law") rfl)
  have g_enumerate := He.free_ok X G (c.fact 45 (f := .free "enumerate") rfl)
  have g_int := He.free_ok X G (c.fact 46 (f := .free "int") rfl)
  have g_len := He.free_ok X G (c.fact 47 (f := .free "len") rfl)
  have g_max := He.free_ok X G (c.fact 48 (f := .free "max") rfl)
  have g_min := He.free_ok X G (c.fact 49 (f := .free "min") rfl)
  have g_range := He.free_ok X G (c.fact 50 (f := .free "range") rfl)
  have g_repr := He.free_ok X G (c.fact 51 (f := .free "repr") rfl)
  have g_reversed := He.free_ok X G (c.fact 52 (f := .free "reversed") rfl)
  have g_sorted := He.free_ok X G (c.fact 53 (f := .free "sorted") rfl)
  have g_tuple := He.free_ok X G (c.fact 54 (f := .free "tuple") rfl)
  obtain ⟨fd__law_begun, F0__law_begun⟩ := c.def_ 34 (d := d__law_begun) rfl
  have F__law_begun : FunD (less K a) "_law_begun" "_law_begun" (defArgs s__law_begun) (defBody s__law_begun) (defScope s__law_begun) [] [] ((WdOf K).F 34) fd__law_begun := no.funD F0__law_begun
  obtain ⟨fd__law_draw, F0__law_draw⟩ := c.def_ 35 (d := d__law_draw) rfl
  have F__law_draw : FunD (less K a) "_law_draw" "_law_draw" (defArgs s__law_draw) (defBody s__law_draw) (defScope s__law_draw) [] [] ((WdOf K).F 35) fd__law_draw := no.funD F0__law_draw
  obtain ⟨fd__law_stretch, F0__law_stretch⟩ := c.def_ 41 (d := d__law_stretch) rfl
  have F__law_stretch : FunD (less K a) "_law_stretch" "_law_stretch" (defArgs s__law_stretch) (defBody s__law_stretch) (defScope s__law_stretch) [] [] ((WdOf K).F 41) fd__law_stretch := no.funD F0__law_stretch
  obtain ⟨fd_arrows_into, F0_arrows_into⟩ := c.def_ 13 (d := d_arrows_into) rfl
  have F_arrows_into : FunD (less K a) "arrows_into" "arrows_into" (defArgs s_arrows_into) (defBody s_arrows_into) (defScope s_arrows_into) [] [] ((WdOf K).F 13) fd_arrows_into := no.funD F0_arrows_into
  obtain ⟨fd_ends_of, F0_ends_of⟩ := c.def_ 0 (d := d_ends_of) rfl
  have F_ends_of : FunD (less K a) "ends_of" "ends_of" (defArgs s_ends_of) (defBody s_ends_of) (defScope s_ends_of) [] [] ((WdOf K).F 0) fd_ends_of := no.funD F0_ends_of
  obtain ⟨fd_end_of, F0_end_of⟩ := c.def_ 9 (d := d_end_of) rfl
  have F_end_of : FunD (less K a) "end_of" "end_of" (defArgs s_end_of) (defBody s_end_of) (defScope s_end_of) [] [] ((WdOf K).F 9) fd_end_of := no.funD F0_end_of
  obtain ⟨fd_turned, F0_turned⟩ := c.def_ 10 (d := d_turned) rfl
  have F_turned : FunD (less K a) "turned" "turned" (defArgs s_turned) (defBody s_turned) (defScope s_turned) [] [] ((WdOf K).F 10) fd_turned := no.funD F0_turned
  obtain ⟨fd_next_of, F0_next_of⟩ := c.def_ 1 (d := d_next_of) rfl
  have F_next_of : FunD (less K a) "next_of" "next_of" (defArgs s_next_of) (defBody s_next_of) (defScope s_next_of) [] [] ((WdOf K).F 1) fd_next_of := no.funD F0_next_of
  obtain ⟨fd_other_ended, F0_other_ended⟩ := c.def_ 4 (d := d_other_ended) rfl
  have F_other_ended : FunD (less K a) "other_ended" "other_ended" (defArgs s_other_ended) (defBody s_other_ended) (defScope s_other_ended) [] [] ((WdOf K).F 4) fd_other_ended := no.funD F0_other_ended
  obtain ⟨fd_other_begun, F0_other_begun⟩ := c.def_ 3 (d := d_other_begun) rfl
  have F_other_begun : FunD (less K a) "other_begun" "other_begun" (defArgs s_other_begun) (defBody s_other_begun) (defScope s_other_begun) [] [] ((WdOf K).F 3) fd_other_begun := no.funD F0_other_begun
  obtain ⟨fd_ahead_of, F0_ahead_of⟩ := c.def_ 2 (d := d_ahead_of) rfl
  have F_ahead_of : FunD (less K a) "ahead_of" "ahead_of" (defArgs s_ahead_of) (defBody s_ahead_of) (defScope s_ahead_of) [] [] ((WdOf K).F 2) fd_ahead_of := no.funD F0_ahead_of
  obtain ⟨fd_followers, F0_followers⟩ := c.def_ 6 (d := d_followers) rfl
  have F_followers : FunD (less K a) "followers" "followers" (defArgs s_followers) (defBody s_followers) (defScope s_followers) [] [] ((WdOf K).F 6) fd_followers := no.funD F0_followers
  obtain ⟨fd_may_follow, F0_may_follow⟩ := c.def_ 7 (d := d_may_follow) rfl
  have F_may_follow : FunD (less K a) "may_follow" "may_follow" (defArgs s_may_follow) (defBody s_may_follow) (defScope s_may_follow) [] [] ((WdOf K).F 7) fd_may_follow := no.funD F0_may_follow
  obtain ⟨fd_right_arrow, F0_right_arrow⟩ := c.def_ 15 (d := d_right_arrow) rfl
  have F_right_arrow : FunD (less K a) "right_arrow" "right_arrow" (defArgs s_right_arrow) (defBody s_right_arrow) (defScope s_right_arrow) [] [] ((WdOf K).F 15) fd_right_arrow := no.funD F0_right_arrow
  obtain ⟨fd_end_arrows, F0_end_arrows⟩ := c.def_ 16 (d := d_end_arrows) rfl
  have F_end_arrows : FunD (less K a) "end_arrows" "end_arrows" (defArgs s_end_arrows) (defBody s_end_arrows) (defScope s_end_arrows) [] [] ((WdOf K).F 16) fd_end_arrows := no.funD F0_end_arrows
  obtain ⟨fd_mate_of, F0_mate_of⟩ := c.def_ 5 (d := d_mate_of) rfl
  have F_mate_of : FunD (less K a) "mate_of" "mate_of" (defArgs s_mate_of) (defBody s_mate_of) (defScope s_mate_of) [] [] ((WdOf K).F 5) fd_mate_of := no.funD F0_mate_of
  obtain ⟨fd_hook_row, F0_hook_row⟩ := c.def_ 14 (d := d_hook_row) rfl
  have F_hook_row : FunD (less K a) "hook_row" "hook_row" (defArgs s_hook_row) (defBody s_hook_row) (defScope s_hook_row) [] [] ((WdOf K).F 14) fd_hook_row := no.funD F0_hook_row
  obtain ⟨fd_hooks, F0_hooks⟩ := c.def_ 17 (d := d_hooks) rfl
  have F_hooks : FunD (less K a) "hooks" "hooks" (defArgs s_hooks) (defBody s_hooks) (defScope s_hooks) [] [] ((WdOf K).F 17) fd_hooks := no.funD F0_hooks
  obtain ⟨fd_hooked_right, F0_hooked_right⟩ := c.def_ 21 (d := d_hooked_right) rfl
  have F_hooked_right : FunD (less K a) "hooked_right" "hooked_right" (defArgs s_hooked_right) (defBody s_hooked_right) (defScope s_hooked_right) [] [] ((WdOf K).F 21) fd_hooked_right := no.funD F0_hooked_right
  obtain ⟨fd_hooked_left, F0_hooked_left⟩ := c.def_ 22 (d := d_hooked_left) rfl
  have F_hooked_left : FunD (less K a) "hooked_left" "hooked_left" (defArgs s_hooked_left) (defBody s_hooked_left) (defScope s_hooked_left) [] [] ((WdOf K).F 22) fd_hooked_left := no.funD F0_hooked_left
  obtain ⟨fd_first_against, F0_first_against⟩ := c.def_ 19 (d := d_first_against) rfl
  have F_first_against : FunD (less K a) "first_against" "first_against" (defArgs s_first_against) (defBody s_first_against) (defScope s_first_against) [] [] ((WdOf K).F 19) fd_first_against := no.funD F0_first_against
  obtain ⟨fd_piece, F0_piece⟩ := c.def_ 20 (d := d_piece) rfl
  have F_piece : FunD (less K a) "piece" "piece" (defArgs s_piece) (defBody s_piece) (defScope s_piece) [] [] ((WdOf K).F 20) fd_piece := no.funD F0_piece
  obtain ⟨fd_one_end, F0_one_end⟩ := c.def_ 23 (d := d_one_end) rfl
  have F_one_end : FunD (less K a) "one_end" "one_end" (defArgs s_one_end) (defBody s_one_end) (defScope s_one_end) [] [] ((WdOf K).F 23) fd_one_end := no.funD F0_one_end
  obtain ⟨fd_last_along, F0_last_along⟩ := c.def_ 18 (d := d_last_along) rfl
  have F_last_along : FunD (less K a) "last_along" "last_along" (defArgs s_last_along) (defBody s_last_along) (defScope s_last_along) [] [] ((WdOf K).F 18) fd_last_along := no.funD F0_last_along
  obtain ⟨fd_forth_walk, F0_forth_walk⟩ := c.def_ 24 (d := d_forth_walk) rfl
  have F_forth_walk : FunD (less K a) "forth_walk" "forth_walk" (defArgs s_forth_walk) (defBody s_forth_walk) (defScope s_forth_walk) [] [] ((WdOf K).F 24) fd_forth_walk := no.funD F0_forth_walk
  obtain ⟨fd_string_of, F0_string_of⟩ := c.def_ 11 (d := d_string_of) rfl
  have F_string_of : FunD (less K a) "string_of" "string_of" (defArgs s_string_of) (defBody s_string_of) (defScope s_string_of) [] [] ((WdOf K).F 11) fd_string_of := no.funD F0_string_of
  obtain ⟨fd_forth, F0_forth⟩ := c.def_ 25 (d := d_forth) rfl
  have F_forth : FunD (less K a) "forth" "forth" (defArgs s_forth) (defBody s_forth) (defScope s_forth) [] [] ((WdOf K).F 25) fd_forth := no.funD F0_forth
  obtain ⟨fd_turned_plan, F0_turned_plan⟩ := c.def_ 8 (d := d_turned_plan) rfl
  have F_turned_plan : FunD (less K a) "turned_plan" "turned_plan" (defArgs s_turned_plan) (defBody s_turned_plan) (defScope s_turned_plan) [] [] ((WdOf K).F 8) fd_turned_plan := no.funD F0_turned_plan
  obtain ⟨fd_in_turned_plan, F0_in_turned_plan⟩ := c.def_ 12 (d := d_in_turned_plan) rfl
  have F_in_turned_plan : FunD (less K a) "in_turned_plan" "in_turned_plan" (defArgs s_in_turned_plan) (defBody s_in_turned_plan) (defScope s_in_turned_plan) [] [] ((WdOf K).F 12) fd_in_turned_plan := no.funD F0_in_turned_plan
  obtain ⟨fd_back, F0_back⟩ := c.def_ 26 (d := d_back) rfl
  have F_back : FunD (less K a) "back" "back" (defArgs s_back) (defBody s_back) (defScope s_back) [] [] ((WdOf K).F 26) fd_back := no.funD F0_back
  obtain ⟨fd_right_done, F0_right_done⟩ := c.def_ 27 (d := d_right_done) rfl
  have F_right_done : FunD (less K a) "right_done" "right_done" (defArgs s_right_done) (defBody s_right_done) (defScope s_right_done) [] [] ((WdOf K).F 27) fd_right_done := no.funD F0_right_done
  obtain ⟨fd_middle_walks, F0_middle_walks⟩ := c.def_ 28 (d := d_middle_walks) rfl
  have F_middle_walks : FunD (less K a) "middle_walks" "middle_walks" (defArgs s_middle_walks) (defBody s_middle_walks) (defScope s_middle_walks) [] [] ((WdOf K).F 28) fd_middle_walks := no.funD F0_middle_walks
  obtain ⟨fd_middle, F0_middle⟩ := c.def_ 29 (d := d_middle) rfl
  have F_middle : FunD (less K a) "middle" "middle" (defArgs s_middle) (defBody s_middle) (defScope s_middle) [] [] ((WdOf K).F 29) fd_middle := no.funD F0_middle
  obtain ⟨fd_road_by, F0_road_by⟩ := c.def_ 31 (d := d_road_by) rfl
  have F_road_by : FunD (less K a) "road_by" "road_by" (defArgs s_road_by) (defBody s_road_by) (defScope s_road_by) [] [] ((WdOf K).F 31) fd_road_by := no.funD F0_road_by
  obtain ⟨fd_road, F0_road⟩ := c.def_ 32 (d := d_road) rfl
  have F_road : FunD (less K a) "road" "road" (defArgs s_road) (defBody s_road) (defScope s_road) [] [] ((WdOf K).F 32) fd_road := no.funD F0_road
  obtain ⟨fd_road_back, F0_road_back⟩ := c.def_ 33 (d := d_road_back) rfl
  have F_road_back : FunD (less K a) "road_back" "road_back" (defArgs s_road_back) (defBody s_road_back) (defScope s_road_back) [] [] ((WdOf K).F 33) fd_road_back := no.funD F0_road_back
  obtain ⟨fd__law_like, F0__law_like⟩ := c.def_ 36 (d := d__law_like) rfl
  have F__law_like : FunD (less K a) "_law_like" "_law_like" (defArgs s__law_like) (defBody s__law_like) (defScope s__law_like) [] [] ((WdOf K).F 36) fd__law_like := no.funD F0__law_like
  obtain ⟨fd_almost_split, F0_almost_split⟩ := c.def_ 30 (d := d_almost_split) rfl
  have F_almost_split : FunD (less K a) "almost_split" "almost_split" (defArgs s_almost_split) (defBody s_almost_split) (defScope s_almost_split) [] [] ((WdOf K).F 30) fd_almost_split := no.funD F0_almost_split
  obtain ⟨fd__law_line_right, F0__law_line_right⟩ := c.def_ 42 (d := d__law_line_right) rfl
  have F__law_line_right : FunD (less K a) "_law_line_right" "_law_line_right" (defArgs s__law_line_right) (defBody s__law_line_right) (defScope s__law_line_right) [] [] ((WdOf K).F 42) fd__law_line_right := no.funD F0__law_line_right
  obtain ⟨fd__law_ends, F0__law_ends⟩ := c.def_ 37 (d := d__law_ends) rfl
  have F__law_ends : FunD (less K a) "_law_ends" "_law_ends" (defArgs s__law_ends) (defBody s__law_ends) (defScope s__law_ends) [] [] ((WdOf K).F 37) fd__law_ends := no.funD F0__law_ends
  obtain ⟨fd__law_points, F0__law_points⟩ := c.def_ 38 (d := d__law_points) rfl
  have F__law_points : FunD (less K a) "_law_points" "_law_points" (defArgs s__law_points) (defBody s__law_points) (defScope s__law_points) [] [] ((WdOf K).F 38) fd__law_points := no.funD F0__law_points
  obtain ⟨fd__law_turned, F0__law_turned⟩ := c.def_ 39 (d := d__law_turned) rfl
  have F__law_turned : FunD (less K a) "_law_turned" "_law_turned" (defArgs s__law_turned) (defBody s__law_turned) (defScope s__law_turned) [] [] ((WdOf K).F 39) fd__law_turned := no.funD F0__law_turned
  obtain ⟨fd__law_string, F0__law_string⟩ := c.def_ 40 (d := d__law_string) rfl
  have F__law_string : FunD (less K a) "_law_string" "_law_string" (defArgs s__law_string) (defBody s__law_string) (defScope s__law_string) [] [] ((WdOf K).F 40) fd__law_string := no.funD F0__law_string
  obtain ⟨fd__law_noughts_right, F0__law_noughts_right⟩ := c.def_ 43 (d := d__law_noughts_right) rfl
  have F__law_noughts_right : FunD (less K a) "_law_noughts_right" "_law_noughts_right" (defArgs s__law_noughts_right) (defBody s__law_noughts_right) (defScope s__law_noughts_right) [] [] ((WdOf K).F 43) fd__law_noughts_right := no.funD F0__law_noughts_right
  obtain ⟨fd_law, F0_law⟩ := c.def_ 44 (d := d_law) rfl
  have F_law : FunD (less K a) "law" "law" (defArgs s_law) (defBody s_law) (defScope s_law) [] [] ((WdOf K).F 44) fd_law := no.funD F0_law
  have e := hfa.symm.trans m_law
  cases e
  have b := FunD.bindsA (ps := ["_law_script"]) F_law fun _ _ _ _ _ _ us hl => match us, hl with | [_], _ => rfl
  refine ⟨fd_law, fun s v => b s [v] rfl, fun base => ?_⟩
  have c__law_begun := ok__law_begun (P := P) (w := w) (base := base) F__law_begun m__law_begun g_int
  have c__law_draw := ok__law_draw (P := P) (w := w) (base := base) F__law_draw m__law_draw g_int g_len
  have c__law_stretch := ok__law_stretch (P := P) (w := w) (base := base) F__law_stretch m__law_stretch g_min g_range g_tuple
  have c_arrows_into := ok_arrows_into (P := P) (w := w) (base := base) F_arrows_into m_arrows_into g_enumerate
  have c_ends_of := ok_ends_of (P := P) (w := w) (base := base) F_ends_of m_ends_of 
  have c_end_of := ok_end_of (P := P) (w := w) (base := base) F_end_of m_end_of c_ends_of
  have c_turned := ok_turned (P := P) (w := w) (base := base) F_turned m_turned g_tuple c_end_of
  have c_next_of := ok_next_of (P := P) (w := w) (base := base) F_next_of m_next_of g_enumerate
  have c_other_ended := ok_other_ended (P := P) (w := w) (base := base) F_other_ended m_other_ended g_enumerate
  have c_other_begun := ok_other_begun (P := P) (w := w) (base := base) F_other_begun m_other_begun g_enumerate
  have c_ahead_of := ok_ahead_of (P := P) (w := w) (base := base) F_ahead_of m_ahead_of g_enumerate
  have c_followers := ok_followers (P := P) (w := w) (base := base) F_followers m_followers g_tuple c_next_of c_other_ended c_other_begun c_ahead_of
  have c_may_follow := ok_may_follow (P := P) (w := w) (base := base) F_may_follow m_may_follow c_followers
  have c_right_arrow := ok_right_arrow (P := P) (w := w) (base := base) F_right_arrow m_right_arrow c_end_of c_arrows_into c_may_follow
  have c_end_arrows := ok_end_arrows (P := P) (w := w) (base := base) F_end_arrows m_end_arrows c_arrows_into c_turned c_right_arrow
  have c_mate_of := ok_mate_of (P := P) (w := w) (base := base) F_mate_of m_mate_of c_other_begun c_other_ended
  have c_hook_row := ok_hook_row (P := P) (w := w) (base := base) F_hook_row m_hook_row g_tuple c_mate_of c_next_of
  have c_hooks := ok_hooks (P := P) (w := w) (base := base) F_hooks m_hooks g_tuple c_end_arrows c_hook_row
  have c_hooked_right := ok_hooked_right (P := P) (w := w) (base := base) F_hooked_right m_hooked_right 
  have c_hooked_left := ok_hooked_left (P := P) (w := w) (base := base) F_hooked_left m_hooked_left c_turned c_hooked_right
  have c_first_against := ok_first_against (P := P) (w := w) (base := base) F_first_against m_first_against g_enumerate g_len g_min
  have c_piece := ok_piece (P := P) (w := w) (base := base) F_piece m_piece c_end_of
  have c_one_end := ok_one_end (P := P) (w := w) (base := base) F_one_end m_one_end g_len c_hooked_right c_first_against c_piece
  have c_last_along := ok_last_along (P := P) (w := w) (base := base) F_last_along m_last_along g_enumerate g_max
  have c_forth_walk := ok_forth_walk (P := P) (w := w) (base := base) F_forth_walk m_forth_walk c_hooks c_hooked_right c_hooked_left c_one_end c_turned c_first_against c_last_along c_piece
  have c_string_of := ok_string_of (P := P) (w := w) (base := base) F_string_of m_string_of c_turned
  have c_forth := ok_forth (P := P) (w := w) (base := base) F_forth m_forth c_forth_walk c_string_of
  have c_turned_plan := ok_turned_plan (P := P) (w := w) (base := base) F_turned_plan m_turned_plan g_sorted g_tuple
  have c_in_turned_plan := ok_in_turned_plan (P := P) (w := w) (base := base) F_in_turned_plan m_in_turned_plan g_tuple
  have c_back := ok_back (P := P) (w := w) (base := base) F_back m_back c_turned_plan c_in_turned_plan c_forth_walk c_string_of
  have c_right_done := ok_right_done (P := P) (w := w) (base := base) F_right_done m_right_done c_hooked_right c_last_along c_piece
  have c_middle_walks := ok_middle_walks (P := P) (w := w) (base := base) F_middle_walks m_middle_walks c_hooks c_right_done c_turned
  have c_middle := ok_middle (P := P) (w := w) (base := base) F_middle m_middle g_sorted g_tuple c_middle_walks c_string_of
  have c_road_by := ok_road_by (P := P) (w := w) (base := base) F_road_by m_road_by g_range c_string_of c_forth c_back
  have c_road := ok_road (P := P) (w := w) (base := base) F_road m_road c_forth c_road_by
  have c_road_back := ok_road_back (P := P) (w := w) (base := base) F_road_back m_road_back c_back c_road_by
  have c__law_like := ok__law_like (P := P) (w := w) (base := base) F__law_like m__law_like g_repr
  have c_almost_split := ok_almost_split (P := P) (w := w) (base := base) F_almost_split m_almost_split c_forth c_string_of c_middle
  have c__law_line_right := ok__law_line_right (P := P) (w := w) (base := base) F__law_line_right m__law_line_right g_range g_sorted g_tuple c__law_stretch c_forth c_back c_middle c_road c_road_back c__law_like c_almost_split
  have c__law_ends := ok__law_ends (P := P) (w := w) (base := base) F__law_ends m__law_ends 
  have c__law_points := ok__law_points (P := P) (w := w) (base := base) F__law_points m__law_points c__law_ends
  have c__law_turned := ok__law_turned (P := P) (w := w) (base := base) F__law_turned m__law_turned g_reversed g_tuple c__law_points
  have c__law_string := ok__law_string (P := P) (w := w) (base := base) F__law_string m__law_string g_min c__law_turned
  have c__law_noughts_right := ok__law_noughts_right (P := P) (w := w) (base := base) F__law_noughts_right m__law_noughts_right g_int g_range g_sorted g_tuple c_forth c_road c__law_like c__law_string c_back c_middle
  exact okG_law (P := P) (w := w) (base := base) F_law c__law_begun c__law_draw c__law_line_right c__law_noughts_right
theorem law_sp {K : PySem.W.Frag} {a : Addr} {H : Hp} {ns : List Int} (hn : ns.length ≤ 63) (hr : Rd H a (.lst (ns.map V.int))) : spD (WdOf K) 1 f_law [.ref a] H (fun v _ => v = .bl true) fun _ _ _ => False := by
  have rs : ∀ l : List Int, Reps (WdOf K) ⟨fun _ => False, []⟩ H (zs l) (l.map V.int) := by
    intro l
    induction l with
    | nil => exact .nil
    | cons i l ih => exact .cons (.int i) ih
  obtain ⟨st, e⟩ := law_true ns hn
  refine ⟨rfl, ⟨fun _ => False, []⟩, [.lst (zs ns)], [], ⟨rfl, List.nodup_nil, fun a m => (nomatch m), fun n c a m => by simp at m⟩, .cons (.lst hr (fun z => z) (rs ns)) .nil, ?_⟩
  rw [e]
  intro M' v H' _ _ r
  cases r
  rfl
end
end FK
open PySem PySem.W PySem.Calls PyProof.Rows
theorem PySem.Challenge.cw_stringrooms_k39_whole_known_roads_holds : PySem.Challenge.rw_stringrooms_k39_whole_known_roads.Holds := by
  w_on; o_law
  refine HandSHeadRun.head_any (r := OpenLaw.row PySem.Challenge.rw_stringrooms_k39_whole_known_roads) (q := view (OpenLaw.row PySem.Challenge.rw_stringrooms_k39_whole_known_roads).prog [53]) (H := HeadK.hk) (ob := HeadK.ob) (M := 4000) (loose := HeadK.loose) (d := HandSHeadRun.topDef (OpenLaw.row PySem.Challenge.rw_stringrooms_k39_whole_known_roads).prog 53) (kwd := []) HeadK.ob_eq
    (by kernel_rfl) (fun s => by kernel_rfl) HeadK.run (by kernel_rfl) (by kernel_rfl) (by kernel_rfl) (by rfl) (by first | assumption | decide +kernel) (by decide +kernel) ⟨rfl, rfl, rfl, rfl, rfl, by decide +kernel⟩ ?hw ?hc
  case hw => w_witness2
  case hc =>
    refine DL.gwalk2 (l := PySem.Challenge.rw_stringrooms_k39_whole_known_roads) (n := 63) (k := 12) (x := "_law_script") (T := fun w => L2.CX PySem.Challenge.rw_stringrooms_k39_whole_known_roads.prog w) rfl (by decide) (by kernel_rfl) ⟨rfl, by decide, by decide⟩ ?F (fun _ _ _ _ _ t => DL.noCX t)
    intro w mg fa a h us Y G hmg0 hobj
    obtain ⟨K, KX, c⟩ := Y
    have hmg : mg ("law" : PySem.Str) = some (.ref fa) := by
      have e : (HandSHeadRun.topDef (OpenLaw.row PySem.Challenge.rw_stringrooms_k39_whole_known_roads).prog 53).name = ("law" : PySem.Str) := by kernel_rfl
      rw [← e]
      exact hmg0
    have no : DL.NoFn K a := fun o lo => by
      have e := KX a o lo
      rw [hobj] at e
      cases e
      exact ⟨_, _, rfl⟩
    obtain ⟨fd, hb, hF⟩ := FK.facts (P := (PySem.Challenge.rw_stringrooms_k39_whole_known_roads).prog) (w := w) KX G hmg c no
    exact ⟨DL.less K a, fd, DL.spD (FK.WdOf K) 1 FK.f_law, DL.less_at K a, DL.less_in KX, hb, fun H ns hl _ hr => FK.law_sp hl hr, fun base _ _ => hF base⟩

