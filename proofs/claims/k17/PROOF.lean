import PyProof.Rows.All
import Wide.All
import OpenK.AllK
import Wide.FinOn
import HandS.ForMost
import HandS.Deep
import HandS.TupAny
import HandS.Wide
import HandS.WideMore
import HandS.SortInts
import HandS.Conv
import PyProof.ReprReads
import HandS.Flow
import HandS.Style
import HandS.Zip
import KE.GoesNew
import KE.GoesEnumKw
import HandS.TupMul
import HandS.Defaults
import HandS.Head0
import HandS.Head1
import HandS.Head2
import HandS.HeadEnd
import HandS.HeadHook1
import HandS.HeadHook2
import PyProof.ListMulRoad
import PyProof.Rows.CallKwBuiltin
import HandS.NamedTupSort
import HandS.SortRule
import HandS.SetFor
import HandS.Set
import PySem.Challenge.RW_flatforest_k17_sets_of_kin
set_option Elab.async false
set_option maxRecDepth 100000
set_option linter.all false
/-! FdA: data, the small heap, how both stand in the hand layer's heap; the judgements. -/
namespace FD
open PySem PySem.Spec L2

/-- data: values without addresses; `ref n` is the n-th changeable thing of the small heap -/
inductive D where
  | non | bl (b : Bool) | int (i : Int) | str (x : Str)
  | tup (l : List D) | lst (l : List D) | fzl (l : List D)
  | obj (c : Nat) (l : List D)
  | ref (n : Nat)
  deriving Inhabited

/-- changeable things -/
inductive MO where
  | lst (l : List D)
  | dK (kvs : List (Key × D))
  | dT (kvs : List (List Key × D))
  | ins (c : Nat) (fs : List (Str × D))
  | gone
abbrev PH := List MO

structure Gx where
  K : PySem.W.Frag
  cls : Nat → Addr
  fld : Nat → List Str

abbrev Mu := Addr → Prop
abbrev Rho := List (Option Addr)

mutual
inductive Rep (G : Gx) (H : Hp) (M : Mu) (ρ : Rho) : D → V → Prop
  | non : Rep G H M ρ .non .non
  | bl (b : Bool) : Rep G H M ρ (.bl b) (.bl b)
  | int (i : Int) : Rep G H M ρ (.int i) (.int i)
  | str (x : Str) : Rep G H M ρ (.str x) (.str x)
  | tup {l : List D} {vs : List V} {a : Addr} : H a = some (.tup vs) → ¬ M a → Reps G H M ρ l vs → Rep G H M ρ (.tup l) (.ref a)
  | lst {l : List D} {vs : List V} {a : Addr} : H a = some (.lst vs) → ¬ M a → Reps G H M ρ l vs → Rep G H M ρ (.lst l) (.ref a)
  | fzl {l : List D} {vs : List V} {a : Addr} : ((Rd H a (.lst vs) ∧ ¬ M a) ∨ SqL G.K (fun _ => none) a vs) → Reps G H M ρ l vs → Rep G H M ρ (.fzl l) (.ref a)
  | obj {c : Nat} {l : List D} {a dx : Addr} {fvs : List (Str × V)} : H a = some (.ins (G.cls c) dx fvs) → ¬ M a → fvs.map (·.1) = G.fld c → Reps G H M ρ l (fvs.map (·.2)) → Rep G H M ρ (.obj c l) (.ref a)
  | ref {n : Nat} {a : Addr} : ρ[n]? = some (some a) → Rep G H M ρ (.ref n) (.ref a)
inductive Reps (G : Gx) (H : Hp) (M : Mu) (ρ : Rho) : List D → List V → Prop
  | nil : Reps G H M ρ [] []
  | cons {d : D} {v : V} {ds : List D} {vs : List V} : Rep G H M ρ d v → Reps G H M ρ ds vs → Reps G H M ρ (d :: ds) (v :: vs)
end

structure Ext (H : Hp) (M : Mu) (ρ : Rho) (H' : Hp) (M' : Mu) (ρ' : Rho) : Prop where
  pre : ∃ e, ρ' = ρ ++ e
  fr : ∀ a, some a ∈ ρ' → some a ∈ ρ ∨ H a = none
  mono : ∀ a, M a → M' a
  new : ∀ a, M' a → M a ∨ H a = none
  keep : ∀ b o, H b = some o → some b ∉ ρ → H' b = some o
  dom : ∀ b, H' b = none → H b = none

theorem Ext.refl (H : Hp) (M : Mu) (ρ : Rho) : Ext H M ρ H M ρ :=
  ⟨⟨[], by simp⟩, fun _ h => .inl h, fun _ h => h, fun _ h => .inl h, fun _ _ h _ => h, fun _ h => h⟩
theorem Ext.trans {H H1 H2 : Hp} {M M1 M2 : Mu} {ρ ρ1 ρ2 : Rho} (a : Ext H M ρ H1 M1 ρ1) (b : Ext H1 M1 ρ1 H2 M2 ρ2) : Ext H M ρ H2 M2 ρ2 := by
  refine ⟨?_, fun x h => ?_, fun x h => b.mono x (a.mono x h), fun x h => ?_, fun x o h n => ?_, fun x h => a.dom x (b.dom x h)⟩
  · obtain ⟨e, rfl⟩ := a.pre
    obtain ⟨e', rfl⟩ := b.pre
    exact ⟨e ++ e', by simp⟩
  · rcases b.fr x h with h | h
    · exact a.fr x h
    · exact .inr (a.dom x h)
  · rcases b.new x h with h | h
    · exact a.new x h
    · exact .inr (a.dom x h)
  · refine b.keep x o (a.keep x o h n) fun q => ?_
    rcases a.fr x q with q | q
    · exact n q
    · rw [h] at q; cases q
theorem Ext.idx {H H1 : Hp} {M M1 : Mu} {ρ ρ1 : Rho} (a : Ext H M ρ H1 M1 ρ1) {n : Nat} {x : Option Addr} (h : ρ[n]? = some x) : ρ1[n]? = some x := by
  obtain ⟨e, rfl⟩ := a.pre
  have := (List.getElem?_eq_some_iff.mp h).1
  rw [List.getElem?_append_left this, h]

/-- what is tracked and not changeable stays -/
theorem Ext.old {H H1 : Hp} {M M1 : Mu} {ρ ρ1 : Rho} (a : Ext H M ρ H1 M1 ρ1) (sub : ∀ x, some x ∈ ρ → M x) {b : Addr} {o : HO} (h : H b = some o) (n : ¬ M b) : H1 b = some o ∧ ¬ M1 b :=
  ⟨a.keep b o h fun q => n (sub b q), fun q => (a.new b q).elim n fun z => by rw [h] at z; cases z⟩

mutual
theorem Rep.ext {G : Gx} {H H1 : Hp} {M M1 : Mu} {ρ ρ1 : Rho} (a : Ext H M ρ H1 M1 ρ1) (sub : ∀ x, some x ∈ ρ → M x) : ∀ {d : D} {v : V}, Rep G H M ρ d v → Rep G H1 M1 ρ1 d v
  | _, _, .non => .non
  | _, _, .bl b => .bl b
  | _, _, .int i => .int i
  | _, _, .str x => .str x
  | _, _, .tup h n r => let ⟨h', n'⟩ := a.old sub h n; .tup h' n' (Reps.ext a sub r)
  | _, _, .lst h n r => let ⟨h', n'⟩ := a.old sub h n; .lst h' n' (Reps.ext a sub r)
  | _, _, .fzl h r => .fzl (h.elim (fun ⟨h, n⟩ => .inl (h.elim (fun z => let ⟨h', n'⟩ := a.old sub z n; ⟨.inl h', n'⟩) fun ⟨o, z⟩ => let ⟨h', n'⟩ := a.old sub z n; ⟨.inr ⟨o, h'⟩, n'⟩)) .inr) (Reps.ext a sub r)
  | _, _, .obj h n e r => let ⟨h', n'⟩ := a.old sub h n; .obj h' n' e (Reps.ext a sub r)
  | _, _, .ref h => .ref (a.idx h)
theorem Reps.ext {G : Gx} {H H1 : Hp} {M M1 : Mu} {ρ ρ1 : Rho} (a : Ext H M ρ H1 M1 ρ1) (sub : ∀ x, some x ∈ ρ → M x) : ∀ {ds : List D} {vs : List V}, Reps G H M ρ ds vs → Reps G H1 M1 ρ1 ds vs
  | _, _, .nil => .nil
  | _, _, .cons h r => .cons (Rep.ext a sub h) (Reps.ext a sub r)
end

theorem Reps.length {G : Gx} {H : Hp} {M : Mu} {ρ : Rho} : ∀ {ds : List D} {vs : List V}, Reps G H M ρ ds vs → ds.length = vs.length
  | _, _, .nil => rfl
  | _, _, .cons _ r => by simp [Reps.length r]
theorem Reps.get {G : Gx} {H : Hp} {M : Mu} {ρ : Rho} : ∀ {ds : List D} {vs : List V} {i : Nat} {d : D}, Reps G H M ρ ds vs → ds[i]? = some d → ∃ v, vs[i]? = some v ∧ Rep G H M ρ d v
  | _, _, _, _, .nil, h => by simp at h
  | _, _, 0, _, .cons h _, e => by simp at e; subst e; exact ⟨_, rfl, h⟩
  | _, _, i + 1, d, .cons _ r, e => by
    obtain ⟨v, h1, h2⟩ := Reps.get (i := i) (d := d) r (by simpa using e)
    exact ⟨v, by simpa using h1, h2⟩
theorem Reps.append {G : Gx} {H : Hp} {M : Mu} {ρ : Rho} : ∀ {ds es : List D} {vs us : List V}, Reps G H M ρ ds vs → Reps G H M ρ es us → Reps G H M ρ (ds ++ es) (vs ++ us)
  | _, _, _, _, .nil, s => s
  | _, _, _, _, .cons h r, s => .cons h (Reps.append r s)
theorem Reps.take {G : Gx} {H : Hp} {M : Mu} {ρ : Rho} : ∀ {ds : List D} {vs : List V} (n : Nat), Reps G H M ρ ds vs → Reps G H M ρ (ds.take n) (vs.take n)
  | _, _, 0, _ => .nil
  | _, _, _ + 1, .nil => .nil
  | _, _, n + 1, .cons h r => .cons h (Reps.take n r)
theorem Reps.drop {G : Gx} {H : Hp} {M : Mu} {ρ : Rho} : ∀ {ds : List D} {vs : List V} (n : Nat), Reps G H M ρ ds vs → Reps G H M ρ (ds.drop n) (vs.drop n)
  | _, _, 0, r => r
  | _, _, _ + 1, .nil => .nil
  | _, _, n + 1, .cons _ r => Reps.drop n r
theorem Reps.rev {G : Gx} {H : Hp} {M : Mu} {ρ : Rho} : ∀ {ds : List D} {vs : List V}, Reps G H M ρ ds vs → Reps G H M ρ ds.reverse vs.reverse
  | _, _, .nil => .nil
  | _, _, .cons h r => by
    rw [List.reverse_cons, List.reverse_cons]
    exact (Reps.rev r).append (.cons h .nil)
theorem Reps.set {G : Gx} {H : Hp} {M : Mu} {ρ : Rho} {d : D} {v : V} (h : Rep G H M ρ d v) : ∀ {ds : List D} {vs : List V} (i : Nat), Reps G H M ρ ds vs → Reps G H M ρ (ds.set i d) (vs.set i v)
  | _, _, _, .nil => .nil
  | _, _, 0, .cons _ r => .cons h r
  | _, _, i + 1, .cons q r => .cons q (Reps.set h i r)

/-- the object at a is mo -/
def MOk (G : Gx) (H : Hp) (M : Mu) (ρ : Rho) (oa : Option Addr) : MO → Prop
  | .gone => True
  | .lst l => ∃ a vs, oa = some a ∧ H a = some (.lst vs) ∧ Reps G H M ρ l vs
  | .dK kvs => ∃ a vs, oa = some a ∧ H a = some (.dK ((kvs.map (·.1)).zip vs)) ∧ Reps G H M ρ (kvs.map (·.2)) vs
  | .dT kvs => ∃ a vs, oa = some a ∧ H a = some (.dT ((kvs.map (·.1)).zip vs)) ∧ Reps G H M ρ (kvs.map (·.2)) vs
  | .ins c fs => ∃ a dx vs, oa = some a ∧ H a = some (.ins (G.cls c) dx ((fs.map (·.1)).zip vs)) ∧ Reps G H M ρ (fs.map (·.2)) vs

structure RelH (G : Gx) (H : Hp) (M : Mu) (ρ : Rho) (ph : PH) : Prop where
  len : ρ.length = ph.length
  ob : ∀ (n : Nat) (mo : MO) (oa : Option Addr), ph[n]? = some mo → ρ[n]? = some oa → MOk G H M ρ oa mo
  inj : ∀ (n m : Nat) (a : Addr), ρ[n]? = some (some a) → ρ[m]? = some (some a) → n = m
  sub : ∀ a, some a ∈ ρ → M a
  tr : ∀ a, M a → H a ≠ none
theorem RelH.there {G : Gx} {H : Hp} {M : Mu} {ρ : Rho} {ph : PH} (r : RelH G H M ρ ph) (a : Addr) (h : some a ∈ ρ) : H a ≠ none := r.tr a (r.sub a h)

/-- the frame's names -/
abbrev Sg := List (Option D)
structure Locs (G : Gx) (H : Hp) (M : Mu) (ρ : Rho) (σ : Sg) (σv : St) : Prop where
  len : σ.length = σv.length
  at_ : ∀ (i : Nat) (d : D), σ[i]? = some (some d) → ∃ v, σv[i]? = some (some v) ∧ Rep G H M ρ d v
theorem Locs.ext {G : Gx} {H H1 : Hp} {M M1 : Mu} {ρ ρ1 : Rho} {σ : Sg} {σv : St} (L : Locs G H M ρ σ σv) (a : Ext H M ρ H1 M1 ρ1) (sub : ∀ x, some x ∈ ρ → M x) : Locs G H1 M1 ρ1 σ σv :=
  ⟨L.len, fun i d h => let ⟨v, h1, h2⟩ := L.at_ i d h; ⟨v, h1, h2.ext a sub⟩⟩
theorem Locs.set {G : Gx} {H : Hp} {M : Mu} {ρ : Rho} {σ : Sg} {σv : St} {d : D} {v : V} (L : Locs G H M ρ σ σv) (i : Nat) (r : Rep G H M ρ d v) : Locs G H M ρ (σ.set i (some d)) (σv.set i (some v)) := by
  refine ⟨by simpa using L.len, fun j e h => ?_⟩
  by_cases hj : i = j
  · subst hj
    rw [List.getElem?_set] at h
    by_cases hi : i < σ.length
    · simp [hi] at h
      subst h
      exact ⟨v, by rw [List.getElem?_set]; simp [← L.len, hi], r⟩
    · simp [hi] at h
  · rw [List.getElem?_set_ne hj] at h
    obtain ⟨u, h1, h2⟩ := L.at_ j e h
    exact ⟨u, by rw [List.getElem?_set_ne hj]; exact h1, h2⟩
def wipeD (σ : Sg) : List Nat → Sg
  | [] => σ
  | v :: vs => (wipeD σ vs).set v none
theorem Locs.unset {G : Gx} {H : Hp} {M : Mu} {ρ : Rho} {σ : Sg} {σv : St} (L : Locs G H M ρ σ σv) (i : Nat) : Locs G H M ρ (σ.set i none) (σv.set i none) := by
  refine ⟨by simpa using L.len, fun j e h => ?_⟩
  by_cases hj : i = j
  · subst hj
    rw [List.getElem?_set] at h
    split at h
    · split at h
      · cases h
      · cases h
    · exact absurd rfl (by assumption)
  · rw [List.getElem?_set_ne hj] at h
    obtain ⟨u, h1, h2⟩ := L.at_ j e h
    exact ⟨u, by rw [List.getElem?_set_ne hj]; exact h1, h2⟩
theorem Locs.wipe {G : Gx} {H : Hp} {M : Mu} {ρ : Rho} {σ : Sg} {σv : St} (L : Locs G H M ρ σ σv) : ∀ vs : List Nat, Locs G H M ρ (wipeD σ vs) (L2.wipe σv vs)
  | [] => L
  | v :: vs => (Locs.wipe L vs).unset v

/-- a computation over the small heap -/
abbrev R (α : Type) := PH → Option (α × PH)
def bnd {α β : Type} (m : R α) (k : α → R β) : R β := fun ph => match m ph with
  | some (a, ph1) => k a ph1
  | none => none
def ret {α : Type} (a : α) : R α := fun ph => some (a, ph)
def lift {α : Type} (o : Option α) : R α := fun ph => match o with
  | some a => some (a, ph)
  | none => none
theorem bnd_some {α β : Type} {m : R α} {k : α → R β} {ph : PH} {r : β × PH} (h : bnd m k ph = some r) : ∃ a ph1, m ph = some (a, ph1) ∧ k a ph1 = some r := by
  unfold bnd at h
  cases e : m ph with
  | none => rw [e] at h; cases h
  | some x => obtain ⟨a, ph1⟩ := x; rw [e] at h; exact ⟨a, ph1, rfl, h⟩
theorem bnd_mk {α β : Type} {m : R α} {k : α → R β} {ph ph1 : PH} {a : α} {r : Option (β × PH)} (h : m ph = some (a, ph1)) (q : k a ph1 = r) : bnd m k ph = r := by
  unfold bnd; rw [h]; exact q
theorem ret_some {α : Type} {a b : α} {ph ph1 : PH} (h : ret a ph = some (b, ph1)) : a = b ∧ ph = ph1 := by
  unfold ret at h; cases h; exact ⟨rfl, rfl⟩
theorem lift_some {α : Type} {o : Option α} {b : α} {ph ph1 : PH} (h : lift o ph = some (b, ph1)) : o = some b ∧ ph = ph1 := by
  unfold lift at h
  cases o with
  | none => cases h
  | some a => cases h; exact ⟨rfl, rfl⟩

abbrev FE := Sg → R D
abbrev FT := Sg → R Bool
abbrev FA := Sg → R (List D)
inductive Out where
  | nx (σ : Sg) | rt (d : D) | bk (σ : Sg) | ct (σ : Sg)
abbrev FS := Sg → R Out
abbrev FF := List D → R D

/-- the state ahead: data for the names and the small heap -/
structure Pre (G : Gx) (H : Hp) (M : Mu) (ρ : Rho) (ph : PH) (σ : Sg) (σv : St) : Prop where
  L : Locs G H M ρ σ σv
  R : RelH G H M ρ ph

def TEof (G : Gx) (f : FE) : TE := fun σv H Q => ∃ σ M ρ ph d ph1, Pre G H M ρ ph σ σv ∧ f σ ph = some (d, ph1) ∧
  ∀ v H' M' ρ', Ext H M ρ H' M' ρ' → RelH G H' M' ρ' ph1 → Rep G H' M' ρ' d v → Q v H'
def TTof (G : Gx) (f : FT) : TT := fun σv H Q => ∃ σ M ρ ph b ph1, Pre G H M ρ ph σ σv ∧ f σ ph = some (b, ph1) ∧
  ∀ H' M' ρ', Ext H M ρ H' M' ρ' → RelH G H' M' ρ' ph1 → Q b H'
def TAof (G : Gx) (f : FA) : TA := fun σv H Q => ∃ σ M ρ ph ds ph1, Pre G H M ρ ph σ σv ∧ f σ ph = some (ds, ph1) ∧
  ∀ vs H' M' ρ', Ext H M ρ H' M' ρ' → RelH G H' M' ρ' ph1 → Reps G H' M' ρ' ds vs → Q vs H'
/-- an expression that gives a new list, nobody's but the asker's -/
def TLof (G : Gx) (f : FA) : TE := fun σv H Q => ∃ σ M ρ ph ds ph1, Pre G H M ρ ph σ σv ∧ f σ ph = some (ds, ph1) ∧
  ∀ a vs H' M' ρ', Ext H M ρ H' M' ρ' → RelH G H' M' ρ' ph1 → H a = none → H' a = some (.lst vs) → M' a → some a ∉ ρ' → Reps G H' M' ρ' ds vs → Q (.ref a) H'
def TSof (G : Gx) (f : FS) : TS := fun E σv H => ∃ σ M ρ ph o ph1, Pre G H M ρ ph σ σv ∧ f σ ph = some (o, ph1) ∧
  ∀ H' M' ρ', Ext H M ρ H' M' ρ' → RelH G H' M' ρ' ph1 → match o with
    | .nx σ1 => ∀ σv1, Locs G H' M' ρ' σ1 σv1 → E.nx σv1 H'
    | .rt d => ∀ v, Rep G H' M' ρ' d v → E.rt v H'
    | .bk σ1 => ∀ σv1, Locs G H' M' ρ' σ1 σv1 → E.bk σv1 H'
    | .ct σ1 => ∀ σv1, Locs G H' M' ρ' σ1 σv1 → E.ct σv1 H'

structure DE (G : Gx) (X : Cx) (e : Expr) (f : FE) : Prop where
  pe : PE X e (TEof G f)
structure DT (G : Gx) (X : Cx) (e : Expr) (f : FT) : Prop where
  pt : PT X e (TTof G f)
structure DW (G : Gx) (X : Cx) (e : Expr) (f : FT) : Prop where
  pw : PW X e (TTof G f)
structure DA (G : Gx) (X : Cx) (es : List Expr) (f : FA) : Prop where
  pa : PA X es (TAof G f)
structure DL (G : Gx) (X : Cx) (e : Expr) (f : FA) : Prop where
  pe : PE X e (TLof G f)
structure DS (G : Gx) (X : Cx) (st : Stmt) (f : FS) : Prop where
  ps : PS X st (TSof G f)
structure DSs (G : Gx) (X : Cx) (st : List Stmt) (f : FS) : Prop where
  ps : PSs X st (TSof G f)

theorem _root_.L2.PE.weak {X : Cx} {e : Expr} {t u : TE} (h : PE X e t) (w : ∀ σ H Q, u σ H Q → t σ H Q) : PE X e u := ⟨fun pins s σ H Q I q => h.run pins s σ H Q I (w σ H Q q)⟩
theorem _root_.L2.PT.weak {X : Cx} {e : Expr} {t u : TT} (h : PT X e t) (w : ∀ σ H Q, u σ H Q → t σ H Q) : PT X e u := ⟨fun pins s σ H Q I q => h.run pins s σ H Q I (w σ H Q q)⟩
theorem _root_.L2.PW.weak {X : Cx} {e : Expr} {t u : TT} (h : PW X e t) (w : ∀ σ H Q, u σ H Q → t σ H Q) : PW X e u := ⟨fun wh pins s σ H Q I q => h.run wh pins s σ H Q I (w σ H Q q)⟩
theorem _root_.L2.PA.weak {X : Cx} {e : List Expr} {t u : TA} (h : PA X e t) (w : ∀ σ H Q, u σ H Q → t σ H Q) : PA X e u := ⟨fun pos pins s σ H Q I q => h.run pos pins s σ H Q I (w σ H Q q)⟩
theorem _root_.L2.PS.weak {X : Cx} {e : Stmt} {t u : TS} (h : PS X e t) (w : ∀ E σ H, u E σ H → t E σ H) : PS X e u := ⟨fun pins s σ H E I q => h.run pins s σ H E I (w E σ H q)⟩
theorem _root_.L2.PSs.weak {X : Cx} {e : List Stmt} {t u : TS} (h : PSs X e t) (w : ∀ E σ H, u E σ H → t E σ H) : PSs X e u := ⟨fun pins s σ H E I q => h.run pins s σ H E I (w E σ H q)⟩

theorem Pre.go {G : Gx} {H H1 : Hp} {M M1 : Mu} {ρ ρ1 : Rho} {ph ph1 : PH} {σ : Sg} {σv : St} (P : Pre G H M ρ ph σ σv) (a : Ext H M ρ H1 M1 ρ1) (r : RelH G H1 M1 ρ1 ph1) : Pre G H1 M1 ρ1 ph1 σ σv := ⟨P.L.ext a P.R.sub, r⟩

/-- the heap has grown by something that is new -/
theorem Ext.laid {H : Hp} {M : Mu} {ρ : Rho} {p : Addr} {o : HO} (h : H p = none) : Ext H M ρ (upd H p o) M ρ :=
  ⟨⟨[], by simp⟩, fun _ h => .inl h, fun _ h => h, fun _ h => .inl h, fun b u e _ => by rw [upd_ne (ne_of_none e h)]; exact e, fun b e => by
    by_cases q : b = p
    · subst q; exact h
    · rwa [upd_ne q] at e⟩
theorem RelH.ext {G : Gx} {H H1 : Hp} {M M1 : Mu} {ρ ρ1 : Rho} {ph : PH} (r : RelH G H M ρ ph) (a : Ext H M ρ H1 M1 ρ1) (e : ρ1 = ρ) (k : ∀ b, some b ∈ ρ → H1 b = H b) (t : ∀ b, M1 b → H1 b ≠ none) : RelH G H1 M1 ρ1 ph := by
  subst e
  refine ⟨r.len, fun n mo oa h1 h2 => ?_, r.inj, fun x h => a.mono x (r.sub x h), t⟩
  have q := r.ob n mo oa h1 h2
  have hm : ∀ x, oa = some x → H1 x = H x := fun x e => k x (List.mem_of_getElem? (e ▸ h2))
  cases mo with
  | gone => trivial
  | lst l => obtain ⟨x, vs, e, h, s⟩ := q; exact ⟨x, vs, e, (hm x e).trans h, s.ext a r.sub⟩
  | dK l => obtain ⟨x, vs, e, h, s⟩ := q; exact ⟨x, vs, e, (hm x e).trans h, s.ext a r.sub⟩
  | dT l => obtain ⟨x, vs, e, h, s⟩ := q; exact ⟨x, vs, e, (hm x e).trans h, s.ext a r.sub⟩
  | ins c l => obtain ⟨x, dx, vs, e, h, s⟩ := q; exact ⟨x, dx, vs, e, (hm x e).trans h, s.ext a r.sub⟩
theorem RelH.laid {G : Gx} {H : Hp} {M : Mu} {ρ : Rho} {ph : PH} (r : RelH G H M ρ ph) {p : Addr} {o : HO} (h : H p = none) : RelH G (upd H p o) M ρ ph :=
  r.ext (Ext.laid h) rfl (fun b hb => upd_ne fun e => r.there b hb (e ▸ h)) fun b hb => by
    by_cases e : b = p
    · subst e; rw [upd_same]; simp
    · rw [upd_ne e]; exact r.tr b hb
theorem RelH.noM {G : Gx} {H : Hp} {M : Mu} {ρ : Rho} {ph : PH} (r : RelH G H M ρ ph) {p : Addr} (h : H p = none) : ¬ M p := fun q => r.tr p q h
theorem RelH.fresh {G : Gx} {H : Hp} {M : Mu} {ρ : Rho} {ph : PH} (r : RelH G H M ρ ph) {p : Addr} (h : H p = none) : some p ∉ ρ := fun q => r.there p q h

/-- .. by a list that is its asker's -/
theorem Ext.laidM {H : Hp} {M : Mu} {ρ : Rho} {p : Addr} {o : HO} (h : H p = none) : Ext H M ρ (upd H p o) (fun b => M b ∨ b = p) ρ :=
  have e := Ext.laid (M := M) (ρ := ρ) (o := o) h
  ⟨e.pre, e.fr, fun _ h => .inl h, fun b q => q.elim .inl fun z => .inr (z ▸ h), e.keep, e.dom⟩
theorem RelH.laidM {G : Gx} {H : Hp} {M : Mu} {ρ : Rho} {ph : PH} (r : RelH G H M ρ ph) {p : Addr} {o : HO} (h : H p = none) : RelH G (upd H p o) (fun b => M b ∨ b = p) ρ ph :=
  r.ext (Ext.laidM h) rfl (fun b hb => upd_ne fun e => r.there b hb (e ▸ h)) fun b hb => by
    by_cases e : b = p
    · subst e; rw [upd_same]; simp
    · rw [upd_ne e]; exact r.tr b (hb.resolve_right e)
mutual
theorem Rep.less {G : Gx} {H : Hp} {M M1 : Mu} {ρ : Rho} (le : ∀ x, M1 x → M x) : ∀ {d : D} {v : V}, Rep G H M ρ d v → Rep G H M1 ρ d v
  | _, _, .non => .non
  | _, _, .bl b => .bl b
  | _, _, .int i => .int i
  | _, _, .str x => .str x
  | _, _, .tup h n r => .tup h (fun q => n (le _ q)) (Reps.less le r)
  | _, _, .lst h n r => .lst h (fun q => n (le _ q)) (Reps.less le r)
  | _, _, .fzl h r => .fzl (h.elim (fun ⟨h, n⟩ => .inl ⟨h, fun q => n (le _ q)⟩) .inr) (Reps.less le r)
  | _, _, .obj h n e r => .obj h (fun q => n (le _ q)) e (Reps.less le r)
  | _, _, .ref h => .ref h
theorem Reps.less {G : Gx} {H : Hp} {M M1 : Mu} {ρ : Rho} (le : ∀ x, M1 x → M x) : ∀ {ds : List D} {vs : List V}, Reps G H M ρ ds vs → Reps G H M1 ρ ds vs
  | _, _, .nil => .nil
  | _, _, .cons h r => .cons (Rep.less le h) (Reps.less le r)
end
theorem MOk.less {G : Gx} {H : Hp} {M M1 : Mu} {ρ : Rho} (le : ∀ x, M1 x → M x) {oa : Option Addr} : ∀ {mo : MO}, MOk G H M ρ oa mo → MOk G H M1 ρ oa mo
  | .gone, _ => trivial
  | .lst _, ⟨x, vs, e, h, s⟩ => ⟨x, vs, e, h, s.less le⟩
  | .dK _, ⟨x, vs, e, h, s⟩ => ⟨x, vs, e, h, s.less le⟩
  | .dT _, ⟨x, vs, e, h, s⟩ => ⟨x, vs, e, h, s.less le⟩
  | .ins _ _, ⟨x, dx, vs, e, h, s⟩ => ⟨x, dx, vs, e, h, s.less le⟩
/-- the asker's list becomes a value: nobody changes it -/
theorem Ext.cool {H H' : Hp} {M M' : Mu} {ρ ρ' : Rho} {a : Addr} (e : Ext H M ρ H' M' ρ') (ha : H a = none) (tr : ∀ b, M b → H b ≠ none) : Ext H M ρ H' (fun b => M' b ∧ b ≠ a) ρ' :=
  ⟨e.pre, e.fr, fun b q => ⟨e.mono b q, fun z => tr b q (z ▸ ha)⟩, fun b q => e.new b q.1, e.keep, e.dom⟩
theorem RelH.cool {G : Gx} {H : Hp} {M : Mu} {ρ : Rho} {ph : PH} {a : Addr} (r : RelH G H M ρ ph) (n : some a ∉ ρ) : RelH G H (fun b => M b ∧ b ≠ a) ρ ph :=
  ⟨r.len, fun k mo oa h1 h2 => (r.ob k mo oa h1 h2).less fun _ q => q.1, r.inj, fun b h => ⟨r.sub b h, fun z => n (z ▸ h)⟩, fun b h => r.tr b h.1⟩
/-- .. or joins the small heap -/
theorem Ext.own {H H' : Hp} {M M' : Mu} {ρ ρ' : Rho} {a : Addr} (e : Ext H M ρ H' M' ρ') (ha : H a = none) : Ext H M ρ H' M' (ρ' ++ [some a]) :=
  ⟨let ⟨x, h⟩ := e.pre; ⟨x ++ [some a], by rw [h]; simp⟩, fun b q => (List.mem_append.mp q).elim (e.fr b) fun z => .inr ((show b = a by simpa using z) ▸ ha), e.mono, e.new, e.keep, e.dom⟩
theorem push_mem {ρ : Rho} {a : Addr} : (∀ b, some b ∈ ρ ++ [some a] → some b ∈ ρ ∨ b = a) := fun b q => (List.mem_append.mp q).elim .inl fun z => .inr (by simpa using z)
mutual
theorem Rep.longer {G : Gx} {H : Hp} {M : Mu} {ρ : Rho} (e : Rho) : ∀ {d : D} {v : V}, Rep G H M ρ d v → Rep G H M (ρ ++ e) d v
  | _, _, .non => .non
  | _, _, .bl b => .bl b
  | _, _, .int i => .int i
  | _, _, .str x => .str x
  | _, _, .tup h n r => .tup h n (Reps.longer e r)
  | _, _, .lst h n r => .lst h n (Reps.longer e r)
  | _, _, .fzl h r => .fzl h (Reps.longer e r)
  | _, _, .obj h n q r => .obj h n q (Reps.longer e r)
  | _, _, .ref h => .ref (by rw [List.getElem?_append_left (List.getElem?_eq_some_iff.mp h).1]; exact h)
theorem Reps.longer {G : Gx} {H : Hp} {M : Mu} {ρ : Rho} (e : Rho) : ∀ {ds : List D} {vs : List V}, Reps G H M ρ ds vs → Reps G H M (ρ ++ e) ds vs
  | _, _, .nil => .nil
  | _, _, .cons h r => .cons (Rep.longer e h) (Reps.longer e r)
end
theorem MOk.longer {G : Gx} {H : Hp} {M : Mu} {ρ : Rho} (e : Rho) {oa : Option Addr} : ∀ {mo : MO}, MOk G H M ρ oa mo → MOk G H M (ρ ++ e) oa mo
  | .gone, _ => trivial
  | .lst _, ⟨x, vs, q, h, s⟩ => ⟨x, vs, q, h, s.longer e⟩
  | .dK _, ⟨x, vs, q, h, s⟩ => ⟨x, vs, q, h, s.longer e⟩
  | .dT _, ⟨x, vs, q, h, s⟩ => ⟨x, vs, q, h, s.longer e⟩
  | .ins _ _, ⟨x, dx, vs, q, h, s⟩ => ⟨x, dx, vs, q, h, s.longer e⟩
theorem RelH.own {G : Gx} {H : Hp} {M : Mu} {ρ : Rho} {ph : PH} {a : Addr} {mo : MO} (r : RelH G H M ρ ph) (n : some a ∉ ρ) (m : M a) (o : MOk G H M (ρ ++ [some a]) (some a) mo) : RelH G H M (ρ ++ [some a]) (ph ++ [mo]) := by
  refine ⟨by simp [r.len], fun k mo' oa h1 h2 => ?_, fun i j b h1 h2 => ?_, fun b h => ?_, r.tr⟩
  · by_cases hk : k < ph.length
    · rw [List.getElem?_append_left hk] at h1
      rw [List.getElem?_append_left (by rw [r.len]; exact hk)] at h2
      exact (r.ob k mo' oa h1 h2).longer _
    · have hk' : k = ph.length := by
        have := (List.getElem?_eq_some_iff.mp h1).1
        simp at this; omega
      subst hk'
      rw [List.getElem?_append_right (Nat.le_refl _)] at h1
      rw [List.getElem?_append_right (by rw [r.len]; exact Nat.le_refl _), r.len] at h2
      simp at h1 h2
      subst h1 h2
      exact o
  · have key : ∀ i : Nat, (ρ ++ [some a])[i]? = some (some b) → (ρ[i]? = some (some b)) ∨ (i = ρ.length ∧ b = a) := fun i h => by
      by_cases hi : i < ρ.length
      · rw [List.getElem?_append_left hi] at h; exact .inl h
      · have := (List.getElem?_eq_some_iff.mp h).1
        have hi' : i = ρ.length := by simp at this; omega
        subst hi'
        rw [List.getElem?_append_right (Nat.le_refl _)] at h
        simp at h
        exact .inr ⟨rfl, h.symm⟩
    rcases key i h1 with q | ⟨q, e⟩ <;> rcases key j h2 with q' | ⟨q', e'⟩
    · exact r.inj i j b q q'
    · exact absurd (e' ▸ List.mem_of_getElem? q) n
    · exact absurd (e ▸ List.mem_of_getElem? q') n
    · omega
  · rcases push_mem b h with h | h
    · exact r.sub b h
    · exact h ▸ m
end FD

set_option Elab.async false
set_option maxRecDepth 100000
set_option linter.all false
/-! FdB: expressions. -/
namespace FD
open PySem PySem.Spec L2
section
variable {G : Gx} {X : Cx}

/-! ### names, constants -/
def fVar (i : Nat) : FE := fun σ => lift (σ[i]?.getD none)
def fC (d : D) : FE := fun _ => ret d
theorem de_var (i : Nat) {x : Str} {pos : Pos} (hN : X.N[i]? = some x := by rfl) (hv : Vis X.env.scope x := by first | exact Or.inl rfl | exact Or.inr (Or.inl rfl) | exact Or.inr (Or.inr rfl))
    (hd : (x == ("__debug__" : Str)) = false := by decide) (hcd : (x == ("__classdict__" : Str)) = false := by decide) : DE G X (.Name x pos) (fVar i) :=
  ⟨(pe_var hN hv hd hcd).weak fun σ H Q ⟨s, M, ρ, ph, d, ph1, P, e, k⟩ => by
    obtain ⟨e1, rfl⟩ := lift_some e
    have e2 : s[i]? = some (some d) := by
      cases q : s[i]? with
      | none => rw [q] at e1; cases e1
      | some o => rw [q] at e1; exact congrArg some e1
    obtain ⟨v, h1, r⟩ := P.L.at_ i d e2
    exact ⟨v, h1, k v H M ρ (.refl ..) P.R r⟩⟩
/-- a value that leans on no heap -/
inductive Flat : D → V → Prop
  | non : Flat .non .non
  | bl (b : Bool) : Flat (.bl b) (.bl b)
  | int (i : Int) : Flat (.int i) (.int i)
  | str (x : Str) : Flat (.str x) (.str x)
theorem Flat.rep {d : D} {v : V} {H : Hp} {M : Mu} {ρ : Rho} (f : Flat d v) : Rep G H M ρ d v := by
  cases f
  · exact .non
  · exact .bl _
  · exact .int _
  · exact .str _
theorem de_c {e : Expr} {d : D} {v : V} (h : PE X e (tC v)) (f : Flat d v) : DE G X e (fC d) :=
  ⟨h.weak fun σ H Q ⟨s, M, ρ, ph, d', ph1, P, e, k⟩ => by
    obtain ⟨rfl, rfl⟩ := ret_some e
    exact k v H M ρ (.refl ..) P.R f.rep⟩
theorem de_int {i : Int} {j pos} : DE G X (.Constant (.int i) j pos) (fC (.int i)) := de_c pe_int (.int i)
theorem de_bl {b : Bool} {j pos} : DE G X (.Constant (.bool b) j pos) (fC (.bl b)) := de_c pe_bl (.bl b)
theorem de_non {j pos} : DE G X (.Constant .none j pos) (fC .non) := de_c pe_non .non
theorem de_str {x} {j pos} : DE G X (.Constant (.str x) j pos) (fC (.str x)) := de_c pe_str (.str x)

/-! ### argument lists -/
def fNil : FA := fun _ => ret []
def fCons (f : FE) (g : FA) : FA := fun σ => bnd (f σ) fun d => bnd (g σ) fun ds => ret (d :: ds)
theorem da_nil : DA G X [] fNil := ⟨pa_nil.weak fun σ H Q ⟨s, M, ρ, ph, ds, ph1, P, e, k⟩ => by
    obtain ⟨rfl, rfl⟩ := ret_some e
    exact k [] H M ρ (.refl ..) P.R .nil⟩
theorem da_cons {e : Expr} {es : List Expr} {f : FE} {g : FA} (h : DE G X e f) (r : DA G X es g) (hs : starEach (e :: es) X.env = (false, eval e X.env) :: starEach es X.env := by rfl) : DA G X (e :: es) (fCons f g) :=
  ⟨(pa_cons h.pe r.pa hs).weak fun σ H Q ⟨s, M, ρ, ph, ds, ph1, P, e, k⟩ => by
    obtain ⟨d, ph2, e1, e2⟩ := bnd_some e
    obtain ⟨ds', ph3, e3, e4⟩ := bnd_some e2
    obtain ⟨rfl, rfl⟩ := ret_some e4
    refine ⟨s, M, ρ, ph, d, ph2, P, e1, fun v H1 M1 ρ1 E1 R1 r1 => ?_⟩
    refine ⟨s, M1, ρ1, ph2, ds', ph3, P.go E1 R1, e3, fun vs H2 M2 ρ2 E2 R2 r2 => ?_⟩
    exact k (v :: vs) H2 M2 ρ2 (E1.trans E2) R2 (.cons (r1.ext E2 R1.sub) r2)⟩

/-! ### operations on two values -/
def OpS (G : Gx) (r : R2) (g : D → D → R D) : Prop := ∀ (H : Hp) (M : Mu) (ρ : Rho) (ph : PH) (x y : D) (v u : V) (d : D) (ph1 : PH) (Q : VK), RelH G H M ρ ph → Rep G H M ρ x v → Rep G H M ρ y u → g x y ph = some (d, ph1) →
  (∀ w H' M' ρ', Ext H M ρ H' M' ρ' → RelH G H' M' ρ' ph1 → Rep G H' M' ρ' d w → Q w H') → r v u H Q
def fBin (g : D → D → R D) (fa fb : FE) : FE := fun σ => bnd (fa σ) fun x => bnd (fb σ) fun y => g x y
theorem OpS.t {r : R2} {g : D → D → R D} (h : OpS G r g) {fa fb : FE} {σ : St} {H : Hp} {Q : VK} (q : TEof G (fBin g fa fb) σ H Q) : tOp r (TEof G fa) (TEof G fb) σ H Q := by
  obtain ⟨s, M, ρ, ph, d, ph1, P, e, k⟩ := q
  obtain ⟨x, ph2, e1, e2⟩ := bnd_some e
  obtain ⟨y, ph3, e3, e4⟩ := bnd_some e2
  refine ⟨s, M, ρ, ph, x, ph2, P, e1, fun v H1 M1 ρ1 E1 R1 r1 => ?_⟩
  refine ⟨s, M1, ρ1, ph2, y, ph3, P.go E1 R1, e3, fun u H2 M2 ρ2 E2 R2 r2 => ?_⟩
  exact h H2 M2 ρ2 ph3 x y v u d ph1 Q R2 (r1.ext E2 R1.sub) r2 e4 fun w H3 M3 ρ3 E3 R3 r3 => k w H3 M3 ρ3 ((E1.trans E2).trans E3) R3 r3
theorem OpS.or {r r' : R2} {g : D → D → R D} (h : ∀ x y ph z, g x y ph = some z → (∃ g1, OpS G r g1 ∧ g1 x y ph = some z) ∨ ∃ g1, OpS G r' g1 ∧ g1 x y ph = some z) : OpS G (fun x y H Q => r x y H Q ∨ r' x y H Q) g := by
  intro H M ρ ph x y v u d ph1 Q R rx ry e k
  rcases h x y ph _ e with ⟨g1, h1, e1⟩ | ⟨g1, h1, e1⟩
  · exact .inl (h1 H M ρ ph x y v u d ph1 Q R rx ry e1 k)
  · exact .inr (h1 H M ρ ph x y v u d ph1 Q R rx ry e1 k)
theorem de_op {op : Operator} {r : R2} {g : D → D → R D} {a b : Expr} {fa fb : FE} {pos : Pos} (ho : OpR X (binaryOp op) r) (hs : OpS G r g) (ha : DE G X a fa) (hb : DE G X b fb) : DE G X (.BinOp a op b pos) (fBin g fa fb) :=
  ⟨(pe_op ho ha.pe hb.pe).weak fun _ _ _ q => hs.t q⟩

/-- a value of the heap as it is: nothing new -/
theorem OpS.now {r : R2} {g : D → D → R D} (h : ∀ (H : Hp) (M : Mu) (ρ : Rho) (ph : PH) (x y : D) (v u : V) (d : D) (ph1 : PH) (Q : VK), RelH G H M ρ ph → Rep G H M ρ x v → Rep G H M ρ y u → g x y ph = some (d, ph1) →
    ph1 = ph ∧ ∃ w, Flat d w ∧ (Q w H → r v u H Q)) : OpS G r g := by
  intro H M ρ ph x y v u d ph1 Q R rx ry e k
  obtain ⟨rfl, w, f, c⟩ := h H M ρ ph x y v u d ph1 Q R rx ry e
  exact c (k w H M ρ (.refl ..) R f.rep)

def gII (g : Int → Int → Option D) : D → D → R D
  | .int i, .int j => lift (g i j)
  | _, _ => fun _ => none
theorem ops_ii {C : Int → Int → Prop} {g : Int → Int → V} {g' : Int → Int → Option D} (h : ∀ i j d, g' i j = some d → C i j ∧ Flat d (g i j)) : OpS G (rI C g) (gII g') := by
  refine .now fun H M ρ ph x y v u d ph1 Q R rx ry e => ?_
  cases rx <;> cases ry <;> try exact nomatch (show (none : Option (D × PH)) = some _ from e)
  rename_i i j
  obtain ⟨e1, rfl⟩ := lift_some (o := g' i j) e
  obtain ⟨c, f⟩ := h i j d e1
  exact ⟨rfl, _, f, fun q => ⟨i, j, rfl, rfl, c, q⟩⟩
theorem ops_ii0 {g : Int → Int → V} {g' : Int → Int → Option D} (h : ∀ i j d, g' i j = some d → Flat d (g i j)) : OpS G (rI0 g) (gII g') := by
  refine .now fun H M ρ ph x y v u d ph1 Q R rx ry e => ?_
  cases rx <;> cases ry <;> try exact nomatch (show (none : Option (D × PH)) = some _ from e)
  rename_i i j
  obtain ⟨e1, rfl⟩ := lift_some (o := g' i j) e
  exact ⟨rfl, _, h i j d e1, fun q => ⟨i, j, rfl, rfl, q⟩⟩

/-! ### lists and tuples in sight -/
def moL : Option MO → Option (List D)
  | some (.lst l) => some l
  | _ => none
def lview : D → PH → Option (List D)
  | .lst l, _ => some l
  | .ref n, ph => moL ph[n]?
  | _, _ => none
theorem lview_ok {H : Hp} {M : Mu} {ρ : Rho} {ph : PH} {x : D} {v : V} {l : List D} (R : RelH G H M ρ ph) (r : Rep G H M ρ x v) (e : lview x ph = some l) : ∃ a vs, v = .ref a ∧ H a = some (.lst vs) ∧ Reps G H M ρ l vs := by
  cases r with
  | lst h n r => cases e; exact ⟨_, _, rfl, h, r⟩
  | ref h =>
    rename_i n a
    have e : moL ph[n]? = some l := e
    cases q : ph[n]? with
    | none => rw [q] at e; cases e
    | some mo =>
      rw [q] at e
      cases mo with
      | lst l' =>
        cases e
        obtain ⟨b, vs, e1, h1, r1⟩ := R.ob n _ _ q h
        cases e1
        exact ⟨_, vs, rfl, h1, r1⟩
      | _ => exact nomatch (show (none : Option (List D)) = some _ from e)
  | _ => cases e
/-- a list or a tuple: its items -/
def sview : D → PH → Option (List D)
  | .tup l, _ => some l
  | .fzl l, _ => some l
  | x, ph => lview x ph
theorem sview_ok {H : Hp} {M : Mu} {ρ : Rho} {ph : PH} {x : D} {v : V} {l : List D} (R : RelH G H M ρ ph) (r : Rep G H M ρ x v) (e : sview x ph = some l) : ∃ a vs, v = .ref a ∧ (SqL G.K H a vs ∨ SqT G.K H a vs) ∧ Reps G H M ρ l vs := by
  cases r with
  | tup h n r => cases e; exact ⟨_, _, rfl, .inr (.of h), r⟩
  | fzl h r =>
    cases e
    refine ⟨_, _, rfl, .inl ?_, r⟩
    rcases h with ⟨h, _⟩ | h | h
    · exact .inl h
    · rcases h with h | ⟨_, h⟩ <;> cases h
    · exact .inr h
  | lst h n r => cases e; exact ⟨_, _, rfl, .inl (.of h), r⟩
  | ref h =>
    obtain ⟨a, vs, e1, h1, r1⟩ := lview_ok R (.ref h) e
    exact ⟨a, vs, e1, .inl (.of h1), r1⟩
  | _ => cases e

/-! ### the sums: ints, texts, tuples, lists -/
def gAdd : D → D → R D
  | .int i, .int j => ret (.int (i + j))
  | .str a, .str b => fun ph => if a.length + b.length ≤ sizeLine then some (.str (a ++ b), ph) else none
  | .tup l, .tup m => fun ph => if l.length + m.length ≤ sizeLine then some (.tup (l ++ m), ph) else none
  | x, y => fun ph => match lview x ph, lview y ph with
    | some l, some m => if l.length + m.length ≤ sizeLine then some (.lst (l ++ m), ph) else none
    | _, _ => none
def gAddL (x y : D) : R D := fun ph => match lview x ph, lview y ph with
    | some l, some m => if l.length + m.length ≤ sizeLine then some (.lst (l ++ m), ph) else none
    | _, _ => none
def gAddT : D → D → R D
  | .tup l, .tup m => fun ph => if l.length + m.length ≤ sizeLine then some (.tup (l ++ m), ph) else none
  | _, _ => fun _ => none
def gAddS : D → D → R D
  | .str a, .str b => fun ph => if a.length + b.length ≤ sizeLine then some (.str (a ++ b), ph) else none
  | _, _ => fun _ => none
theorem gAdd_cases {x y : D} {ph : PH} {z : D × PH} (e : gAdd x y ph = some z) : gII (fun i j => some (.int (i + j))) x y ph = some z ∨ gAddS x y ph = some z ∨ gAddT x y ph = some z ∨ gAddL x y ph = some z := by
  cases x <;> cases y <;> first
    | exact .inr (.inr (.inr e))
    | exact .inl e
    | exact .inr (.inl e)
    | exact .inr (.inr (.inl e))
theorem ops_addS : OpS G (fun x y H Q => ∃ i j, x = .str i ∧ y = .str j ∧ i.length + j.length ≤ sizeLine ∧ Q (.str (i ++ j)) H) gAddS := by
  refine .now fun H M ρ ph x y v u d ph1 Q R rx ry e => ?_
  cases rx <;> cases ry <;> try exact nomatch (show (none : Option (D × PH)) = some _ from e)
  rename_i a b
  have e : (if a.length + b.length ≤ sizeLine then some (D.str (a ++ b), ph) else none) = some (d, ph1) := e
  split at e
  · rename_i h; cases e; exact ⟨rfl, _, .str _, fun q => ⟨a, b, rfl, rfl, h, q⟩⟩
  · cases e
theorem ops_addT : OpS G (rCatA G.K) gAddT := by
  intro H M ρ ph x y v u d ph1 Q R rx ry e k
  cases rx <;> cases ry <;> try exact nomatch (show (none : Option (D × PH)) = some _ from e)
  rename_i l vs a h1 n1 r1 m us b h2 n2 r2
  have e : (if l.length + m.length ≤ sizeLine then some (D.tup (l ++ m), ph) else none) = some (d, ph1) := e
  split at e
  · rename_i h
    cases e
    refine ⟨a, b, vs, us, rfl, rfl, .of h1, .of h2, by rw [← r1.length, ← r2.length]; exact h, ?_, ?_, ?_⟩
    · intro z
      subst z
      cases r1
      exact k _ _ _ _ (.refl ..) R (.tup h2 n2 r2)
    · intro _ z
      subst z
      cases r2
      exact k _ _ _ _ (.refl ..) R (.tup h1 n1 (by simpa using r1))
    · intro _ _ p hp
      have E := Ext.laid (M := M) (ρ := ρ) (o := .tup (vs ++ us)) hp
      exact k _ _ _ _ E (R.laid hp) (.tup upd_same (R.noM hp) ((r1.append r2).ext E R.sub))
  · cases e
theorem ops_addL : OpS G rCat gAddL := by
  intro H M ρ ph x y v u d ph1 Q R rx ry e k
  unfold gAddL at e
  cases e1 : lview x ph with
  | none => rw [e1] at e; cases e
  | some l =>
    cases e2 : lview y ph with
    | none => rw [e1, e2] at e; cases e
    | some m =>
      rw [e1, e2] at e
      obtain ⟨a, vs, rfl, h1, r1⟩ := lview_ok R rx e1
      obtain ⟨b, us, rfl, h2, r2⟩ := lview_ok R ry e2
      simp only at e
      split at e
      · rename_i h
        cases e
        refine ⟨a, b, vs, us, rfl, rfl, h1, h2, by rw [← r1.length, ← r2.length]; exact h, fun p hp => ?_⟩
        have E := Ext.laid (M := M) (ρ := ρ) (o := .lst (vs ++ us)) hp
        exact k _ _ _ _ E (R.laid hp) (.lst upd_same (R.noM hp) ((r1.append r2).ext E R.sub))
      · cases e
theorem op_addAll (hK : X.K = G.K) : OpR X (binaryOp .Add) (fun x y H Q => rI0 (fun i j => .int (i + j)) x y H Q ∨ (∃ i j, x = .str i ∧ y = .str j ∧ i.length + j.length ≤ sizeLine ∧ Q (.str (i ++ j)) H) ∨ rCatA G.K x y H Q ∨ rCat x y H Q) :=
  hK ▸ op_add.or (op_add_str.or (op_catA.or op_cat))
theorem ops_addAll : OpS G (fun x y H Q => rI0 (fun i j => .int (i + j)) x y H Q ∨ (∃ i j, x = .str i ∧ y = .str j ∧ i.length + j.length ≤ sizeLine ∧ Q (.str (i ++ j)) H) ∨ rCatA G.K x y H Q ∨ rCat x y H Q) gAdd := by
  intro H M ρ ph x y v u d ph1 Q R rx ry e k
  rcases gAdd_cases e with e | e | e | e
  · exact .inl (ops_ii0 (g := fun i j => .int (i + j)) (fun i j d e => by cases e; exact .int _) H M ρ ph x y v u d ph1 Q R rx ry e k)
  · exact .inr (.inl (ops_addS H M ρ ph x y v u d ph1 Q R rx ry e k))
  · exact .inr (.inr (.inl (ops_addT H M ρ ph x y v u d ph1 Q R rx ry e k)))
  · exact .inr (.inr (.inr (ops_addL H M ρ ph x y v u d ph1 Q R rx ry e k)))
theorem de_add (hK : X.K = G.K) {a b : Expr} {fa fb : FE} {pos : Pos} (ha : DE G X a fa) (hb : DE G X b fb) : DE G X (.BinOp a .Add b pos) (fBin gAdd fa fb) := de_op (op_addAll hK) ops_addAll ha hb
def gSub : D → D → R D := gII fun i j => some (.int (i - j))
theorem de_sub {a b : Expr} {fa fb : FE} {pos : Pos} (ha : DE G X a fa) (hb : DE G X b fb) : DE G X (.BinOp a .Sub b pos) (fBin gSub fa fb) := de_op op_sub (ops_ii0 fun i j d e => by cases e; exact .int _) ha hb
end
end FD

set_option Elab.async false
set_option maxRecDepth 100000
set_option linter.all false
/-! FdC: more expressions: lists that are new, products, comparisons, tests, displays, subscripts, built-ins by name. -/
namespace FD
open PySem PySem.Spec L2
section
variable {G : Gx} {X : Cx}

/-! ### a new list: as a value, or as a changeable thing -/
def fVal (f : FA) : FE := fun σ => bnd (f σ) fun ds => ret (.lst ds)
def fOwn (f : FA) : FE := fun σ ph => match f σ ph with
  | some (ds, ph1) => some (.ref ph1.length, ph1 ++ [.lst ds])
  | none => none
theorem DL.val {e : Expr} {f : FA} (h : DL G X e f) : DE G X e (fVal f) :=
  ⟨h.pe.weak fun σ H Q ⟨s, M, ρ, ph, d, ph1, P, e, k⟩ => by
    obtain ⟨ds, ph2, e1, e2⟩ := bnd_some e
    obtain ⟨rfl, rfl⟩ := ret_some e2
    refine ⟨s, M, ρ, ph, ds, ph2, P, e1, fun a vs H' M' ρ' E R ha h1 m n r => ?_⟩
    exact k (.ref a) H' _ ρ' (E.cool ha P.R.tr) (R.cool n) (.lst h1 (fun q => q.2 rfl) (r.less fun _ q => q.1))⟩
theorem DL.own {e : Expr} {f : FA} (h : DL G X e f) : DE G X e (fOwn f) :=
  ⟨h.pe.weak fun σ H Q ⟨s, M, ρ, ph, d, ph1, P, e, k⟩ => by
    unfold fOwn at e
    cases e1 : f s ph with
    | none => rw [e1] at e; cases e
    | some x =>
      obtain ⟨ds, ph2⟩ := x
      rw [e1] at e
      cases e
      refine ⟨s, M, ρ, ph, ds, ph2, P, e1, fun a vs H' M' ρ' E R ha h1 m n r => ?_⟩
      refine k (.ref a) H' M' (ρ' ++ [some a]) (E.own ha) (R.own n m ⟨a, vs, rfl, h1, r.longer _⟩) (.ref ?_)
      rw [← R.len, List.getElem?_append_right (Nat.le_refl _)]
      simp⟩

/-! ### lists by an operation -/
def OpL (G : Gx) (r : R2) (g : D → D → R (List D)) : Prop := ∀ (H : Hp) (M : Mu) (ρ : Rho) (ph : PH) (x y : D) (v u : V) (ds : List D) (ph1 : PH) (Q : VK), RelH G H M ρ ph → Rep G H M ρ x v → Rep G H M ρ y u → g x y ph = some (ds, ph1) →
  (∀ a vs H' M' ρ', Ext H M ρ H' M' ρ' → RelH G H' M' ρ' ph1 → H a = none → H' a = some (.lst vs) → M' a → some a ∉ ρ' → Reps G H' M' ρ' ds vs → Q (.ref a) H') → r v u H Q
def fBinL (g : D → D → R (List D)) (fa fb : FE) : FA := fun σ => bnd (fa σ) fun x => bnd (fb σ) fun y => g x y
theorem OpL.t {r : R2} {g : D → D → R (List D)} (h : OpL G r g) {fa fb : FE} {σ : St} {H : Hp} {Q : VK} (q : TLof G (fBinL g fa fb) σ H Q) : tOp r (TEof G fa) (TEof G fb) σ H Q := by
  obtain ⟨s, M, ρ, ph, d, ph1, P, e, k⟩ := q
  obtain ⟨x, ph2, e1, e2⟩ := bnd_some e
  obtain ⟨y, ph3, e3, e4⟩ := bnd_some e2
  refine ⟨s, M, ρ, ph, x, ph2, P, e1, fun v H1 M1 ρ1 E1 R1 r1 => ?_⟩
  refine ⟨s, M1, ρ1, ph2, y, ph3, P.go E1 R1, e3, fun u H2 M2 ρ2 E2 R2 r2 => ?_⟩
  exact h H2 M2 ρ2 ph3 x y v u d ph1 Q R2 (r1.ext E2 R1.sub) r2 e4 fun a vs H3 M3 ρ3 E3 R3 ha h1 m n r3 => k a vs H3 M3 ρ3 ((E1.trans E2).trans E3) R3 ((E1.trans E2).dom a ha) h1 m n r3
theorem dl_op {op : Operator} {r : R2} {g : D → D → R (List D)} {a b : Expr} {fa fb : FE} {pos : Pos} (ho : OpR X (binaryOp op) r) (hs : OpL G r g) (ha : DE G X a fa) (hb : DE G X b fb) : DL G X (.BinOp a op b pos) (fBinL g fa fb) :=
  ⟨(pe_op ho ha.pe hb.pe).weak fun _ _ _ q => hs.t q⟩
def gCat (x y : D) : R (List D) := fun ph => match lview x ph, lview y ph with
  | some l, some m => if l.length + m.length ≤ sizeLine then some (l ++ m, ph) else none
  | _, _ => none
theorem opl_cat : OpL G rCat gCat := by
  intro H M ρ ph x y v u d ph1 Q R rx ry e k
  unfold gCat at e
  cases e1 : lview x ph with
  | none => rw [e1] at e; cases e
  | some l =>
    cases e2 : lview y ph with
    | none => rw [e1, e2] at e; cases e
    | some m =>
      rw [e1, e2] at e
      obtain ⟨a, vs, rfl, h1, r1⟩ := lview_ok R rx e1
      obtain ⟨b, us, rfl, h2, r2⟩ := lview_ok R ry e2
      simp only at e
      split at e
      · rename_i h
        cases e
        refine ⟨a, b, vs, us, rfl, rfl, h1, h2, by rw [← r1.length, ← r2.length]; exact h, fun p hp => ?_⟩
        have E := Ext.laidM (M := M) (ρ := ρ) (o := .lst (vs ++ us)) hp
        exact k _ _ _ _ _ E (R.laidM hp) hp upd_same (.inr rfl) (R.fresh hp) ((r1.append r2).ext E R.sub)
      · cases e
theorem dl_cat {a b : Expr} {fa fb : FE} {pos : Pos} (ha : DE G X a fa) (hb : DE G X b fb) : DL G X (.BinOp a .Add b pos) (fBinL gCat fa fb) := dl_op op_cat opl_cat ha hb

/-! ### products and the rest of the ints -/
def mulOk (i j : Int) : Prop := (-(2 ^ 64) < i ∧ i < 2 ^ 64) ∨ (-(2 ^ 64) < j ∧ j < 2 ^ 64)
instance (i j : Int) : Decidable (mulOk i j) := inferInstanceAs (Decidable (_ ∨ _))
def gMul : D → D → R D := gII fun i j => if mulOk i j then some (.int (i * j)) else none
theorem de_mul {a b : Expr} {fa fb : FE} {pos : Pos} (ha : DE G X a fa) (hb : DE G X b fb) : DE G X (.BinOp a .Mult b pos) (fBin gMul fa fb) := de_op op_mul (ops_ii fun i j d e => by
  split at e
  · rename_i h; cases e; exact ⟨h, .int _⟩
  · cases e) ha hb
def divOk (j : Int) : Prop := 0 < j ∧ j < 2 ^ 512
instance (j : Int) : Decidable (divOk j) := inferInstanceAs (Decidable (_ ∧ _))
theorem divOk.w {j : Int} (h : divOk j) : 0 < j ∧ j.natAbs.log2 < 9000 := by
  refine ⟨h.1, ?_⟩
  have h2 : j.natAbs < 2 ^ 512 := by have := h.2; have := h.1; omega
  have h0 : j.natAbs ≠ 0 := by have := h.1; omega
  have := (Nat.log2_lt h0).mpr h2
  omega
def gDiv : D → D → R D := gII fun i j => if divOk j then some (.int (i / j)) else none
theorem de_div {a b : Expr} {fa fb : FE} {pos : Pos} (ha : DE G X a fa) (hb : DE G X b fb) : DE G X (.BinOp a .FloorDiv b pos) (fBin gDiv fa fb) := de_op op_fdivW (ops_ii fun i j d e => by
  split at e
  · rename_i h; cases e; exact ⟨h.w, .int _⟩
  · cases e) ha hb
def gMod : D → D → R D := gII fun i j => if 0 < j then some (.int (i % j)) else none
theorem de_mod {a b : Expr} {fa fb : FE} {pos : Pos} (ha : DE G X a fa) (hb : DE G X b fb) : DE G X (.BinOp a .Mod b pos) (fBin gMod fa fb) := de_op op_mod (ops_ii fun i j d e => by
  split at e
  · rename_i h; cases e; exact ⟨h, .int _⟩
  · cases e) ha hb
def gPow : D → D → R D := gII fun i j => if 0 ≤ j ∧ j ≤ 1000000 ∧ i.natAbs < 2 ^ 64 then some (.int (i ^ j.toNat)) else none
theorem de_pow {a b : Expr} {fa fb : FE} {pos : Pos} (ha : DE G X a fa) (hb : DE G X b fb) : DE G X (.BinOp a .Pow b pos) (fBin gPow fa fb) := de_op op_pow (ops_ii fun i j d e => by
  split at e
  · rename_i h; cases e; exact ⟨h, .int _⟩
  · cases e) ha hb
def gNeg : D → Option D
  | .int i => some (.int (-i))
  | _ => none
def fNeg (fa : FE) : FE := fun σ => bnd (fa σ) fun x => lift (gNeg x)
theorem de_neg {a : Expr} {fa : FE} {pos : Pos} (ha : DE G X a fa) : DE G X (.UnaryOp .USub a pos) (fNeg fa) :=
  ⟨(pe_un un_neg ha.pe).weak fun σ H Q ⟨s, M, ρ, ph, d, ph1, P, e, k⟩ => by
    obtain ⟨x, ph2, e1, e2⟩ := bnd_some e
    obtain ⟨e3, rfl⟩ := lift_some e2
    refine ⟨s, M, ρ, ph, x, ph2, P, e1, fun v H1 M1 ρ1 E1 R1 r1 => ?_⟩
    cases r1 <;> cases e3
    exact ⟨_, rfl, k _ H1 M1 ρ1 E1 R1 (.int _)⟩⟩

/-! ### comparisons of ints -/
def gLt : D → D → R D := gII fun i j => some (.bl (decide (i < j)))
def gLe : D → D → R D := gII fun i j => some (.bl (decide (i ≤ j)))
def gGt : D → D → R D := gII fun i j => some (.bl (decide (j < i)))
def gGe : D → D → R D := gII fun i j => some (.bl (decide (j ≤ i)))
theorem de_cmp {op : CmpOp} {r : R2} {g : D → D → R D} {a b : Expr} {fa fb : FE} {pos : Pos} (ho : OpR X (compareOp op) r) (hs : OpS G r g) (ha : DE G X a fa) (hb : DE G X b fb) (hm : behindInMarks op b = false) : DE G X (.Compare a [op] [b] pos) (fBin g fa fb) :=
  ⟨(pe_cmpR ho ha.pe hb.pe hm).weak fun _ _ _ q => hs.t q⟩
def toB : D → Option Bool
  | .bl b => some b
  | _ => none
def fTest (f : FE) : FT := fun σ => bnd (f σ) fun x => lift (toB x)
theorem TTof.test {f : FE} {σ : St} {H : Hp} {Q : Bool → Hp → Prop} (q : TTof G (fTest f) σ H Q) : TEof G f σ H fun x H' => ∃ k, x = .bl k ∧ Q k H' := by
  obtain ⟨s, M, ρ, ph, b, ph1, P, e, k⟩ := q
  obtain ⟨x, ph2, e1, e2⟩ := bnd_some e
  obtain ⟨e3, rfl⟩ := lift_some e2
  refine ⟨s, M, ρ, ph, x, ph2, P, e1, fun v H1 M1 ρ1 E1 R1 r1 => ?_⟩
  cases r1 <;> cases e3
  exact ⟨_, rfl, k H1 M1 ρ1 E1 R1⟩
theorem dt_cmp {op : CmpOp} {r : R2} {g : D → D → R D} {a b : Expr} {fa fb : FE} {pos : Pos} (ho : OpR X (compareOp op) r) (hs : OpS G r g) (ha : DE G X a fa) (hb : DE G X b fb) (hm : behindInMarks op b = false) : DT G X (.Compare a [op] [b] pos) (fTest (fBin g fa fb)) :=
  ⟨(pt_cmpR ho ha.pe hb.pe hm).weak fun σ H Q q => by
    have q' := TTof.test q
    obtain ⟨s, M, ρ, ph, d, ph1, P, e, k⟩ := q'
    exact hs.t ⟨s, M, ρ, ph, d, ph1, P, e, k⟩⟩
/-- a bool as a test -/
theorem dt_val {e : Expr} {f : FE} (h : DE G X e f) (he : ∀ whole, isTrue e X.env whole = (do let v ← whole; standAt e.pos; holding [v] (truthy v)) := by intro _; rfl) : DT G X e (fTest f) :=
  ⟨(pt_val h.pe he).weak fun σ H Q q => TTof.test q⟩
theorem s_lt : OpS G (rI0 fun i j => .bl (decide (i < j))) gLt := ops_ii0 fun i j d e => by cases e; exact .bl _
theorem s_le : OpS G (rI0 fun i j => .bl (decide (i ≤ j))) gLe := ops_ii0 fun i j d e => by cases e; exact .bl _
theorem s_gt : OpS G (rI0 fun i j => .bl (decide (j < i))) gGt := ops_ii0 fun i j d e => by cases e; exact .bl _
theorem s_ge : OpS G (rI0 fun i j => .bl (decide (j ≤ i))) gGe := ops_ii0 fun i j d e => by cases e; exact .bl _

/-! ### data compared at any depth -/
def pyF : Nat → PH → D → Option PyData
  | _, _, .non => some .none
  | _, _, .bl b => some (.bool b)
  | _, _, .int i => some (.int i)
  | _, _, .str x => some (.str x)
  | n + 1, ph, .tup l => (l.mapM (pyF n ph)).map .tuple
  | n + 1, ph, .lst l => (l.mapM (pyF n ph)).map .list
  | n + 1, ph, .fzl l => (l.mapM (pyF n ph)).map .list
  | n + 1, ph, .ref k => (moL ph[k]?).bind fun l => (l.mapM (pyF n ph)).map .list
  | _, _, _ => none
theorem reps_py {n : Nat} {ph : PH} {H : Hp} {M : Mu} {ρ : Rho} (hh : ∀ (d : D) (v : V) (p : PyData), Rep G H M ρ d v → pyF n ph d = some p → Dp G.K H v p) :
    ∀ {l : List D} {vs : List V} {ps : List PyData}, Reps G H M ρ l vs → l.mapM (pyF n ph) = some ps → DpAll G.K H vs ps
  | _, _, _, .nil, e => by simp at e; subst e; exact .nil
  | _, _, ps, .cons (d := d) (ds := ds) r t, e => by
    rw [List.mapM_cons] at e
    cases e1 : pyF n ph d with
    | none => rw [e1] at e; simp at e
    | some p =>
      rw [e1] at e
      cases e2 : ds.mapM (pyF n ph) with
      | none => rw [e2] at e; simp at e
      | some qs =>
        rw [e2] at e
        simp at e
        subst e
        exact .cons (hh _ _ _ r e1) (reps_py hh t e2)
theorem map_inv {α β : Type} {o : Option α} {f : α → β} {b : β} (h : o.map f = some b) : ∃ a, o = some a ∧ f a = b := by
  cases o with
  | none => cases h
  | some a => cases h; exact ⟨a, rfl, rfl⟩
theorem rep_py : ∀ (n : Nat) {ph : PH} {H : Hp} {M : Mu} {ρ : Rho} (R : RelH G H M ρ ph) (d : D) (v : V) (p : PyData), Rep G H M ρ d v → pyF n ph d = some p → Dp G.K H v p := by
  intro n
  induction n with
  | zero =>
    intro ph H M ρ R d v p r e
    cases r <;> cases e
    · exact .non
    · exact .bl _
    · exact .int _
    · exact .str _
  | succ n ih =>
    intro ph H M ρ R d v p r e
    cases r with
    | non => cases e; exact .non
    | bl b => cases e; exact .bl _
    | int i => cases e; exact .int _
    | str x => cases e; exact .str _
    | tup h m r =>
      obtain ⟨ps, e1, rfl⟩ := map_inv e
      exact .tup (.of h) (reps_py (ih R) r e1)
    | lst h m r =>
      obtain ⟨ps, e1, rfl⟩ := map_inv e
      exact .lst (.of h) (reps_py (ih R) r e1)
    | fzl h r =>
      obtain ⟨ps, e1, rfl⟩ := map_inv e
      refine .lst ?_ (reps_py (ih R) r e1)
      rcases h with ⟨h, _⟩ | h | h
      · exact .inl h
      · rcases h with h | ⟨_, h⟩ <;> cases h
      · exact .inr h
    | obj h m q r => cases e
    | ref h =>
      rename_i k a
      have e : ((moL ph[k]?).bind fun l => (l.mapM (pyF n ph)).map .list) = some p := e
      cases q : moL ph[k]? with
      | none => rw [q] at e; cases e
      | some l =>
        rw [q] at e
        obtain ⟨ps, e1, rfl⟩ := map_inv e
        obtain ⟨b, vs, e2, h2, r2⟩ := lview_ok (x := .ref k) R (.ref h) q
        cases e2
        exact .lst (.of h2) (reps_py (ih R) r2 e1)
def eqDeep : Nat := 40
def gEqD (x y : D) : R Bool := fun ph => match pyF eqDeep ph x, pyF eqDeep ph y with
  | some d, some e => if SeqAt.shaped d = true ∧ SeqAt.shaped e = true then some (PyData.eqv d e, ph) else none
  | _, _ => none
def gEqB : D → D → R Bool
  | .str a, .str b => ret (decide (a = b))
  | x, y => gEqD x y
def gEq (x y : D) : R D := bnd (gEqB x y) fun b => ret (.bl b)
def gNe (x y : D) : R D := bnd (gEqB x y) fun b => ret (.bl (!b))
theorem gEqD_some {x y : D} {ph ph1 : PH} {b : Bool} (h : gEqD x y ph = some (b, ph1)) : ph1 = ph ∧ ∃ d e, pyF eqDeep ph x = some d ∧ pyF eqDeep ph y = some e ∧ SeqAt.shaped d = true ∧ SeqAt.shaped e = true ∧ b = PyData.eqv d e := by
  unfold gEqD at h
  cases h1 : pyF eqDeep ph x with
  | none => rw [h1] at h; cases h
  | some d =>
    cases h2 : pyF eqDeep ph y with
    | none => rw [h1, h2] at h; cases h
    | some e =>
      rw [h1, h2] at h
      simp only at h
      split at h
      · rename_i c; cases h; exact ⟨rfl, d, e, rfl, rfl, c.1, c.2, rfl⟩
      · cases h
theorem gEqB_some {x y : D} {ph ph1 : PH} {b : Bool} (h : gEqB x y ph = some (b, ph1)) : ph1 = ph ∧ ((∃ s t, x = .str s ∧ y = .str t ∧ b = decide (s = t)) ∨ ∃ d e, pyF eqDeep ph x = some d ∧ pyF eqDeep ph y = some e ∧ SeqAt.shaped d = true ∧ SeqAt.shaped e = true ∧ b = PyData.eqv d e) := by
  unfold gEqB at h
  split at h
  · obtain ⟨rfl, rfl⟩ := ret_some h
    exact ⟨rfl, .inl ⟨_, _, rfl, rfl, rfl⟩⟩
  · obtain ⟨e, r⟩ := gEqD_some h
    exact ⟨e, .inr r⟩
def rEqA (K : PySem.W.Frag) : R2 := fun x y H Q => rEq x y H Q ∨ rEqD K x y H Q
def rNeA (K : PySem.W.Frag) : R2 := fun x y H Q => rNe x y H Q ∨ rNeD K x y H Q
theorem op_eqA (hu : X.A.units + 64 < cLine) : OpR X (compareOp .Eq) (rEqA X.K) := fun pins s σ H x y v u Q I rx ry h => h.elim (op_eq pins s σ H x y v u Q I rx ry) (op_eqD hu pins s σ H x y v u Q I rx ry)
theorem op_neA (hu : X.A.units + 64 < cLine) : OpR X (compareOp .NotEq) (rNeA X.K) := fun pins s σ H x y v u Q I rx ry h => h.elim (op_ne pins s σ H x y v u Q I rx ry) (op_neD hu pins s σ H x y v u Q I rx ry)
theorem decStr (s t : Str) : decide (V.str s = V.str t) = decide (s = t) := by
  by_cases h : s = t
  · subst h; simp
  · rw [decide_eq_false h, decide_eq_false fun z => h (by cases z; rfl)]
theorem s_eq : OpS G (rEqA G.K) gEq := .now fun H M ρ ph x y v u d ph1 Q R rx ry e => by
  obtain ⟨b, ph2, e1, e2⟩ := bnd_some e
  obtain ⟨rfl, rfl⟩ := ret_some e2
  obtain ⟨rfl, ⟨s, t, rfl, rfl, rfl⟩ | ⟨p, q, h1, h2, h3, h4, rfl⟩⟩ := gEqB_some e1
  · cases rx; cases ry
    exact ⟨rfl, _, .bl _, fun z => .inl ⟨rfl, by rw [decStr]; exact z⟩⟩
  · exact ⟨rfl, _, .bl _, fun z => .inr ⟨p, q, rep_py _ R _ _ _ rx h1, rep_py _ R _ _ _ ry h2, h3, h4, z⟩⟩
theorem s_ne : OpS G (rNeA G.K) gNe := .now fun H M ρ ph x y v u d ph1 Q R rx ry e => by
  obtain ⟨b, ph2, e1, e2⟩ := bnd_some e
  obtain ⟨rfl, rfl⟩ := ret_some e2
  obtain ⟨rfl, ⟨s, t, rfl, rfl, rfl⟩ | ⟨p, q, h1, h2, h3, h4, rfl⟩⟩ := gEqB_some e1
  · cases rx; cases ry
    exact ⟨rfl, _, .bl _, fun z => .inl ⟨rfl, by rw [decStr]; exact z⟩⟩
  · exact ⟨rfl, _, .bl _, fun z => .inr ⟨p, q, rep_py _ R _ _ _ rx h1, rep_py _ R _ _ _ ry h2, h3, h4, z⟩⟩
/-- is None -/
def isNon : D → Bool
  | .non => true
  | _ => false
def gIsN : D → D → R D
  | x, .non => ret (.bl (isNon x))
  | _, _ => fun _ => none
def gNotN : D → D → R D
  | x, .non => ret (.bl (!isNon x))
  | _, _ => fun _ => none
theorem isNon_ok {H : Hp} {M : Mu} {ρ : Rho} {x : D} {v : V} (r : Rep G H M ρ x v) : decide (v = V.non) = isNon x := by
  cases r <;> first | rfl | exact decide_eq_false (fun e => by cases e)
theorem s_isN : OpS G (fun x y H Q => y = .non ∧ Q (.bl (decide (x = .non))) H) gIsN := .now fun H M ρ ph x y v u d ph1 Q R rx ry e => by
  cases ry <;> try exact nomatch (show (none : Option (D × PH)) = some _ from e)
  obtain ⟨rfl, rfl⟩ := ret_some (a := D.bl (isNon x)) e
  exact ⟨rfl, _, .bl _, fun z => ⟨rfl, by rw [isNon_ok rx]; exact z⟩⟩
theorem s_notN : OpS G (fun x y H Q => y = .non ∧ Q (.bl (!decide (x = .non))) H) gNotN := .now fun H M ρ ph x y v u d ph1 Q R rx ry e => by
  cases ry <;> try exact nomatch (show (none : Option (D × PH)) = some _ from e)
  obtain ⟨rfl, rfl⟩ := ret_some (a := D.bl (!isNon x)) e
  exact ⟨rfl, _, .bl _, fun z => ⟨rfl, by rw [isNon_ok rx]; exact z⟩⟩

/-! ### tests -/
def fNot (f : FT) : FT := fun σ => bnd (f σ) fun b => ret (!b)
def fAnd (f g : FT) : FT := fun σ => bnd (f σ) fun b => if b = true then g σ else ret false
def fOr (f g : FT) : FT := fun σ => bnd (f σ) fun b => if b = true then ret true else g σ
theorem dt_not {a : Expr} {f : FT} {pos : Pos} (h : DT G X a f) : DT G X (.UnaryOp .Not a pos) (fNot f) :=
  ⟨(pt_not h.pt).weak fun σ H Q ⟨s, M, ρ, ph, d, ph1, P, e, k⟩ => by
    obtain ⟨x, ph2, e1, e2⟩ := bnd_some e
    obtain ⟨rfl, rfl⟩ := ret_some e2
    exact ⟨s, M, ρ, ph, x, ph2, P, e1, fun H1 M1 ρ1 E1 R1 => k H1 M1 ρ1 E1 R1⟩⟩
theorem dw_one {op} {a : Expr} {f : FT} {pos : Pos} (h : DT G X a f) : DW G X (.BoolOp op [a] pos) f := ⟨match op with
  | .And => pw_and1 h.pt
  | .Or => pw_or1 h.pt⟩
theorem dw_and {a b : Expr} {rest : List Expr} {f g : FT} {pos : Pos} (h : DT G X a f) (r : DW G X (.BoolOp .And (b :: rest) pos) g) : DW G X (.BoolOp .And (a :: b :: rest) pos) (fAnd f g) :=
  ⟨(pw_and h.pt r.pw).weak fun σ H Q ⟨s, M, ρ, ph, d, ph1, P, e, k⟩ => by
    obtain ⟨x, ph2, e1, e2⟩ := bnd_some e
    refine ⟨s, M, ρ, ph, x, ph2, P, e1, fun H1 M1 ρ1 E1 R1 => ?_⟩
    cases x with
    | false =>
      rw [if_neg Bool.false_ne_true] at e2 ⊢
      obtain ⟨rfl, rfl⟩ := ret_some e2
      exact k H1 M1 ρ1 E1 R1
    | true =>
      rw [if_pos rfl] at e2 ⊢
      exact ⟨s, M1, ρ1, ph2, d, ph1, P.go E1 R1, e2, fun H2 M2 ρ2 E2 R2 => k H2 M2 ρ2 (E1.trans E2) R2⟩⟩
theorem dw_or {a b : Expr} {rest : List Expr} {f g : FT} {pos : Pos} (h : DT G X a f) (r : DW G X (.BoolOp .Or (b :: rest) pos) g) : DW G X (.BoolOp .Or (a :: b :: rest) pos) (fOr f g) :=
  ⟨(pw_or h.pt r.pw).weak fun σ H Q ⟨s, M, ρ, ph, d, ph1, P, e, k⟩ => by
    obtain ⟨x, ph2, e1, e2⟩ := bnd_some e
    refine ⟨s, M, ρ, ph, x, ph2, P, e1, fun H1 M1 ρ1 E1 R1 => ?_⟩
    cases x with
    | true =>
      rw [if_pos rfl] at e2 ⊢
      obtain ⟨rfl, rfl⟩ := ret_some e2
      exact k H1 M1 ρ1 E1 R1
    | false =>
      rw [if_neg Bool.false_ne_true] at e2 ⊢
      exact ⟨s, M1, ρ1, ph2, d, ph1, P.go E1 R1, e2, fun H2 M2 ρ2 E2 R2 => k H2 M2 ρ2 (E1.trans E2) R2⟩⟩
theorem DW.dt {a : Expr} {f : FT} (h : DW G X a f) : DT G X a f := ⟨h.pw.pt⟩
/-- a truth as a value (bools alone) -/
def fBl (f : FT) : FE := fun σ => bnd (f σ) fun b => ret (.bl b)
theorem de_not {a : Expr} {f : FE} {pos : Pos} (h : DE G X a f) : DE G X (.UnaryOp .Not a pos) (fBl (fNot (fTest f))) :=
  ⟨(pe_not h.pe).weak fun σ H Q ⟨s, M, ρ, ph, d, ph1, P, e, k⟩ => by
    obtain ⟨b, ph2, e1, e2⟩ := bnd_some e
    obtain ⟨rfl, rfl⟩ := ret_some e2
    obtain ⟨c, ph3, e3, e4⟩ := bnd_some e1
    obtain ⟨rfl, rfl⟩ := ret_some e4
    obtain ⟨x, ph4, e5, e6⟩ := bnd_some e3
    obtain ⟨e7, rfl⟩ := lift_some e6
    refine ⟨s, M, ρ, ph, x, ph4, P, e5, fun v H1 M1 ρ1 E1 R1 r1 => ?_⟩
    cases r1 <;> cases e7
    exact ⟨_, rfl, k _ H1 M1 ρ1 E1 R1 (.bl _)⟩⟩
theorem de_one {op} {a : Expr} {f : FE} {pos : Pos} (h : DE G X a f) : DE G X (.BoolOp op [a] pos) f := ⟨pe_one h.pe⟩
def fAndV (f g : FE) : FE := fun σ => bnd (fTest f σ) fun b => if b = true then g σ else ret (.bl false)
def fOrV (f g : FE) : FE := fun σ => bnd (fTest f σ) fun b => if b = true then ret (.bl true) else g σ
theorem de_and {a b : Expr} {rest : List Expr} {f g : FE} {pos : Pos} (h : DE G X a f) (r : DE G X (.BoolOp .And (b :: rest) pos) g) : DE G X (.BoolOp .And (a :: b :: rest) pos) (fAndV f g) :=
  ⟨(pe_and h.pe r.pe).weak fun σ H Q ⟨s, M, ρ, ph, d, ph1, P, e, k⟩ => by
    obtain ⟨c, ph2, e1, e2⟩ := bnd_some e
    obtain ⟨x, ph4, e5, e6⟩ := bnd_some e1
    obtain ⟨e7, rfl⟩ := lift_some e6
    refine ⟨s, M, ρ, ph, x, ph4, P, e5, fun v H1 M1 ρ1 E1 R1 r1 => ?_⟩
    cases r1 <;> cases e7
    refine ⟨c, rfl, ?_⟩
    cases c with
    | false =>
      rw [if_neg Bool.false_ne_true] at e2 ⊢
      obtain ⟨rfl, rfl⟩ := ret_some e2
      exact k _ H1 M1 ρ1 E1 R1 (.bl _)
    | true =>
      rw [if_pos rfl] at e2 ⊢
      exact ⟨s, M1, ρ1, ph4, d, ph1, P.go E1 R1, e2, fun v H2 M2 ρ2 E2 R2 r2 => k v H2 M2 ρ2 (E1.trans E2) R2 r2⟩⟩
theorem de_or {a b : Expr} {rest : List Expr} {f g : FE} {pos : Pos} (h : DE G X a f) (r : DE G X (.BoolOp .Or (b :: rest) pos) g) : DE G X (.BoolOp .Or (a :: b :: rest) pos) (fOrV f g) :=
  ⟨(pe_or h.pe r.pe).weak fun σ H Q ⟨s, M, ρ, ph, d, ph1, P, e, k⟩ => by
    obtain ⟨c, ph2, e1, e2⟩ := bnd_some e
    obtain ⟨x, ph4, e5, e6⟩ := bnd_some e1
    obtain ⟨e7, rfl⟩ := lift_some e6
    refine ⟨s, M, ρ, ph, x, ph4, P, e5, fun v H1 M1 ρ1 E1 R1 r1 => ?_⟩
    cases r1 <;> cases e7
    refine ⟨c, rfl, ?_⟩
    cases c with
    | true =>
      rw [if_pos rfl] at e2 ⊢
      obtain ⟨rfl, rfl⟩ := ret_some e2
      exact k _ H1 M1 ρ1 E1 R1 (.bl _)
    | false =>
      rw [if_neg Bool.false_ne_true] at e2 ⊢
      exact ⟨s, M1, ρ1, ph4, d, ph1, P.go E1 R1, e2, fun v H2 M2 ρ2 E2 R2 r2 => k v H2 M2 ρ2 (E1.trans E2) R2 r2⟩⟩
def fIf (c : FT) (f g : FE) : FE := fun σ => bnd (c σ) fun b => if b = true then f σ else g σ
theorem de_if {c a b : Expr} {fc : FT} {fa fb : FE} {pos : Pos} (hc : DT G X c fc) (ha : DE G X a fa) (hb : DE G X b fb) : DE G X (.IfExp c a b pos) (fIf fc fa fb) :=
  ⟨(pe_ifExp hc.pt ha.pe hb.pe).weak fun σ H Q ⟨s, M, ρ, ph, d, ph1, P, e, k⟩ => by
    obtain ⟨x, ph2, e1, e2⟩ := bnd_some e
    refine ⟨s, M, ρ, ph, x, ph2, P, e1, fun H1 M1 ρ1 E1 R1 => ?_⟩
    cases x with
    | true =>
      rw [if_pos rfl] at e2 ⊢
      exact ⟨s, M1, ρ1, ph2, d, ph1, P.go E1 R1, e2, fun v H2 M2 ρ2 E2 R2 r2 => k v H2 M2 ρ2 (E1.trans E2) R2 r2⟩
    | false =>
      rw [if_neg Bool.false_ne_true] at e2 ⊢
      exact ⟨s, M1, ρ1, ph2, d, ph1, P.go E1 R1, e2, fun v H2 M2 ρ2 E2 R2 r2 => k v H2 M2 ρ2 (E1.trans E2) R2 r2⟩⟩

/-! ### displays -/
def fTup (f : FA) : FE := fun σ => bnd (f σ) fun ds => if ds.length ≤ sizeLine then ret (.tup ds) else fun _ => none
def fLst (f : FA) : FA := fun σ => bnd (f σ) fun ds => if ds.length ≤ sizeLine then ret ds else fun _ => none
theorem de_tup {es : List Expr} {f : FA} {x1} {pos : Pos} (h : DA G X es f) : DE G X (.Tuple es x1 pos) (fTup f) :=
  ⟨(pe_tup h.pa).weak fun σ H Q ⟨s, M, ρ, ph, d, ph1, P, e, k⟩ => by
    obtain ⟨ds, ph2, e1, e2⟩ := bnd_some e
    split at e2
    · rename_i z
      obtain ⟨rfl, rfl⟩ := ret_some e2
      refine ⟨s, M, ρ, ph, ds, ph2, P, e1, fun vs H1 M1 ρ1 E1 R1 r1 => ⟨by rw [← r1.length]; exact z, fun p hp => ?_⟩⟩
      have E := Ext.laid (M := M1) (ρ := ρ1) (o := .tup vs) hp
      exact k _ _ _ _ (E1.trans E) (R1.laid hp) (.tup upd_same (R1.noM hp) (r1.ext E R1.sub))
    · cases e2⟩
theorem dl_lst {es : List Expr} {f : FA} {pos : Pos} (h : DA G X es f) : DL G X (.List es pos) (fLst f) :=
  ⟨(pe_lst h.pa).weak fun σ H Q ⟨s, M, ρ, ph, d, ph1, P, e, k⟩ => by
    obtain ⟨ds, ph2, e1, e2⟩ := bnd_some e
    split at e2
    · rename_i z
      obtain ⟨rfl, rfl⟩ := ret_some e2
      refine ⟨s, M, ρ, ph, ds, ph2, P, e1, fun vs H1 M1 ρ1 E1 R1 r1 => ⟨by rw [← r1.length]; exact z, fun p hp => ?_⟩⟩
      have E := Ext.laidM (M := M1) (ρ := ρ1) (o := .lst vs) hp
      exact k _ _ _ _ _ (E1.trans E) (R1.laidM hp) (E1.dom _ hp) upd_same (.inr rfl) (R1.fresh hp) (r1.ext E R1.sub)
    · cases e2⟩
end
end FD

set_option Elab.async false
set_option maxRecDepth 100000
set_option linter.all false
/-! FdS: statements, targets, loops, comprehensions. -/
namespace FD
open PySem PySem.Spec L2
open Classical

/-- what is wanted behind a statement, of its outcome -/
def OutK (G : Gx) (E : Ends) (H : Hp) (M : Mu) (ρ : Rho) : Out → Prop
  | .nx σ1 => ∀ σv1, Locs G H M ρ σ1 σv1 → E.nx σv1 H
  | .rt d => ∀ v, Rep G H M ρ d v → E.rt v H
  | .bk σ1 => ∀ σv1, Locs G H M ρ σ1 σv1 → E.bk σv1 H
  | .ct σ1 => ∀ σv1, Locs G H M ρ σ1 σv1 → E.ct σv1 H
theorem TSof.mk {G : Gx} {f : FS} {E : Ends} {σv : St} {H : Hp} {σ : Sg} {M : Mu} {ρ : Rho} {ph : PH} {o : Out} {ph1 : PH} (P : Pre G H M ρ ph σ σv) (e : f σ ph = some (o, ph1))
    (k : ∀ H' M' ρ', Ext H M ρ H' M' ρ' → RelH G H' M' ρ' ph1 → OutK G E H' M' ρ' o) : TSof G f E σv H :=
  ⟨σ, M, ρ, ph, o, ph1, P, e, fun H' M' ρ' a b => by have := k H' M' ρ' a b; cases o <;> exact this⟩
theorem TSof.un {G : Gx} {f : FS} {E : Ends} {σv : St} {H : Hp} (h : TSof G f E σv H) : ∃ σ M ρ ph o ph1, Pre G H M ρ ph σ σv ∧ f σ ph = some (o, ph1) ∧
    ∀ H' M' ρ', Ext H M ρ H' M' ρ' → RelH G H' M' ρ' ph1 → OutK G E H' M' ρ' o := by
  obtain ⟨σ, M, ρ, ph, o, ph1, P, e, k⟩ := h
  exact ⟨σ, M, ρ, ph, o, ph1, P, e, fun H' M' ρ' a b => by have := k H' M' ρ' a b; cases o <;> exact this⟩

section
variable {G : Gx} {X : Cx} {pos : Pos}

/-! ### small statements, blocks -/
def sSkip : FS := fun σ => ret (.nx σ)
def sBreak : FS := fun σ => ret (.bk σ)
def sCont : FS := fun σ => ret (.ct σ)
def sDrop (f : FE) : FS := fun σ => bnd (f σ) fun _ => ret (.nx σ)
def sRet (f : FE) : FS := fun σ => bnd (f σ) fun d => ret (.rt d)
def sRetN : FS := fun _ => ret (.rt .non)
def sSet (i : Nat) (f : FE) : FS := fun σ => bnd (f σ) fun d => ret (.nx (σ.set i (some d)))
def sIf (c : FT) (f g : FS) : FS := fun σ => bnd (c σ) fun b => if b = true then f σ else g σ
def sSeq (f g : FS) : FS := fun σ => bnd (f σ) fun o => match o with
  | .nx σ1 => g σ1
  | .rt d => ret (.rt d)
  | .bk σ1 => ret (.bk σ1)
  | .ct σ1 => ret (.ct σ1)
theorem ds_pass : DS G X (.Pass pos) sSkip := ⟨ps_pass.weak fun E σ H q => by
  obtain ⟨s, M, ρ, ph, o, ph1, P, e, k⟩ := TSof.un q
  obtain ⟨rfl, rfl⟩ := ret_some e
  exact k H M ρ (.refl ..) P.R σ P.L⟩
theorem ds_break : DS G X (.Break pos) sBreak := ⟨ps_break.weak fun E σ H q => by
  obtain ⟨s, M, ρ, ph, o, ph1, P, e, k⟩ := TSof.un q
  obtain ⟨rfl, rfl⟩ := ret_some e
  exact k H M ρ (.refl ..) P.R σ P.L⟩
theorem ds_cont : DS G X (.Continue pos) sCont := ⟨ps_continue.weak fun E σ H q => by
  obtain ⟨s, M, ρ, ph, o, ph1, P, e, k⟩ := TSof.un q
  obtain ⟨rfl, rfl⟩ := ret_some e
  exact k H M ρ (.refl ..) P.R σ P.L⟩
theorem ds_expr {e : Expr} {f : FE} (h : DE G X e f) (hs : swapsWith e none pos.line X.env = pure false := by rfl) : DS G X (.Expr e pos) (sDrop f) := ⟨(ps_expr h.pe hs).weak fun E σ H q => by
  obtain ⟨s, M, ρ, ph, o, ph1, P, e, k⟩ := TSof.un q
  obtain ⟨d, ph2, e1, e2⟩ := bnd_some e
  obtain ⟨rfl, rfl⟩ := ret_some e2
  exact ⟨s, M, ρ, ph, d, ph2, P, e1, fun v H1 M1 ρ1 E1 R1 r1 => k H1 M1 ρ1 E1 R1 σ (P.go E1 R1).L⟩⟩
theorem ds_ret {e : Expr} {f : FE} (h : DE G X e f) : DS G X (.Return (some e) pos) (sRet f) := ⟨(ps_ret h.pe).weak fun E σ H q => by
  obtain ⟨s, M, ρ, ph, o, ph1, P, e, k⟩ := TSof.un q
  obtain ⟨d, ph2, e1, e2⟩ := bnd_some e
  obtain ⟨rfl, rfl⟩ := ret_some e2
  exact ⟨s, M, ρ, ph, d, ph2, P, e1, fun v H1 M1 ρ1 E1 R1 r1 => k H1 M1 ρ1 E1 R1 v r1⟩⟩
theorem ds_retN : DS G X (.Return none pos) sRetN := ⟨ps_retN.weak fun E σ H q => by
  obtain ⟨s, M, ρ, ph, o, ph1, P, e, k⟩ := TSof.un q
  obtain ⟨rfl, rfl⟩ := ret_some e
  exact k H M ρ (.refl ..) P.R _ .non⟩
theorem ds_if {c : Expr} {a b : List Stmt} {fc : FT} {f g : FS} (hc : DT G X c fc) (ha : DSs G X a f) (hb : DSs G X b g) : DS G X (.If c a b pos) (sIf fc f g) := ⟨(ps_if hc.pt ha.ps hb.ps).weak fun E σ H q => by
  obtain ⟨s, M, ρ, ph, o, ph1, P, e, k⟩ := TSof.un q
  obtain ⟨x, ph2, e1, e2⟩ := bnd_some e
  refine ⟨s, M, ρ, ph, x, ph2, P, e1, fun H1 M1 ρ1 E1 R1 => ?_⟩
  cases x with
  | true =>
    rw [if_pos rfl] at e2 ⊢
    exact .mk (P.go E1 R1) e2 fun H2 M2 ρ2 E2 R2 => k H2 M2 ρ2 (E1.trans E2) R2
  | false =>
    rw [if_neg Bool.false_ne_true] at e2 ⊢
    exact .mk (P.go E1 R1) e2 fun H2 M2 ρ2 E2 R2 => k H2 M2 ρ2 (E1.trans E2) R2⟩
theorem dss_nil : DSs G X [] sSkip := ⟨pss_nil.weak fun E σ H q => by
  obtain ⟨s, M, ρ, ph, o, ph1, P, e, k⟩ := TSof.un q
  obtain ⟨rfl, rfl⟩ := ret_some e
  exact k H M ρ (.refl ..) P.R σ P.L⟩
theorem dss_one {st : Stmt} {f : FS} (h : DS G X st f) : DSs G X [st] f := ⟨pss_one h.ps⟩
theorem dss_cons {st : Stmt} {rest : List Stmt} {f g : FS} (h : DS G X st f) (r : DSs G X rest g) : DSs G X (st :: rest) (sSeq f g) := ⟨(pss_cons h.ps r.ps).weak fun E σ H q => by
  obtain ⟨s, M, ρ, ph, o, ph1, P, e, k⟩ := TSof.un q
  obtain ⟨o1, ph2, e1, e2⟩ := bnd_some e
  refine .mk P e1 fun H1 M1 ρ1 E1 R1 => ?_
  cases o1 with
  | nx σ1 => exact fun σv1 L1 => .mk ⟨L1, R1⟩ e2 fun H2 M2 ρ2 E2 R2 => k H2 M2 ρ2 (E1.trans E2) R2
  | rt d => obtain ⟨rfl, rfl⟩ := ret_some e2; exact k H1 M1 ρ1 E1 R1
  | bk σ1 => obtain ⟨rfl, rfl⟩ := ret_some e2; exact k H1 M1 ρ1 E1 R1
  | ct σ1 => obtain ⟨rfl, rfl⟩ := ret_some e2; exact k H1 M1 ρ1 E1 R1⟩

/-! ### targets -/
/-- a target: which names it may store (ts), what it does -/
def TGof (G : Gx) (ts : List Nat) (g : D → Sg → Option Sg) : TG := fun v σv H Q => ∃ d s s' M ρ ph, Rep G H M ρ d v ∧ Pre G H M ρ ph s σv ∧ g d s = some s' ∧
  ∀ σv', Locs G H M ρ s' σv' → σv'.length = σv.length → (∀ j : Nat, j ∉ ts → σv'[j]? = σv[j]?) → Q σv' H
def TGsof (G : Gx) (ts : List Nat) (g : List D → Sg → Option Sg) : TGs := fun vs σv H Q => ∃ ds s s' M ρ ph, Reps G H M ρ ds vs ∧ Pre G H M ρ ph s σv ∧ g ds s = some s' ∧
  ∀ σv', Locs G H M ρ s' σv' → σv'.length = σv.length → (∀ j : Nat, j ∉ ts → σv'[j]? = σv[j]?) → Q σv' H
structure DG (G : Gx) (X : Cx) (e : Expr) (ts : List Nat) (g : D → Sg → Option Sg) : Prop where
  pg : PG X e (TGof G ts g)
structure DGs (G : Gx) (X : Cx) (es : List Expr) (ts : List Nat) (g : List D → Sg → Option Sg) : Prop where
  pg : PGs X es (TGsof G ts g)
theorem _root_.L2.PG.weak {X : Cx} {e : Expr} {t u : TG} (h : PG X e t) (w : ∀ v σ H Q, u v σ H Q → t v σ H Q) : PG X e u := ⟨fun pins s σ H v u' Q I r q => h.run pins s σ H v u' Q I r (w v σ H Q q)⟩
theorem _root_.L2.PGs.weak {X : Cx} {e : List Expr} {t u : TGs} (h : PGs X e t) (w : ∀ v σ H Q, u v σ H Q → t v σ H Q) : PGs X e u := ⟨fun pins s σ H v u' Q I r q => h.run pins s σ H v u' Q I r (w v σ H Q q)⟩
def tgName (i : Nat) : D → Sg → Option Sg := fun d σ => some (σ.set i (some d))
def tgsNil : List D → Sg → Option Sg
  | [], σ => some σ
  | _, _ => none
def tgsCons (g : D → Sg → Option Sg) (h : List D → Sg → Option Sg) : List D → Sg → Option Sg
  | d :: ds, σ => (g d σ).bind (h ds)
  | _, _ => none
def tgTup (n : Nat) (g : List D → Sg → Option Sg) : D → Sg → Option Sg
  | .tup ds, σ => if ds.length = n then g ds σ else none
  | _, _ => none
theorem dg_name (i : Nat) {x : Str} (hN : X.N.Nodup) (hi : X.N[i]? = some x := by rfl) (hx : Loc X.env.scope x := by first | exact Or.inl rfl | exact Or.inr rfl)
    (hf : X.fn x = true ∨ X.env.scope.names.lookup x = some .local := by first | exact .inl rfl | exact .inr rfl) : DG G X (.Name x pos) [i] (tgName i) := ⟨(pg_name hN hi hx hf).weak fun v σ H Q ⟨d, s, s', M, ρ, ph, r, P, e, k⟩ => by
  cases e
  exact k _ (P.L.set i r) (by simp) fun j hj => List.getElem?_set_ne (by intro q; exact hj (by simp [q]))⟩
theorem dgs_nil : DGs G X [] [] tgsNil := ⟨pgs_nil.weak fun vs σ H Q ⟨ds, s, s', M, ρ, ph, r, P, e, k⟩ => by
  cases r <;> cases e
  exact ⟨rfl, k _ P.L rfl fun _ _ => rfl⟩⟩
theorem dgs_cons {e : Expr} {es : List Expr} {ts us : List Nat} {g : D → Sg → Option Sg} {h : List D → Sg → Option Sg} (h1 : DG G X e ts g) (h2 : DGs G X es us h)
    (hs : (assignEach (e :: es) X.env).map (·.2) = assign e X.env :: (assignEach es X.env).map (·.2) := by rfl) : DGs G X (e :: es) (ts ++ us) (tgsCons g h) := ⟨(pgs_cons h1.pg h2.pg hs).weak fun vs σ H Q ⟨ds, s, s', M, ρ, ph, r, P, e, k⟩ => by
  cases r with
  | nil => cases e
  | @cons d v ds vs r rr =>
    obtain ⟨s1, e1, e2⟩ := Option.bind_eq_some_iff.mp (show (g d s).bind (h ds) = some s' from e)
    refine ⟨v, vs, rfl, d, s, s1, M, ρ, ph, r, P, e1, fun σ1 L1 l1 n1 => ?_⟩
    refine ⟨ds, s1, s', M, ρ, ph, rr, ⟨L1, P.R⟩, e2, fun σ2 L2 l2 n2 => k σ2 L2 (l2.trans l1) fun j hj => ?_⟩
    rw [n2 j (fun q => hj (List.mem_append_right _ q)), n1 j (fun q => hj (List.mem_append_left _ q))]⟩
theorem dg_tup (hK : X.K = G.K) {es : List Expr} {k : Nat} {n : Nat} {ts : List Nat} {g : List D → Sg → Option Sg} (hc : X.calm = true) (h : DGs G X es ts g)
    (hn : (assignEach es X.env).length = n := by rfl) (hst : (assignEach es X.env).findIdx? (·.1) = none := by rfl) : DG G X (.Tuple es k pos) ts (tgTup n g) := ⟨(pg_tup hc h.pg hn hst).weak fun v σ H Q ⟨d, s, s', M, ρ, ph, r, P, e, q⟩ => by
  cases r with
  | @tup l vs a h1 n1 r1 =>
    have e : (if l.length = n then g l s else none) = some s' := e
    split at e
    · rename_i hl
      exact ⟨a, vs, rfl, .of h1, by rw [← r1.length]; exact hl, l, s, s', M, ρ, ph, r1, P, e, q⟩
    · cases e
  | _ => cases e⟩
def sAsg (f : FE) (g : D → Sg → Option Sg) : FS := fun σ => bnd (f σ) fun d => bnd (lift (g d σ)) fun σ1 => ret (.nx σ1)
theorem ds_asg {tg e : Expr} {f : FE} {ts : List Nat} {g : D → Sg → Option Sg} (he : DE G X e f) (hg : DG G X tg ts g) (hs : swapsWithSole [tg] e pos.line X.env = pure false := by rfl) (hw : swappedStores [tg] e X.env = pure none := by rfl)
    (ha : (assignEach [tg] X.env).map (·.2) = [assign tg X.env] := by rfl) : DS G X (.Assign [tg] e pos) (sAsg f g) := ⟨(ps_asg he.pe hg.pg hs hw ha).weak fun E σ H q => by
  obtain ⟨s, M, ρ, ph, o, ph1, P, e, k⟩ := TSof.un q
  obtain ⟨d, ph2, e1, e2⟩ := bnd_some e
  obtain ⟨s1, ph3, e3, e4⟩ := bnd_some e2
  obtain ⟨e5, rfl⟩ := lift_some e3
  obtain ⟨rfl, rfl⟩ := ret_some e4
  refine ⟨s, M, ρ, ph, d, ph2, P, e1, fun v H1 M1 ρ1 E1 R1 r1 => ?_⟩
  exact ⟨d, s, s1, M1, ρ1, ph2, r1, P.go E1 R1, e5, fun σ1 L1 _ _ => k H1 M1 ρ1 E1 R1 σ1 L1⟩⟩

theorem ds_set (i : Nat) {x : Str} {e : Expr} {f : FE} {pos' : Pos} (hN : X.N.Nodup) (he : DE G X e f) (hi : X.N[i]? = some x := by rfl) (hx : Loc X.env.scope x := by first | exact Or.inl rfl | exact Or.inr rfl)
    (hs : swapsWith e (some (.Name x pos')) pos.line X.env = pure false := by rfl) (hf : X.fn x = true ∨ X.env.scope.names.lookup x = some .local := by first | exact .inl rfl | exact .inr rfl) : DS G X (.Assign [.Name x pos'] e pos) (sSet i f) := ⟨(ps_set hN hi hx he.pe hs hf).weak fun E σ H q => by
  obtain ⟨s, M, ρ, ph, o, ph1, P, e, k⟩ := TSof.un q
  obtain ⟨d, ph2, e1, e2⟩ := bnd_some e
  obtain ⟨rfl, rfl⟩ := ret_some e2
  exact ⟨s, M, ρ, ph, d, ph2, P, e1, fun v H1 M1 ρ1 E1 R1 r1 => k H1 M1 ρ1 E1 R1 _ ((P.go E1 R1).L.set i r1)⟩⟩

/-! ### while -/
def iterW (c : FT) (b : FS) : Nat → Sg → R Out
  | 0, _ => fun _ => none
  | n + 1, σ => bnd (c σ) fun t => if t = true then bnd (b σ) fun o => match o with
    | .nx σ1 => iterW c b n σ1
    | .ct σ1 => iterW c b n σ1
    | .bk σ1 => ret (.nx σ1)
    | .rt d => ret (.rt d)
    else ret (.nx σ)
theorem iterW_more {c : FT} {b : FS} : ∀ {n : Nat} {σ : Sg} {ph : PH} {r : Out × PH}, iterW c b n σ ph = some r → iterW c b (n + 1) σ ph = some r
  | 0, _, _, _, h => by cases h
  | n + 1, σ, ph, r, h => by
    obtain ⟨t, ph1, e1, e2⟩ := bnd_some (show bnd (c σ) _ ph = some r from h)
    refine bnd_mk (m := c σ) e1 ?_
    cases t with
    | false => exact e2
    | true =>
      rw [if_pos rfl] at e2 ⊢
      obtain ⟨o, ph2, e3, e4⟩ := bnd_some e2
      refine bnd_mk e3 ?_
      cases o with
      | nx σ1 => exact iterW_more e4
      | ct σ1 => exact iterW_more e4
      | bk σ1 => exact e4
      | rt d => exact e4
noncomputable def sWhile (c : FT) (b : FS) : FS := fun σ ph => if h : ∃ r, ∃ n, iterW c b n σ ph = some r then some h.choose else none
theorem sWhile_some {c : FT} {b : FS} {σ : Sg} {ph : PH} {r : Out × PH} : sWhile c b σ ph = some r ↔ ∃ n, iterW c b n σ ph = some r := by
  have same : ∀ {m n : Nat} {r r' : Out × PH}, iterW c b m σ ph = some r → iterW c b n σ ph = some r' → r = r' := by
    have up : ∀ (k : Nat) {n : Nat} {r : Out × PH}, iterW c b n σ ph = some r → iterW c b (n + k) σ ph = some r := fun k => by
      induction k with
      | zero => exact fun h => h
      | succ k ih => exact fun h => iterW_more (ih h)
    intro m n r r' h h'
    have a := up n h
    have b' := up m h'
    rw [Nat.add_comm] at b'
    rw [a] at b'
    exact Option.some.inj b'
  constructor
  · intro h
    unfold sWhile at h
    split at h
    · rename_i q; cases h; exact q.choose_spec
    · cases h
  · rintro ⟨n, h⟩
    have q : ∃ r, ∃ n, iterW c b n σ ph = some r := ⟨r, n, h⟩
    unfold sWhile
    rw [dif_pos q]
    obtain ⟨m, hm⟩ := q.choose_spec
    rw [same hm h]
/-- one turn -/
theorem sWhile_eq (c : FT) (b : FS) (σ : Sg) : sWhile c b σ = bnd (c σ) fun t => if t = true then bnd (b σ) fun o => match o with
    | .nx σ1 => sWhile c b σ1
    | .ct σ1 => sWhile c b σ1
    | .bk σ1 => ret (.nx σ1)
    | .rt d => ret (.rt d)
    else ret (.nx σ) := by
  funext ph
  apply Option.ext
  intro r
  constructor
  · intro h
    obtain ⟨n, h⟩ := sWhile_some.mp h
    cases n with
    | zero => cases h
    | succ n =>
      obtain ⟨t, ph1, e1, e2⟩ := bnd_some (show bnd (c σ) _ ph = some r from h)
      refine bnd_mk e1 ?_
      cases t with
      | false => exact e2
      | true =>
        rw [if_pos rfl] at e2 ⊢
        obtain ⟨o, ph2, e3, e4⟩ := bnd_some e2
        refine bnd_mk e3 ?_
        cases o with
        | nx σ1 => exact sWhile_some.mpr ⟨n, e4⟩
        | ct σ1 => exact sWhile_some.mpr ⟨n, e4⟩
        | bk σ1 => exact e4
        | rt d => exact e4
  · intro h
    obtain ⟨t, ph1, e1, e2⟩ := bnd_some h
    cases t with
    | false => exact sWhile_some.mpr ⟨1, bnd_mk (m := c σ) e1 e2⟩
    | true =>
      rw [if_pos rfl] at e2
      obtain ⟨o, ph2, e3, e4⟩ := bnd_some e2
      have fin : ∀ n, (match o with
          | .nx σ1 => iterW c b n σ1
          | .ct σ1 => iterW c b n σ1
          | .bk σ1 => ret (.nx σ1)
          | .rt d => ret (.rt d) : R Out) ph2 = some r → sWhile c b σ ph = some r := fun n q =>
        sWhile_some.mpr ⟨n + 1, bnd_mk (m := c σ) e1 (by rw [if_pos rfl]; exact bnd_mk e3 q)⟩
      cases o with
      | nx σ1 => obtain ⟨n, q⟩ := sWhile_some.mp e4; exact fin n q
      | ct σ1 => obtain ⟨n, q⟩ := sWhile_some.mp e4; exact fin n q
      | bk σ1 => exact fin 0 e4
      | rt d => exact fin 0 e4
theorem ds_while {c : Expr} {body : List Stmt} {fc : FT} {fb : FS} (hp : PassesOwn (model X.prog X.w) X.A X.env X.xe) (hc : DT G X c fc) (hb : DSs G X body fb) : DS G X (.While c body [] pos) (sWhile fc fb) := ⟨(ps_while hp hc.pt hb.ps).weak fun E σ H q => by
  obtain ⟨s, M, ρ, ph, o, ph1, P, e, k⟩ := TSof.un q
  obtain ⟨n, e⟩ := sWhile_some.mp e
  refine ⟨fun m σv H1 => ∃ s1 M1 ρ1 ph2, Ext H M ρ H1 M1 ρ1 ∧ Pre G H1 M1 ρ1 ph2 s1 σv ∧ iterW fc fb m s1 ph2 = some (o, ph1), ⟨n, s, M, ρ, ph, .refl .., P, e⟩, ?_⟩
  rintro m σv H1 ⟨s1, M1, ρ1, ph2, E1, P1, e1⟩
  cases m with
  | zero => cases e1
  | succ m =>
    obtain ⟨t, ph3, e2, e3⟩ := bnd_some (show bnd (fc s1) _ ph2 = some (o, ph1) from e1)
    refine ⟨s1, M1, ρ1, ph2, t, ph3, P1, e2, fun H2 M2 ρ2 E2 R2 => ?_⟩
    cases t with
    | false =>
      rw [if_neg Bool.false_ne_true] at e3 ⊢
      obtain ⟨rfl, rfl⟩ := ret_some e3
      exact k H2 M2 ρ2 (E1.trans E2) R2 σv (P1.go E2 R2).L
    | true =>
      rw [if_pos rfl] at e3 ⊢
      obtain ⟨o1, ph4, e4, e5⟩ := bnd_some e3
      refine ⟨fun σv H3 => ∃ s1 M1 ρ1 ph2, Ext H M ρ H3 M1 ρ1 ∧ Pre G H3 M1 ρ1 ph2 s1 σv ∧ iterW fc fb m s1 ph2 = some (o, ph1), fun _ _ w => ⟨m, Nat.lt_succ_self m, w⟩, ?_⟩
      refine .mk (P1.go E2 R2) e4 fun H3 M3 ρ3 E3 R3 => ?_
      have EE := (E1.trans E2).trans E3
      cases o1 with
      | nx σ1 => exact fun σv1 L1 => ⟨σ1, M3, ρ3, ph4, EE, ⟨L1, R3⟩, e5⟩
      | ct σ1 => exact fun σv1 L1 => ⟨σ1, M3, ρ3, ph4, EE, ⟨L1, R3⟩, e5⟩
      | bk σ1 => obtain ⟨rfl, rfl⟩ := ret_some e5; exact fun σv1 L1 => k H3 M3 ρ3 EE R3 σv1 L1
      | rt d => obtain ⟨rfl, rfl⟩ := ret_some e5; exact fun v r => k H3 M3 ρ3 EE R3 v r⟩

/-! ### what is walked -/
/-- the list that is walked stands (gd: it is a changeable one) -/
def stands (gd : Option Nat) (ds : List D) (ph : PH) : Prop := ∀ n, gd = some n → moL ph[n]? = some ds
def Walks (G : Gx) (J : It) (H0 : Hp) (M0 : Mu) (ρ0 : Rho) (gd : Option Nat) (ds : List D) : Prop := ∀ (H : Hp) (M : Mu) (ρ : Rho) (ph : PH), Ext H0 M0 ρ0 H M ρ → RelH G H M ρ ph → stands gd ds ph → ∀ i : Nat,
  (∀ d, ds[i]? = some d → J.go i H ∧ ∀ x H', J.yld i H x H' → ∃ M', Ext H M ρ H' M' ρ ∧ RelH G H' M' ρ ph ∧ Rep G H' M' ρ d x) ∧ (ds.length ≤ i → J.stop i H)
abbrev FI := Sg → R (List D × Option Nat)
def TIof (G : Gx) (f : FI) : TI := fun σv H R => ∃ s M ρ ph ds gd ph1, Pre G H M ρ ph s σv ∧ f s ph = some ((ds, gd), ph1) ∧
  ∀ J H' M' ρ', Ext H M ρ H' M' ρ' → RelH G H' M' ρ' ph1 → Walks G J H' M' ρ' gd ds → R J H'
structure DI (G : Gx) (X : Cx) (tg iter : Expr) (f : FI) : Prop where
  pi : PI X tg iter (TIof G f)
theorem _root_.L2.PI.weak {X : Cx} {tg e : Expr} {t u : TI} (h : PI X tg e t) (w : ∀ σ H Q, u σ H Q → t σ H Q) : PI X tg e u := ⟨fun pins s σ H Q I q => h.run pins s σ H Q I (w σ H Q q)⟩

/-! ### for -/
noncomputable def forD (gd : Option Nat) (ds0 : List D) (g : D → Sg → Option Sg) (b : FS) : List D → Sg → R Out
  | [], σ => fun ph => if stands gd ds0 ph then some (.nx σ, ph) else none
  | d :: r, σ => fun ph => if stands gd ds0 ph then bnd (lift (g d σ)) (fun σ1 => bnd (b σ1) fun o => match o with
    | .nx σ2 => forD gd ds0 g b r σ2
    | .ct σ2 => forD gd ds0 g b r σ2
    | .bk σ2 => ret (.nx σ2)
    | .rt d => ret (.rt d)) ph else none
noncomputable def sFor (f : FI) (g : D → Sg → Option Sg) (b : FS) : FS := fun σ => bnd (f σ) fun x => forD x.2 x.1 g b x.1 σ
theorem ds_for {tg iter : Expr} {body : List Stmt} {f : FI} {ts : List Nat} {g : D → Sg → Option Sg} {fb : FS} (hp : PassesOwn (model X.prog X.w) X.A X.env X.xe) (hc : X.calm = true) (hi : DI G X tg iter f) (hg : DG G X tg ts g) (hb : DSs G X body fb)
    (hs : ∀ x, foldedSetIterable iter X.env x = pure x := by intro _; rfl) : DS G X (.For tg iter body [] pos) (sFor f g fb) := ⟨(ps_for hp hc hi.pi hg.pg hb.ps hs).weak fun E σ H q => by
  obtain ⟨s, M, ρ, ph, o, ph1, P, e, k⟩ := TSof.un q
  obtain ⟨⟨ds, gd⟩, ph2, e1, e2⟩ := bnd_some e
  refine ⟨s, M, ρ, ph, ds, gd, ph2, P, e1, fun J H1 M1 ρ1 E1 R1 W1 => ?_⟩
  refine ⟨fun i m σv H2 => ∃ s2 M2 ρ2 ph3, Ext H1 M1 ρ1 H2 M2 ρ2 ∧ Pre G H2 M2 ρ2 ph3 s2 σv ∧ m = ds.length - i ∧ forD gd ds g fb (ds.drop i) s2 ph3 = some (o, ph1), ⟨_, s, M1, ρ1, ph2, .refl .., P.go E1 R1, rfl, e2⟩, ?_⟩
  rintro i m σv H2 ⟨s2, M2, ρ2, ph3, E2, P2, rfl, e3⟩
  by_cases hi : i < ds.length
  · rw [List.drop_eq_getElem_cons hi] at e3
    have e3 : (if stands gd ds ph3 then bnd (lift (g ds[i] s2)) _ ph3 else none) = some (o, ph1) := e3
    split at e3
    · rename_i st
      obtain ⟨s3, ph4, e4', e5⟩ := bnd_some e3
      obtain ⟨e4, e4''⟩ := lift_some e4'
      rw [← e4''] at e5
      obtain ⟨o1, ph5, e6, e7⟩ := bnd_some e5
      obtain ⟨go, yl⟩ := (W1 H2 M2 ρ2 ph3 E2 P2.R st i).1 ds[i] (by simp [hi])
      refine .inr ⟨go, fun σv H3 => ∃ s2 M2 ρ2 ph3, Ext H1 M1 ρ1 H3 M2 ρ2 ∧ Pre G H3 M2 ρ2 ph3 s2 σv ∧ forD gd ds g fb (ds.drop (i + 1)) s2 ph3 = some (o, ph1), fun _ _ ⟨a, b, c, d, e, f, h⟩ => ⟨ds.length - (i + 1), by omega, a, b, c, d, e, f, rfl, h⟩, fun x H3 y => ?_⟩
      obtain ⟨M3, E3, R3, r3⟩ := yl x H3 y
      refine ⟨ds[i], s2, s3, M3, ρ2, ph3, r3, P2.go E3 R3, e4, fun σv3 L3 _ _ => ?_⟩
      refine .mk ⟨L3, R3⟩ e6 fun H4 M4 ρ4 E4 R4 => ?_
      have EE := (E2.trans E3).trans E4
      cases o1 with
      | nx σ1 => exact fun σv1 L1 => ⟨σ1, M4, ρ4, ph5, EE, ⟨L1, R4⟩, e7⟩
      | ct σ1 => exact fun σv1 L1 => ⟨σ1, M4, ρ4, ph5, EE, ⟨L1, R4⟩, e7⟩
      | bk σ1 => obtain ⟨rfl, rfl⟩ := ret_some e7; exact fun σv1 L1 => k H4 M4 ρ4 (E1.trans EE) R4 σv1 L1
      | rt d => obtain ⟨rfl, rfl⟩ := ret_some e7; exact fun v r => k H4 M4 ρ4 (E1.trans EE) R4 v r
    · cases e3
  · have hi' : ds.length ≤ i := Nat.le_of_not_lt hi
    rw [List.drop_eq_nil_of_le hi'] at e3
    have e3 : (if stands gd ds ph3 then some (Out.nx s2, ph3) else none) = some (o, ph1) := e3
    split at e3
    · rename_i st
      cases e3
      exact .inl ⟨(W1 H2 M2 ρ2 _ E2 P2.R st i).2 hi', k H2 M2 ρ2 (E1.trans E2) P2.R σv P2.L⟩
    · cases e3⟩
end
end FD

set_option Elab.async false
set_option maxRecDepth 100000
set_option linter.all false
/-! FdL: what is walked; list comprehensions. -/
namespace FD
open PySem PySem.Spec L2
open Classical
section
variable {G : Gx} {X : Cx} {pos : Pos}

def itemsOf : D → R (List D × Option Nat)
  | .tup l => ret (l, none)
  | .lst l => ret (l, none)
  | .fzl l => ret (l, none)
  | .ref n => fun ph => match moL ph[n]? with
    | some l => some ((l, some n), ph)
    | none => none
  | _ => fun _ => none
def iSeq (f : FE) : FI := fun σ => bnd (f σ) itemsOf
theorem walks_list {K : PySem.W.Frag} {H0 : Hp} {M0 : Mu} {ρ0 : Rho} {gd : Option Nat} {ds : List D} {a : Addr}
    (h : ∀ H M ρ ph, Ext H0 M0 ρ0 H M ρ → RelH G H M ρ ph → stands gd ds ph → ∃ vs, SqL K H a vs ∧ Reps G H M ρ ds vs) : Walks G (Itl K a) H0 M0 ρ0 gd ds := by
  intro H M ρ ph E R st i
  obtain ⟨vs, hv, r⟩ := h H M ρ ph E R st
  refine ⟨fun d e => ?_, fun hi => ⟨vs, hv, by rw [← r.length]; exact hi⟩⟩
  obtain ⟨v, e1, r1⟩ := r.get e
  refine ⟨⟨vs, v, hv, e1⟩, fun x H' ⟨e2, y⟩ => ?_⟩
  subst e2
  have := y vs hv
  rw [e1] at this
  cases this
  exact ⟨M, .refl .., R, r1⟩
theorem walks_tup {K : PySem.W.Frag} {H0 : Hp} {M0 : Mu} {ρ0 : Rho} {gd : Option Nat} {ds : List D} {a : Addr}
    (h : ∀ H M ρ ph, Ext H0 M0 ρ0 H M ρ → RelH G H M ρ ph → stands gd ds ph → ∃ vs, SqT K H a vs ∧ Reps G H M ρ ds vs) : Walks G (Itt K a) H0 M0 ρ0 gd ds := by
  intro H M ρ ph E R st i
  obtain ⟨vs, hv, r⟩ := h H M ρ ph E R st
  refine ⟨fun d e => ?_, fun hi => ⟨vs, hv, by rw [← r.length]; exact hi⟩⟩
  obtain ⟨v, e1, r1⟩ := r.get e
  refine ⟨⟨vs, v, hv, e1⟩, fun x H' ⟨e2, y⟩ => ?_⟩
  subst e2
  have := y vs hv
  rw [e1] at this
  cases this
  exact ⟨M, .refl .., R, r1⟩
/-- a list in sight stays in sight while it stands -/
theorem keepL {H0 : Hp} {M0 : Mu} {ρ0 : Rho} {ph0 : PH} {d : D} {v : V} {ds : List D} {gd : Option Nat} {ph1 : PH} (R0 : RelH G H0 M0 ρ0 ph0) (r : Rep G H0 M0 ρ0 d v) (e : itemsOf d ph0 = some ((ds, gd), ph1)) :
    ph1 = ph0 ∧ ∃ a, v = .ref a ∧ ((∀ H M ρ ph, Ext H0 M0 ρ0 H M ρ → RelH G H M ρ ph → stands gd ds ph → ∃ vs, SqL G.K H a vs ∧ Reps G H M ρ ds vs) ∨
      (∀ H M ρ ph, Ext H0 M0 ρ0 H M ρ → RelH G H M ρ ph → stands gd ds ph → ∃ vs, SqT G.K H a vs ∧ Reps G H M ρ ds vs)) ∧ stands gd ds ph0 := by
  cases r with
  | @tup l vs a h n r =>
    obtain ⟨e1, rfl⟩ := ret_some e
    cases e1
    refine ⟨rfl, a, rfl, .inr fun H M ρ ph E R st => ?_, fun n h => by cases h⟩
    exact ⟨vs, .of (E.old R0.sub h n).1, r.ext E R0.sub⟩
  | @lst l vs a h n r =>
    obtain ⟨e1, rfl⟩ := ret_some e
    cases e1
    refine ⟨rfl, a, rfl, .inl fun H M ρ ph E R st => ?_, fun n h => by cases h⟩
    exact ⟨vs, .of (E.old R0.sub h n).1, r.ext E R0.sub⟩
  | @fzl l vs a h r =>
    obtain ⟨e1, rfl⟩ := ret_some e
    cases e1
    refine ⟨rfl, a, rfl, .inl fun H M ρ ph E R st => ?_, fun n h => by cases h⟩
    refine ⟨vs, ?_, r.ext E R0.sub⟩
    rcases h with ⟨h, n⟩ | h | h
    · rcases h with h | ⟨o, h⟩
      · exact .of (E.old R0.sub h n).1
      · exact .inl (.inr ⟨o, (E.old R0.sub h n).1⟩)
    · rcases h with h | ⟨_, h⟩ <;> cases h
    · exact .inr h
  | @ref n a h =>
    have e : (match moL ph0[n]? with | some l => some ((l, some n), ph0) | none => none) = some ((ds, gd), ph1) := e
    cases q : moL ph0[n]? with
    | none => rw [q] at e; cases e
    | some l =>
      rw [q] at e
      cases e
      refine ⟨rfl, a, rfl, .inl fun H M ρ ph E R st => ?_, fun m h => by cases h; exact q⟩
      obtain ⟨b, vs, e2, h2, r2⟩ := lview_ok (x := .ref n) R (.ref (E.idx h)) (st n rfl)
      cases e2
      exact ⟨vs, .of h2, r2⟩
  | _ => cases e
theorem di_seq (hK : X.K = G.K) {tg e : Expr} {f : FE} (h : DE G X e f) : DI G X tg e (iSeq f) := ⟨⟨fun pins s σ H R I q => by
  obtain ⟨t, M, ρ, ph, ds, gd, ph1, P, e1, k⟩ := q
  obtain ⟨d, ph2, e2, e3⟩ := bnd_some e1
  by_cases hd : ∃ l, d = .tup l
  · obtain ⟨l, rfl⟩ := hd
    refine (pi_tup h.pe).run pins s σ H R I ⟨t, M, ρ, ph, _, ph2, P, e2, fun v H' M' ρ' E1 R1 r1 => ?_⟩
    obtain ⟨rfl, a, rfl, c, st⟩ := keepL R1 r1 e3
    rcases c with c | c
    · obtain ⟨vs, hv, _⟩ := c _ _ _ _ (.refl ..) R1 st
      cases r1 with
      | tup hh nn rr => exact ⟨a, rfl, ⟨_, .of hh⟩, k _ H' M' ρ' E1 R1 (walks_tup (K := X.K) fun H2 M2 ρ2 ph2 E2 R2 _ => ⟨_, .of (E2.old R1.sub hh nn).1, by
          have := rr.ext E2 R1.sub
          cases e3
          exact this⟩)⟩
    · obtain ⟨vs, hv, _⟩ := c _ _ _ _ (.refl ..) R1 st
      exact ⟨a, rfl, ⟨vs, hK ▸ hv⟩, k _ H' M' ρ' E1 R1 (hK ▸ walks_tup c)⟩
  · refine (pi_list h.pe).run pins s σ H R I ⟨t, M, ρ, ph, _, ph2, P, e2, fun v H' M' ρ' E1 R1 r1 => ?_⟩
    obtain ⟨rfl, a, rfl, c, st⟩ := keepL R1 r1 e3
    have c' : ∀ H M ρ ph, Ext H' M' ρ' H M ρ → RelH G H M ρ ph → stands gd ds ph → ∃ vs, SqL G.K H a vs ∧ Reps G H M ρ ds vs := by
      cases r1 with
      | tup => exact absurd ⟨_, rfl⟩ hd
      | @lst l vs a h n r =>
        obtain ⟨e4, _⟩ := ret_some e3
        cases e4
        exact fun H M ρ ph E R st => ⟨vs, .of (E.old R1.sub h n).1, r.ext E R1.sub⟩
      | @fzl l vs a h r =>
        obtain ⟨e4, e4'⟩ := ret_some e3
        cases e4
        intro H M ρ ph E R st
        refine ⟨vs, ?_, r.ext E R1.sub⟩
        rcases h with ⟨h, n⟩ | h | h
        · rcases h with h | ⟨o, h⟩
          · exact .of (E.old R1.sub h n).1
          · exact .inl (.inr ⟨o, (E.old R1.sub h n).1⟩)
        · rcases h with h | ⟨_, h⟩ <;> cases h
        · exact .inr h
      | @ref n a h =>
        intro H M ρ ph E R st'
        have e3 : (match moL ph1[n]? with | some l => some ((l, some n), ph1) | none => none) = some ((ds, gd), ph1) := e3
        cases q : moL ph1[n]? with
        | none => rw [q] at e3; cases e3
        | some l =>
          rw [q] at e3
          cases e3
          obtain ⟨b, vs, e2, h2, r2⟩ := lview_ok (x := .ref n) R (.ref (E.idx h)) (st' n rfl)
          cases e2
          exact ⟨vs, .of h2, r2⟩
      | _ => cases e3
    obtain ⟨vs, hv, _⟩ := c' _ _ _ _ (.refl ..) R1 st
    exact ⟨a, rfl, ⟨vs, hK ▸ hv⟩, k _ H' M' ρ' E1 R1 (hK ▸ walks_list c')⟩⟩⟩

/-! ### ranges -/
def upto (lo : Int) (n : Nat) : List D := (List.range n).map fun (i : Nat) => .int (lo + (i : Int))
theorem walks_range {H0 : Hp} {M0 : Mu} {ρ0 : Rho} {lo : Int} {n : Nat} : Walks G (Itr lo n) H0 M0 ρ0 none (upto lo n) := by
  intro H M ρ ph E R st i
  refine ⟨fun d e => ?_, fun hi => (show n ≤ i by simpa [upto] using hi)⟩
  unfold upto at e
  rw [List.getElem?_map] at e
  cases q : (List.range n)[i]? with
  | none => rw [q] at e; cases e
  | some j =>
    rw [q] at e
    cases e
    have hi : i < n := by have := (List.getElem?_eq_some_iff.mp q).1; simpa using this
    have hj : i = j := by rw [List.getElem?_range hi] at q; exact Option.some.inj q
    subst hj
    exact ⟨hi, fun x H' ⟨e1, e2⟩ => by subst e1 e2; exact ⟨M, .refl .., R, .int _⟩⟩
def rgOk (j : Int) : Prop := -(2 ^ 62) ≤ j ∧ j < 2 ^ 62
instance (j : Int) : Decidable (rgOk j) := inferInstanceAs (Decidable (_ ∧ _))
def rg1 : List D → Option (List D × Option Nat)
  | [.int j] => if rgOk j then some (upto 0 j.toNat, none) else none
  | _ => none
def rg2 : List D → Option (List D × Option Nat)
  | [.int i, .int j] => if rgOk i ∧ rgOk j then some (upto i (j - i).toNat, none) else none
  | _ => none
def iRange1 (f : FA) : FI := fun σ => bnd (f σ) fun ds => lift (rg1 ds)
def iRange2 (f : FA) : FI := fun σ => bnd (f σ) fun ds => lift (rg2 ds)
theorem di_range1 {tg a : Expr} {f : FA} {p pos : Pos} (hm : X.mg "range" = none) (h : DA G X [a] f) (hg : Gl X "range" := by rfl) (hs : starEach [a] X.env = [(false, eval a X.env)] := by rfl) : DI G X tg (.Call (.Name "range" p) [a] [] pos) (iRange1 f) :=
  ⟨(pi_range1 hg hm h.pa hs).weak fun σ H R q => by
    obtain ⟨t, M, ρ, ph, ds, gd, ph1, P, e1, k⟩ := q
    obtain ⟨xs, ph2, e2, e3⟩ := bnd_some e1
    obtain ⟨e4, rfl⟩ := lift_some e3
    refine ⟨t, M, ρ, ph, xs, ph2, P, e2, fun vs H' M' ρ' E1 R1 r1 => ?_⟩
    cases r1 with
    | nil => exact nomatch (show (none : Option (List D × Option Nat)) = some _ from e4)
    | cons r1 r2 =>
      cases r2 with
      | cons _ _ => cases r1 <;> exact nomatch (show (none : Option (List D × Option Nat)) = some _ from e4)
      | nil =>
        cases r1 <;> try exact nomatch (show (none : Option (List D × Option Nat)) = some _ from e4)
        rename_i j
        have e4 : (if rgOk j then some (upto 0 j.toNat, none) else none) = some (ds, gd) := e4
        split at e4
        · rename_i c
          cases e4
          exact ⟨j, rfl, c.1, c.2, k _ H' M' ρ' E1 R1 walks_range⟩
        · cases e4⟩
theorem di_range2 {tg a b : Expr} {f : FA} {p pos : Pos} (hm : X.mg "range" = none) (h : DA G X [a, b] f) (hg : Gl X "range" := by rfl) (hs : starEach [a, b] X.env = [(false, eval a X.env), (false, eval b X.env)] := by rfl) (hs2 : starEach [b] X.env = [(false, eval b X.env)] := by rfl) :
    DI G X tg (.Call (.Name "range" p) [a, b] [] pos) (iRange2 f) :=
  ⟨(pi_range2 hg hm h.pa hs hs2).weak fun σ H R q => by
    obtain ⟨t, M, ρ, ph, ds, gd, ph1, P, e1, k⟩ := q
    obtain ⟨xs, ph2, e2, e3⟩ := bnd_some e1
    obtain ⟨e4, rfl⟩ := lift_some e3
    refine ⟨t, M, ρ, ph, xs, ph2, P, e2, fun vs H' M' ρ' E1 R1 r1 => ?_⟩
    cases r1 with
    | nil => exact nomatch (show (none : Option (List D × Option Nat)) = some _ from e4)
    | cons r1 r2 =>
      cases r2 with
      | nil => cases r1 <;> exact nomatch (show (none : Option (List D × Option Nat)) = some _ from e4)
      | cons r2 r3 =>
        cases r3 with
        | cons _ _ => cases r1 <;> cases r2 <;> exact nomatch (show (none : Option (List D × Option Nat)) = some _ from e4)
        | nil =>
          cases r1 <;> cases r2 <;> try exact nomatch (show (none : Option (List D × Option Nat)) = some _ from e4)
          rename_i i j
          have e4 : (if rgOk i ∧ rgOk j then some (upto i (j - i).toNat, none) else none) = some (ds, gd) := e4
          split at e4
          · rename_i c
            cases e4
            exact ⟨i, j, rfl, ⟨c.1.1, c.1.2, c.2.1, c.2.2⟩, k _ H' M' ρ' E1 R1 walks_range⟩
          · cases e4⟩

/-! ### list comprehensions -/
noncomputable def lcD (gd : Option Nat) (ds0 : List D) (g : D → Sg → Option Sg) (ft : FT) (fe : FE) (σw : Sg) : List D → List D → R (List D)
  | [], acc => fun ph => if stands gd ds0 ph then some (acc, ph) else none
  | d :: r, acc => fun ph => if stands gd ds0 ph then bnd (lift (g d σw)) (fun σ1 => bnd (ft σ1) fun b => if b = true then bnd (fe σ1) fun y => if acc.length < sizeLine then lcD gd ds0 g ft fe σw r (acc ++ [y]) else fun _ => none
      else lcD gd ds0 g ft fe σw r acc) ph else none
noncomputable def fLc (f : FI) (g : D → Sg → Option Sg) (ft : FT) (fe : FE) (vs : List Nat) : FA := fun σ => bnd (f σ) fun x => lcD x.2 x.1 g ft fe (wipeD σ vs) x.1 []
def fYes : FT := fun _ => ret true
structure DTs (G : Gx) (X : Cx) (es : List Expr) (f : FT) : Prop where
  pt : PTs X es (TTof G f)
theorem _root_.L2.PTs.weak {X : Cx} {e : List Expr} {t u : TT} (h : PTs X e t) (w : ∀ σ H Q, u σ H Q → t σ H Q) : PTs X e u := ⟨fun pins s σ H Q I q => h.run pins s σ H Q I (w σ H Q q)⟩
theorem dts_nil : DTs G X [] fYes := ⟨pts_nil.weak fun σ H Q ⟨s, M, ρ, ph, b, ph1, P, e, k⟩ => by
  obtain ⟨rfl, rfl⟩ := ret_some e
  exact k H M ρ (.refl ..) P.R⟩
theorem dts_one {c : Expr} {f : FT} (h : DT G X c f) : DTs G X [c] f := ⟨pts_one h.pt⟩

/-- what a heap looks like after the asker's own list at a has changed -/
theorem Ext.over {H0 H : Hp} {M0 M : Mu} {ρ0 ρ : Rho} {a : Addr} {o : HO} (e : Ext H0 M0 ρ0 H M ρ) (ha : H0 a = none) : Ext H0 M0 ρ0 (upd H a o) M ρ :=
  ⟨e.pre, e.fr, e.mono, e.new, fun b u h n => by
    have hb : b ≠ a := fun z => by subst z; rw [ha] at h; cases h
    rw [upd_ne hb]; exact e.keep b u h n, fun b h => by
    by_cases hb : b = a
    · subst hb; exact ha
    · rw [upd_ne hb] at h; exact e.dom b h⟩
mutual
theorem Rep.over {H : Hp} {M : Mu} {ρ : Rho} {a : Addr} {o : HO} (m : M a) : ∀ {d : D} {v : V}, Rep G H M ρ d v → Rep G (upd H a o) M ρ d v
  | _, _, .non => .non
  | _, _, .bl b => .bl b
  | _, _, .int i => .int i
  | _, _, .str x => .str x
  | _, _, .tup (a := b) h n r => .tup (by rw [upd_ne (show b ≠ a from fun q => n (q ▸ m))]; exact h) n (Reps.over m r)
  | _, _, .lst (a := b) h n r => .lst (by rw [upd_ne (show b ≠ a from fun q => n (q ▸ m))]; exact h) n (Reps.over m r)
  | _, _, .fzl (a := b) h r => .fzl (h.elim (fun ⟨h, n⟩ => .inl ⟨by
      have hb : b ≠ a := fun q => n (q ▸ m)
      rcases h with h | ⟨o', h⟩
      · exact .inl (by rw [upd_ne hb]; exact h)
      · exact .inr ⟨o', by rw [upd_ne hb]; exact h⟩, n⟩) .inr) (Reps.over m r)
  | _, _, .obj (a := b) h n q r => .obj (by rw [upd_ne (show b ≠ a from fun q => n (q ▸ m))]; exact h) n q (Reps.over m r)
  | _, _, .ref h => .ref h
theorem Reps.over {H : Hp} {M : Mu} {ρ : Rho} {a : Addr} {o : HO} (m : M a) : ∀ {ds : List D} {vs : List V}, Reps G H M ρ ds vs → Reps G (upd H a o) M ρ ds vs
  | _, _, .nil => .nil
  | _, _, .cons h r => .cons (Rep.over m h) (Reps.over m r)
end
theorem RelH.over {H : Hp} {M : Mu} {ρ : Rho} {ph : PH} {a : Addr} {o : HO} (r : RelH G H M ρ ph) (m : M a) (n : some a ∉ ρ) : RelH G (upd H a o) M ρ ph := by
  refine ⟨r.len, fun k mo oa h1 h2 => ?_, r.inj, r.sub, fun b h => ?_⟩
  · have q := r.ob k mo oa h1 h2
    have hm : ∀ x, oa = some x → upd H a o x = H x := fun x e => upd_ne fun z => n (z ▸ e ▸ List.mem_of_getElem? h2)
    cases mo with
    | gone => trivial
    | lst l => obtain ⟨x, vs, e, h, s⟩ := q; exact ⟨x, vs, e, (hm x e).trans h, s.over m⟩
    | dK l => obtain ⟨x, vs, e, h, s⟩ := q; exact ⟨x, vs, e, (hm x e).trans h, s.over m⟩
    | dT l => obtain ⟨x, vs, e, h, s⟩ := q; exact ⟨x, vs, e, (hm x e).trans h, s.over m⟩
    | ins c l => obtain ⟨x, dx, vs, e, h, s⟩ := q; exact ⟨x, dx, vs, e, (hm x e).trans h, s.over m⟩
  · by_cases hb : b = a
    · subst hb; rw [upd_same]; simp
    · rw [upd_ne hb]; exact r.tr b h
theorem wipe_get {σ : St} {j : Nat} : ∀ {vs : List Nat}, (wipe σ vs)[j]? = if j ∈ vs ∧ j < σ.length then some none else σ[j]?
  | [] => by simp [wipe]
  | v :: vs => by
    show ((wipe σ vs).set v none)[j]? = _
    rw [List.getElem?_set]
    by_cases hv : v = j
    · subst hv
      rw [if_pos rfl, wipe_length]
      by_cases hl : v < σ.length
      · simp [hl]
      · simp [hl]
    · rw [if_neg hv, wipe_get (vs := vs)]
      by_cases q : j ∈ vs ∧ j < σ.length
      · rw [if_pos q, if_pos ⟨List.mem_cons_of_mem _ q.1, q.2⟩]
      · rw [if_neg q, if_neg fun z => q ⟨(List.mem_cons.mp z.1).resolve_left (Ne.symm hv), z.2⟩]
theorem wipe_same {σ σ2 : St} {ts vs : List Nat} (hl : σ2.length = (wipe σ vs).length) (h : ∀ j : Nat, j ∉ ts → σ2[j]? = (wipe σ vs)[j]?) (sub : ∀ j ∈ ts, j ∈ vs) : wipe σ2 vs = wipe σ vs := by
  apply List.ext_getElem?
  intro j
  rw [wipe_length] at hl
  rw [wipe_get, wipe_get]
  by_cases hj : j ∈ vs
  · by_cases hlt : j < σ.length
    · rw [if_pos ⟨hj, by omega⟩, if_pos ⟨hj, hlt⟩]
    · rw [if_neg (fun q => hlt (by have := q.2; omega)), if_neg (fun q => hlt q.2), List.getElem?_eq_none (by omega), List.getElem?_eq_none (by omega)]
  · rw [if_neg (fun q => hj q.1), if_neg (fun q => hj q.1)]
    rw [h j (fun q => hj (sub j q)), wipe_get]
    simp [hj]
theorem lc_ok {wi : FI} {g : D → Sg → Option Sg} {ts : List Nat} {ft : FT} {fe : FE} {vs : List Nat} (sub : ∀ j ∈ ts, j ∈ vs) {σ : St} {H : Hp} {Q : VK} (q : TLof G (fLc wi g ft fe vs) σ H Q) :
    tLc (TIof G wi) (TGof G ts g) (TTof G ft) (TEof G fe) vs σ H Q := by
  obtain ⟨s, M, ρ, ph, ys, ph1, P, e, k⟩ := q
  obtain ⟨⟨ds, gd⟩, ph2, e1, e2⟩ := bnd_some e
  refine ⟨s, M, ρ, ph, ds, gd, ph2, P, e1, fun J H1 M1 ρ1 E1 R1 W1 => ?_⟩
  intro D hD
  have hD0 : H D = none := E1.dom _ hD
  refine ⟨fun i m H2 => ∃ M2 ρ2 ph3 acc vs', Ext H1 M1 ρ1 H2 M2 ρ2 ∧ RelH G H2 M2 ρ2 ph3 ∧ m = ds.length - i ∧ lcD gd ds g ft fe (wipeD s vs) (ds.drop i) acc ph3 = some (ys, ph1) ∧
    H2 D = some (.lst vs') ∧ M2 D ∧ some D ∉ ρ2 ∧ Reps G H2 M2 ρ2 acc vs', ⟨ds.length, _, ρ1, ph2, [], [], Ext.laidM hD, R1.laidM hD, rfl, e2, upd_same, .inr rfl, R1.fresh hD, .nil⟩, ?_⟩
  rintro i m H2 ⟨M2, ρ2, ph3, acc, vs', E2, R2, rfl, e3, h2, m2, n2, r2⟩
  have L2' : Locs G H2 M2 ρ2 (wipeD s vs) (wipe σ vs) := (((P.go E1 R1).go E2 R2).L).wipe vs
  by_cases hi : i < ds.length
  · rw [List.drop_eq_getElem_cons hi] at e3
    have e3 : (if stands gd ds ph3 then bnd (lift (g ds[i] (wipeD s vs))) _ ph3 else none) = some (ys, ph1) := e3
    split at e3
    · rename_i st
      obtain ⟨s3, ph4, e4', e5⟩ := bnd_some e3
      obtain ⟨e4, e4''⟩ := lift_some e4'
      rw [← e4''] at e5
      obtain ⟨b, ph5, e6, e7⟩ := bnd_some e5
      obtain ⟨go, yl⟩ := (W1 H2 M2 ρ2 ph3 E2 R2 st i).1 ds[i] (by simp [hi])
      refine .inr ⟨go, fun H3 => ∃ M2 ρ2 ph3 acc vs', Ext H1 M1 ρ1 H3 M2 ρ2 ∧ RelH G H3 M2 ρ2 ph3 ∧ lcD gd ds g ft fe (wipeD s vs) (ds.drop (i + 1)) acc ph3 = some (ys, ph1) ∧
        H3 D = some (.lst vs') ∧ M2 D ∧ some D ∉ ρ2 ∧ Reps G H3 M2 ρ2 acc vs', fun H' ⟨a, b, c, d, f, g1, g2, g3, g4⟩ => ⟨ds.length - (i + 1), by omega, a, b, c, d, f, g1, g2, rfl, g3, g4⟩, fun x H3 y => ?_⟩
      obtain ⟨M3, E3, R3, r3⟩ := yl x H3 y
      refine ⟨ds[i], wipeD s vs, s3, M3, ρ2, ph3, r3, ⟨L2'.ext E3 R2.sub, R3⟩, e4, fun σ3 L3 l3 n3 => ⟨wipe_same l3 n3 sub, ?_⟩⟩
      refine ⟨s3, M3, ρ2, ph3, b, ph5, ⟨L3, R3⟩, e6, fun H4 M4 ρ4 E4 R4 => ?_⟩
      have E24 := E3.trans E4
      have h4 : H4 D = some (.lst vs') := E24.keep D _ h2 n2
      have m4 : M4 D := E24.mono D m2
      have n4 : some D ∉ ρ4 := fun z => (E24.fr D z).elim n2 fun w => by rw [h2] at w; cases w
      cases b with
      | false =>
        dsimp only
        rw [if_neg Bool.false_ne_true] at e7 ⊢
        exact ⟨M4, ρ4, ph5, acc, vs', E2.trans E24, R4, e7, h4, m4, n4, r2.ext E24 R2.sub⟩
      | true =>
        dsimp only
        rw [if_pos rfl] at e7 ⊢
        obtain ⟨y1, ph6, e8, e9⟩ := bnd_some e7
        refine ⟨s3, M4, ρ4, ph5, y1, ph6, ⟨L3.ext E4 R3.sub, R4⟩, e8, fun v H5 M5 ρ5 E5 R5 r5 => ?_⟩
        split at e9
        · rename_i z
          have E25 := E24.trans E5
          have h5 : H5 D = some (.lst vs') := E25.keep D _ h2 n2
          have m5 : M5 D := E25.mono D m2
          have n5 : some D ∉ ρ5 := fun z => (E25.fr D z).elim n2 fun w => by rw [h2] at w; cases w
          have racc := r2.ext E25 R2.sub
          refine ⟨vs', h5, by rw [← racc.length]; exact z, M5, ρ5, ph6, acc ++ [y1], vs' ++ [v], ?_, R5.over m5 n5, e9, upd_same, m5, n5, ?_⟩
          · exact (E2.trans E25).over hD
          · exact (racc.append (.cons r5 .nil)).over m5
        · cases e9
    · cases e3
  · have hi' : ds.length ≤ i := Nat.le_of_not_lt hi
    rw [List.drop_eq_nil_of_le hi'] at e3
    have e3 : (if stands gd ds ph3 then some (acc, ph3) else none) = some (ys, ph1) := e3
    split at e3
    · rename_i st
      cases e3
      exact .inl ⟨(W1 H2 M2 ρ2 _ E2 R2 st i).2 hi', k D vs' H2 M2 ρ2 (E1.trans E2) R2 hD0 h2 m2 n2 r2⟩
    · cases e3
theorem dl_lc {elt tg iter : Expr} {ifs : List Expr} {scope : Scope} {pos : Pos} (own : List (Str × Nat)) {wi : FI} {ts : List Nat} {g : D → Sg → Option Sg} {ft : FT} {fe : FE} (hc : X.calm = true) (hN : X.N.Nodup) (hi : DI G X tg iter wi)
    (hg : ∀ (s : Shared) (H : Hp) (C : Addr) (cl : List (Str × Addr)) (fp : List Addr), DG G (X.blk s H scope (compEnvC scope cl C X.env) fp) tg ts g) (ht : ∀ (s : Shared) (H : Hp) (C : Addr) (cl : List (Str × Addr)) (fp : List Addr), DTs G (X.blk s H scope (compEnvC scope cl C X.env) fp) ifs ft)
    (he : ∀ (s : Shared) (H : Hp) (C : Addr) (cl : List (Str × Addr)) (fp : List Addr), DE G (X.blk s H scope (compEnvC scope cl C X.env) fp) elt fe) (ok : BlkOk X.N X.env.scope scope own := by exact blkOk_by (by kernel_rfl)) (sub : ∀ j ∈ ts, j ∈ own.map (·.2) := by decide) (hs : ∀ x, foldedSetIterable iter X.env x = pure x := by intro _; rfl) :
    DL G X (.ListComp elt [⟨tg, iter, ifs, 0⟩] scope pos) (fLc wi g ft fe (own.map (·.2))) :=
  ⟨(pe_lc hc hN hi.pi ok (fun s H C cl fp => (hg s H C cl fp).pg) (fun s H C cl fp => (ht s H C cl fp).pt) (fun s H C cl fp => (he s H C cl fp).pe) hs).weak fun σ H Q q => lc_ok sub q⟩
/-- name = [..] on one line -/
theorem ds_lc (own_ : Bool) (i : Nat) {y : Str} {py : Pos} {elt tg iter : Expr} {ifs : List Expr} {scope : Scope} {pos spos : Pos} (own : List (Str × Nat)) {wi : FI} {ts : List Nat} {g : D → Sg → Option Sg} {ft : FT} {fe : FE} (hc : X.calm = true) (hN : X.N.Nodup) (hi : DI G X tg iter wi)
    (hg : ∀ (s : Shared) (H : Hp) (C : Addr) (cl : List (Str × Addr)) (fp : List Addr), DG G (X.blk s H scope (compEnvC scope cl C X.env) fp) tg ts g) (ht : ∀ (s : Shared) (H : Hp) (C : Addr) (cl : List (Str × Addr)) (fp : List Addr), DTs G (X.blk s H scope (compEnvC scope cl C X.env) fp) ifs ft)
    (he : ∀ (s : Shared) (H : Hp) (C : Addr) (cl : List (Str × Addr)) (fp : List Addr), DE G (X.blk s H scope (compEnvC scope cl C X.env) fp) elt fe)
    (hsw : swapsWith (.ListComp elt [⟨tg, iter, ifs, 0⟩] scope pos) (some (.Name y py)) spos.line X.env = pure true := by exact sw_true rfl rfl rfl (by decide +kernel))
    (hy : X.N[i]? = some y := by rfl) (hyl : X.env.scope.names.lookup y = some .local := by rfl)
    (ok : BlkOk X.N X.env.scope scope own := by exact blkOk_by (by kernel_rfl)) (sub : ∀ j ∈ ts, j ∈ own.map (·.2) := by decide) (hs : ∀ x, foldedSetIterable iter X.env x = pure x := by intro _; rfl) :
    DS G X (.Assign [.Name y py] (.ListComp elt [⟨tg, iter, ifs, 0⟩] scope pos) spos) (sSet i (if own_ then fOwn (fLc wi g ft fe (own.map (·.2))) else fVal (fLc wi g ft fe (own.map (·.2))))) := by
  refine ⟨(ps_setLc hc hN hy hyl hsw hi.pi ok (fun s H C cl fp => (hg s H C cl fp).pg) (fun s H C cl fp => (ht s H C cl fp).pt) (fun s H C cl fp => (he s H C cl fp).pe) hs).weak fun E σ H q => ?_⟩
  obtain ⟨s, M, ρ, ph, o, ph1, P, e, k⟩ := TSof.un q
  obtain ⟨d, ph2, e1, e2⟩ := bnd_some e
  obtain ⟨rfl, rfl⟩ := ret_some e2
  refine lc_ok (Q := fun x H1 => E.nx (σ.set i (some x)) H1) sub ?_
  cases own_ with
  | false =>
    obtain ⟨ds, ph3, e3, e4⟩ := bnd_some (show bnd (fLc wi g ft fe (own.map (·.2)) s) _ ph = some _ from e1)
    obtain ⟨rfl, rfl⟩ := ret_some e4
    refine ⟨s, M, ρ, ph, ds, ph3, P, e3, fun a vs H' M' ρ' E1 R1 ha h1 m n r => ?_⟩
    have E2 := E1.cool ha P.R.tr
    exact k H' _ ρ' E2 (R1.cool n) _ ((P.go E2 (R1.cool n)).L.set i (.lst h1 (fun q => q.2 rfl) (r.less fun _ q => q.1)))
  | true =>
    have e1 : (match fLc wi g ft fe (own.map (·.2)) s ph with | some (ds, ph1) => some (D.ref ph1.length, ph1 ++ [MO.lst ds]) | none => none) = some (d, ph2) := e1
    cases e3 : fLc wi g ft fe (own.map (·.2)) s ph with
    | none => rw [e3] at e1; cases e1
    | some x =>
      obtain ⟨ds, ph3⟩ := x
      rw [e3] at e1
      cases e1
      refine ⟨s, M, ρ, ph, ds, ph3, P, e3, fun a vs H' M' ρ' E1 R1 ha h1 m n r => ?_⟩
      have R2 := R1.own (mo := .lst ds) n m ⟨a, vs, rfl, h1, r.longer _⟩
      refine k H' M' (ρ' ++ [some a]) (E1.own ha) R2 _ ((P.go (E1.own ha) R2).L.set i (.ref ?_))
      rw [← R1.len, List.getElem?_append_right (Nat.le_refl _)]
      simp
end
end FD

set_option Elab.async false
set_option maxRecDepth 100000
set_option linter.all false
/-! FdF: what a def promises (FnG), a def by its body, calls. -/
namespace FD
open PySem PySem.Spec L2
open Classical

/-- a def's promise; repr is at rest all the while -/
structure FnG (P : Program) (w : World) (K : PySem.W.Frag) (mg : Str → Option Value) (base : Heap) (k : Nat) (f : Addr) (fd : FuncData) (ps : List Str) (sp : Sp) : Prop where
  len : ∀ vs H Q, sp vs H Q E0 → vs.length = ps.length
  run : ∀ (A : Around) (outer : List Env) (s : Shared) (H : Hp) (args : Args) (us : List Value) (vs : List V) (Q : VK), Room k A → A.guards = some [] → Env0 P w K mg base A outer s H → BindsTo s fd args (ps.zip us) → Vals vs us → sp vs H Q E0 →
    codeAny (model P w) A (.call (.ref f) args) (CR CX0 outer P w H s Q E0) s
theorem FnG.mono {P : Program} {w : World} {K : PySem.W.Frag} {mg : Str → Option Value} {base : Heap} {j k : Nat} {f : Addr} {fd : FuncData} {ps : List Str} {sp : Sp} (F : FnG P w K mg base j f fd ps sp) (h : j ≤ k) : FnG P w K mg base k f fd ps sp :=
  ⟨F.len, fun A outer s H args us vs Q hr => F.run A outer s H args us vs Q (hr.mono h)⟩

/-- a def that reckons f -/
def spOf (G : Gx) (n : Nat) (f : FF) : Sp := fun vs H Q _ => ∃ ds M ρ ph d ph1, RelH G H M ρ ph ∧ Reps G H M ρ ds vs ∧ f ds ph = some (d, ph1) ∧ ds.length = n ∧
  ∀ v H' M' ρ', Ext H M ρ H' M' ρ' → RelH G H' M' ρ' ph1 → Rep G H' M' ρ' d v → Q v H'

/-- the body's function as the def's; n: how many names -/
def outD : Out → R D
  | .rt d => ret d
  | .nx _ => ret .non
  | _ => fun _ => none
def fDef (n : Nat) (b : FS) : FF := fun ds => bnd (b (ds.map some ++ List.replicate (n - ds.length) none)) outD

theorem locs_start {G : Gx} {H : Hp} {M : Mu} {ρ : Rho} {ds : List D} {vs : List V} (r : Reps G H M ρ ds vs) (N : List Str) : Locs G H M ρ (ds.map some ++ List.replicate (N.length - ds.length) none) (L2.start N vs) := by
  unfold L2.start
  refine ⟨by simp [r.length], fun i d h => ?_⟩
  by_cases hi : i < ds.length
  · rw [List.getElem?_append_left (by simpa using hi), List.getElem?_map] at h
    rw [List.getElem?_append_left (by simpa using r.length ▸ hi), List.getElem?_map]
    cases q : ds[i]? with
    | none => rw [q] at h; cases h
    | some e =>
      rw [q] at h
      cases h
      obtain ⟨v, h1, h2⟩ := r.get q
      exact ⟨v, by rw [h1]; rfl, h2⟩
  · rw [List.getElem?_append_right (by simpa using Nat.le_of_not_lt hi), List.getElem?_replicate] at h
    split at h <;> cases h

section
variable {P : Program} {w : World} {K : PySem.W.Frag} {mg : Str → Option Value} {base : Heap}
/-- THE RULE: a def by its body -/
theorem fng_of {G : Gx} {x qual : Str} {st : Stmt} {f : Addr} {fd : FuncData} {N ps : List Str} {k : Nat} {fb : FS} (F : Fun K x qual st f fd) (S : FnScope N ps (defScope st))
    (hb : ∀ (cdv : Value) (A : Around) (outer : List Env) (s : Shared) (H : Hp), Room k (A.deeper (PyProof.Rows.envOfC qual (defScope st) s.heap.objs.size f cdv)) → (A.deeper (PyProof.Rows.envOfC qual (defScope st) s.heap.objs.size f cdv)).guards = some [] →
      DSs G (cxOf CX0 P w K mg base N qual (defScope st) f cdv A outer s H E0).nox (defBody st) fb) : FnG P w K mg base (k + 1) f fd ps (spOf G ps.length (fDef N.length fb)) := by
  obtain ⟨oc, od, kV, doc, pm, an, cdv, ct, osl, hfd, lk, hcd⟩ := F.ex
  subst hfd
  have lenS : ∀ vs H Q, spOf G ps.length (fDef N.length fb) vs H Q E0 → vs.length = ps.length := fun vs H Q ⟨ds, _, _, _, _, _, _, r, _, hl, _⟩ => by rw [← r.length]; exact hl
  refine ⟨lenS, fun A outer s H args us vs Q hr hgd e0 hbd rv hsp => ?_⟩
  have hl := lenS _ _ _ hsp
  have KX : K.In s.heap := e0.mod.kin.keeps fun b o e => (e0.bs b o e).1
  have lim : s.heap.NoLimit := e0.mod.nolimit.keeps fun b o e => (e0.bs b o e).1
  refine codeAny_call_function hr.depth (KX _ _ lk) rfl S.co S.gen rfl (PySem.W.codeRec_of KX hcd) (hbd _ _ _ _ (wpAny_newFunctionEnv_cells S.kind (fun y hy => ?_) fun env he s1 xc => ?_))
  · rcases S.par y.1 (List.of_mem_zip hy).1 with q | q
    · exact Or.inl q
    · exact Or.inr ⟨q, PySem.W.cellsFrom_some _ _ _ (.inl q)⟩
  · subst he
    refine ⟨lim.keeps xc.toInCall.keep, codeAny_func ?_⟩
    have hdg : (A.deeper (PyProof.Rows.envOfC qual (defScope st) s.heap.objs.size f cdv)).guards = some [] := hgd
    have body := (hb cdv A outer s H (hr.deeper _) hdg).ps.nox
    have I : Inv (cxOf CX0 P w K mg base N qual (defScope st) f cdv A outer s H E0) [] (L2.start N vs) H s1 := inv_start S hr.hd e0 hl rv xc
    obtain ⟨ds, M, ρ, ph, d, ph1, R, r, e, hn, q⟩ := hsp
    obtain ⟨o, ph2, e1, e2⟩ := bnd_some e
    have hq : TSof G fb { nx := fun _ H' => Q .non H', rt := Q } (L2.start N vs) H := by
      refine .mk ⟨locs_start r N, R⟩ e1 fun H' M' ρ' E1 R1 => ?_
      cases o with
      | rt d' => obtain ⟨rfl, rfl⟩ := ret_some e2; exact fun v rr => q v H' M' ρ' E1 R1 rr
      | nx σ' => obtain ⟨rfl, rfl⟩ := ret_some e2; exact fun σv _ => q .non H' M' ρ' E1 R1 .non
      | bk _ => cases e2
      | ct _ => cases e2
    refine wpAny_mono (body.run [] s1 (L2.start N vs) H _ I hq) (fun fl s' hs => ?_) fun e s' hs => hs
    cases fl with
    | ret u => exact let ⟨v, σ', H', J, rr, z⟩ := hs; ⟨v, H', J.os, J.bare, J.base, J.hok, rr, z⟩
    | next => exact let ⟨σ', H', J, z⟩ := hs; ⟨V.non, H', J.os, J.bare, J.base, J.hok, rfl, z⟩
    | brk => exact hs.elim fun _ z => z.elim fun _ z => z.2.elim
    | cont => exact hs.elim fun _ z => z.elim fun _ z => z.2.elim
end

/-! ### which things a value speaks of -/
mutual
def closed (m : Nat) : D → Bool
  | .tup l => closeds m l
  | .lst l => closeds m l
  | .fzl l => closeds m l
  | .obj _ l => closeds m l
  | .ref n => decide (n < m)
  | _ => true
def closeds (m : Nat) : List D → Bool
  | [] => true
  | d :: ds => closed m d && closeds m ds
end
def closedM (m : Nat) : MO → Bool
  | .lst l => closeds m l
  | .dK kvs => closeds m (kvs.map (·.2))
  | .dT kvs => closeds m (kvs.map (·.2))
  | .ins _ fs => closeds m (fs.map (·.2))
  | .gone => true
mutual
theorem Rep.cut {G : Gx} {H : Hp} {M : Mu} {ρ e : Rho} : ∀ {d : D} {v : V}, Rep G H M (ρ ++ e) d v → closed ρ.length d = true → Rep G H M ρ d v
  | _, _, .non, _ => .non
  | _, _, .bl b, _ => .bl b
  | _, _, .int i, _ => .int i
  | _, _, .str x, _ => .str x
  | _, _, .tup h n r, c => .tup h n (Reps.cut r (by simpa [closed] using c))
  | _, _, .lst h n r, c => .lst h n (Reps.cut r (by simpa [closed] using c))
  | _, _, .fzl h r, c => .fzl h (Reps.cut r (by simpa [closed] using c))
  | _, _, .obj h n q r, c => .obj h n q (Reps.cut r (by simpa [closed] using c))
  | _, _, .ref (n := n) h, c => .ref (by
      have c : n < ρ.length := by simpa [closed] using c
      rwa [List.getElem?_append_left c] at h)
theorem Reps.cut {G : Gx} {H : Hp} {M : Mu} {ρ e : Rho} : ∀ {ds : List D} {vs : List V}, Reps G H M (ρ ++ e) ds vs → closeds ρ.length ds = true → Reps G H M ρ ds vs
  | _, _, .nil, _ => .nil
  | _, _, .cons h r, c => by
    simp only [closeds, Bool.and_eq_true] at c
    exact .cons (Rep.cut h c.1) (Reps.cut r c.2)
end
theorem MOk.cut {G : Gx} {H : Hp} {M : Mu} {ρ e : Rho} {oa : Option Addr} : ∀ {mo : MO}, MOk G H M (ρ ++ e) oa mo → closedM ρ.length mo = true → MOk G H M ρ oa mo
  | .gone, _, _ => trivial
  | .lst _, ⟨x, vs, q, h, s⟩, c => ⟨x, vs, q, h, s.cut c⟩
  | .dK _, ⟨x, vs, q, h, s⟩, c => ⟨x, vs, q, h, s.cut c⟩
  | .dT _, ⟨x, vs, q, h, s⟩, c => ⟨x, vs, q, h, s.cut c⟩
  | .ins _ _, ⟨x, dx, vs, q, h, s⟩, c => ⟨x, dx, vs, q, h, s.cut c⟩

/-- a call that sees the first m changeable things alone, and leaves no other ones -/
def callK (m n : Nat) (f : FF) (ds : List D) : R D := fun ph =>
  if m ≤ ph.length ∧ ds.length = n ∧ closeds m ds = true ∧ (ph.take m).all (closedM m) = true then
    match f ds (ph.take m) with
    | some (d, ph1) => if closed m d = true ∧ (ph1.take m).all (closedM m) = true then some (d, ph1.take m ++ ph.drop m) else none
    | none => none
  else none
/-- a call that sees all, and may leave new ones -/
def callW (n : Nat) (f : FF) (ds : List D) : R D := fun ph => if ds.length = n then f ds ph else none

/-- a promise that is met for any wish: what a caller must show -/
def SpS (G : Gx) (sp : Sp) (g : List D → R D) : Prop := ∀ (H : Hp) (M : Mu) (ρ : Rho) (ph : PH) (ds : List D) (vs : List V) (d : D) (ph1 : PH) (Q : VK), RelH G H M ρ ph → Reps G H M ρ ds vs → g ds ph = some (d, ph1) →
  (∀ v H' M' ρ', Ext H M ρ H' M' ρ' → RelH G H' M' ρ' ph1 → Rep G H' M' ρ' d v → Q v H') → sp vs H Q E0
theorem sps_W {G : Gx} {n : Nat} {f : FF} : SpS G (spOf G n f) (callW n f) := by
  intro H M ρ ph ds vs d ph1 Q R r e k
  unfold callW at e
  split at e
  · rename_i h
    exact ⟨ds, M, ρ, ph, d, ph1, R, r, e, h, k⟩
  · cases e
theorem sps_K {G : Gx} {m n : Nat} {f : FF} : SpS G (spOf G n f) (callK m n f) := by
  intro H M ρ ph ds vs d ph1 Q R r e k
  unfold callK at e
  split at e
  · rename_i h
    obtain ⟨hm, hn, hc, hp⟩ := h
    cases e1 : f ds (ph.take m) with
    | none => rw [e1] at e; cases e
    | some x =>
      obtain ⟨d', ph2⟩ := x
      rw [e1] at e
      simp only at e
      split at e
      · rename_i h2
        cases e
        have ρm : m ≤ ρ.length := by rw [R.len]; exact hm
        have lm : (ρ.take m).length = m := by rw [List.length_take]; omega
        have split : ρ = ρ.take m ++ ρ.drop m := (List.take_append_drop m ρ).symm
        have Rm : RelH G H M (ρ.take m) (ph.take m) := by
          refine ⟨by simp [R.len], fun i mo oa h1 h2 => ?_, fun i j a h1 h2 => ?_, fun a h => R.sub a (List.mem_of_mem_take h), R.tr⟩
          · have hi : i < m := by have := (List.getElem?_eq_some_iff.mp h1).1; rw [List.length_take] at this; omega
            rw [List.getElem?_take_of_lt hi] at h1 h2
            have q := R.ob i mo oa h1 h2
            rw [split] at q
            refine MOk.cut q ?_
            rw [lm]
            refine List.all_eq_true.mp hp mo (List.mem_of_getElem? (i := i) ?_)
            rw [List.getElem?_take_of_lt hi]; exact h1
          · have hi : i < m := by have := (List.getElem?_eq_some_iff.mp h1).1; rw [List.length_take] at this; omega
            have hj : j < m := by have := (List.getElem?_eq_some_iff.mp h2).1; rw [List.length_take] at this; omega
            rw [List.getElem?_take_of_lt hi] at h1
            rw [List.getElem?_take_of_lt hj] at h2
            exact R.inj i j a h1 h2
        have rm : Reps G H M (ρ.take m) ds vs := by
          rw [split] at r
          exact r.cut (by rw [lm]; exact hc)
        refine ⟨ds, M, ρ.take m, ph.take m, d, ph2, Rm, rm, e1, hn, fun v H' M' ρ' E R' rr => ?_⟩
        obtain ⟨ext, hext⟩ := E.pre
        subst hext
        have E3 : Ext H M ρ H' M' ρ := ⟨⟨[], by simp⟩, fun _ h => .inl h, E.mono, E.new, fun b o h nb => E.keep b o h fun q => nb (List.mem_of_mem_take q), E.dom⟩
        have len2 : m ≤ ph2.length := by rw [← R'.len, List.length_append, lm]; omega
        have rd : Rep G H' M' ρ d v := by
          have := (Rep.cut rr (by rw [lm]; exact h2.1)).longer (ρ.drop m)
          rwa [List.take_append_drop] at this
        refine k v H' M' ρ E3 ⟨?_, fun i mo oa h3 h4 => ?_, R.inj, fun a h => E.mono a (R.sub a h), R'.tr⟩ rd
        · rw [List.length_append, List.length_take, List.length_drop, R.len]; omega
        · by_cases hi : i < m
          · rw [List.getElem?_append_left (by rw [List.length_take]; omega), List.getElem?_take_of_lt hi] at h3
            have h4' : (ρ.take m ++ ext)[i]? = some oa := by rw [List.getElem?_append_left (by omega), List.getElem?_take_of_lt hi]; exact h4
            have q := R'.ob i mo oa h3 h4'
            have q2 := (MOk.cut q (by
              rw [lm]
              refine List.all_eq_true.mp h2.2 mo (List.mem_of_getElem? (i := i) ?_)
              rw [List.getElem?_take_of_lt hi]; exact h3)).longer (ρ.drop m)
            rwa [List.take_append_drop] at q2
          · have hi' : m ≤ i := Nat.le_of_not_lt hi
            rw [List.getElem?_append_right (by rw [List.length_take]; omega), List.length_take, Nat.min_eq_left len2, List.getElem?_drop] at h3
            have e5 : m + (i - m) = i := by omega
            rw [e5] at h3
            have q := R.ob i mo oa h3 h4
            have same : ∀ x, oa = some x → H' x = H x := fun x ex => by
              subst ex
              cases hx : H x with
              | none => exact absurd hx (R.there x (List.mem_of_getElem? h4))
              | some o =>
                refine E.keep x o hx fun z => ?_
                obtain ⟨j, hj⟩ := List.mem_iff_getElem?.mp z
                have hjm : j < m := by have := (List.getElem?_eq_some_iff.mp hj).1; rw [List.length_take] at this; omega
                rw [List.getElem?_take_of_lt hjm] at hj
                have := R.inj i j x h4 hj
                omega
            cases mo with
            | gone => trivial
            | lst l => obtain ⟨x, vs, e, h, s⟩ := q; exact ⟨x, vs, e, (same x e).trans h, s.ext E3 R.sub⟩
            | dK l => obtain ⟨x, vs, e, h, s⟩ := q; exact ⟨x, vs, e, (same x e).trans h, s.ext E3 R.sub⟩
            | dT l => obtain ⟨x, vs, e, h, s⟩ := q; exact ⟨x, vs, e, (same x e).trans h, s.ext E3 R.sub⟩
            | ins c l => obtain ⟨x, dx, vs, e, h, s⟩ := q; exact ⟨x, dx, vs, e, (same x e).trans h, s.ext E3 R.sub⟩
      · cases e
  · cases e

section
variable {G : Gx} {X : Cx} {pos : Pos}
theorem run_fng {k : Nat} {f : Addr} {fd : FuncData} {ps : List Str} {sp : Sp} {pins : List (Addr × Obj)} {σ : St} {H : Hp} {s : Shared} {Q : VK} {args : Args} {us : List Value} {vs : List V} (F : FnG X.prog X.w X.K X.mg X.base k f fd ps sp) (hr : Room k X.A) (hgd : X.A.guards = some [])
    (I : Inv X pins σ H s) (hb : BindsTo s fd args (ps.zip us)) (r : Vals vs us) (h : sp vs H Q E0) : wpAny (model X.prog X.w) X.A (call (.ref f) args.pos args.kw) (EP X pins σ Q) X.xe s := by
  refine wpAny_call (codeAny_mono (F.run X.A X.stack s H args us vs Q hr hgd I.env0 hb r h) fun r s' hq => ?_)
  cases r with
  | error e => exact hq.elim
  | ok fl =>
    cases fl with
    | ret u => exact I.after hq
    | next => exact hq.elim
    | brk => exact hq.elim
    | cont => exact hq.elim
def fCall (g : List D → R D) (fa : FA) : FE := fun σ => bnd (fa σ) g
theorem SpS.t {sp : Sp} {g : List D → R D} (h : SpS G sp g) {fa : FA} {σ : St} {H : Hp} {Q : VK} (q : TEof G (fCall g fa) σ H Q) : TAof G fa σ H fun vs H1 => sp vs H1 Q E0 := by
  obtain ⟨s, M, ρ, ph, d, ph1, P, e, k⟩ := q
  obtain ⟨ds, ph2, e1, e2⟩ := bnd_some e
  exact ⟨s, M, ρ, ph, ds, ph2, P, e1, fun vs H1 M1 ρ1 E1 R1 r1 => h H1 M1 ρ1 ph2 ds vs d ph1 Q R1 r1 e2 fun v H2 M2 ρ2 E2 R2 r2 => k v H2 M2 ρ2 (E1.trans E2) R2 r2⟩
theorem de_call {k : Nat} {f : Addr} {fd : FuncData} {ps : List Str} {sp : Sp} {g : List D → R D} {x : Str} {p : Pos} {e : Expr} {es : List Expr} {fa : FA} (F : FnG X.prog X.w X.K X.mg X.base k f fd ps sp) (hs : SpS G sp g) (hr : Room k X.A) (hgd : X.A.guards = some []) (hm : X.mg x = some (.ref f)) (hk : PySem.W.keepIn X.K (.ref f) = true) (hb : Binds X.K fd ps [])
    (ha : DA G X (e :: es) fa) (hg : Gl X x := by rfl) (hdb : (x == ("__debug__" : Str)) = false := by decide) (he : starEach (e :: es) X.env = (false, eval e X.env) :: starEach es X.env := by rfl) (hpl : (backTo pos (starEach es X.env)).any (·.1) = false := by rfl) :
    DE G X (.Call (.Name x p) (e :: es) [] pos) (fCall g fa) := ⟨⟨fun pins s σ H Q I q => by
  refine wpAny_Call_Name_kw (ld_glob I hg hm ?_ hdb)
  refine PySem.W.callWith_K (h₀ := X.base) I.ok.mod.kin hk (thn (ha.pa.run pos pins s σ H _ I (hs.t q)) fun us s1 ⟨vs, H1, I1, r, q⟩ => ⟨I1.kIn, ?_⟩) he hpl
  have hl : (us ++ []).length = ps.length := by rw [List.append_nil, ← r.length]; exact F.len _ _ _ q
  have hb' := hb s1 us I1.kIn hl
  rw [List.append_nil] at hb'
  exact run_fng (args := ⟨us, []⟩) F hr hgd I1 hb' r q⟩⟩
theorem de_call0 {k : Nat} {f : Addr} {fd : FuncData} {ps : List Str} {sp : Sp} {g : List D → R D} {x : Str} {p : Pos} (F : FnG X.prog X.w X.K X.mg X.base k f fd ps sp) (hs : SpS G sp g) (hr : Room k X.A) (hgd : X.A.guards = some []) (hm : X.mg x = some (.ref f)) (hk : PySem.W.keepIn X.K (.ref f) = true) (hb : Binds X.K fd ps [])
    (hg : Gl X x := by rfl) (hdb : (x == ("__debug__" : Str)) = false := by decide) :
    DE G X (.Call (.Name x p) [] [] pos) (fCall g fNil) := ⟨⟨fun pins s σ H Q I q => by
  refine wpAny_Call_Name_kw (ld_glob I hg hm ?_ hdb)
  obtain ⟨t, M, ρ, ph, ds, ph2, P, e1, k1⟩ := hs.t q
  obtain ⟨rfl, rfl⟩ := ret_some e1
  have q1 := k1 [] H M ρ (.refl ..) P.R .nil
  have hl : (([] : List Value) ++ []).length = ps.length := F.len _ _ _ q1
  exact PySem.W.callWith_K0 I.kIn hk (run_fng (args := ⟨[], []⟩) F hr hgd I (hb s [] I.kIn hl) .nil q1)⟩⟩

/-! ### keywords -/
def pick {α : Type} (perm : List Nat) (xs : List α) : List α := perm.filterMap fun i => xs[i]?
theorem pick_vals {xs : List V} {us : List Value} (r : Vals xs us) : ∀ perm : List Nat, Vals (pick perm xs) (pick perm us)
  | [] => .nil
  | i :: perm => by
    unfold pick
    cases e : xs[i]? with
    | none =>
      have e' : us[i]? = none := r.none_of e
      rw [List.filterMap_cons_none e, List.filterMap_cons_none e']
      exact pick_vals r perm
    | some x =>
      obtain ⟨u, h1, h2⟩ := r.get e
      rw [List.filterMap_cons_some e, List.filterMap_cons_some h1]
      exact .cons h2 (pick_vals r perm)
theorem pick_reps {H : Hp} {M : Mu} {ρ : Rho} {ds : List D} {vs : List V} (r : Reps G H M ρ ds vs) : ∀ perm : List Nat, Reps G H M ρ (pick perm ds) (pick perm vs)
  | [] => .nil
  | i :: perm => by
    unfold pick
    cases e : ds[i]? with
    | none =>
      have e' : vs[i]? = none := by rw [List.getElem?_eq_none_iff] at e ⊢; rw [← r.length]; exact e
      rw [List.filterMap_cons_none e, List.filterMap_cons_none e']
      exact pick_reps r perm
    | some x =>
      obtain ⟨u, h1, h2⟩ := r.get e
      rw [List.filterMap_cons_some e, List.filterMap_cons_some h1]
      exact .cons h2 (pick_reps r perm)
/-- how a call with n1 values by position and keywords ks binds -/
def KB (K : PySem.W.Frag) (fd : FuncData) (ps : List Str) (n1 : Nat) (ks : List Str) (perm : List Nat) : Prop :=
  ∀ (s : Shared) (us ws : List Value), K.In s.heap → us.length = n1 → ws.length = ks.length → BindsTo s fd ⟨us, ks.zip ws⟩ (ps.zip (pick perm (us ++ ws)))
theorem kb_of {K : PySem.W.Frag} {x qual : Str} {st : Stmt} {f : Addr} {fd : FuncData} {ps ks : List Str} {n1 : Nat} {perm : List Nat} (F : Fun K x qual st f fd)
    (h : ∀ (kV doc pm : Value) (an : Option Addr) (cdv ct : Value) (us ws : List Value), us.length = n1 → ws.length = ks.length → bindArgs (PySem.W.fnOf x qual (defArgs st) (defBody st) (defScope st) .none kV doc pm an cdv ct) ⟨us, ks.zip ws⟩ = pure (ps.zip (pick perm (us ++ ws)))) : KB K fd ps n1 ks perm := by
  obtain ⟨oc, od, kV, doc, pm, an, cdv, ct, osl, rfl, lk, hcd⟩ := F.ex
  exact fun s us ws _ h1 h2 => .of_eq (h kV doc pm an cdv ct us ws h1 h2)
structure DK (G : Gx) (X : Cx) (kws : List Keyword) (f : FA) : Prop where
  pk : PK X kws (TAof G f)
theorem dk_nil : DK G X [] fNil := ⟨⟨fun pos pins s σ H Q I ⟨t, M, ρ, ph, ds, ph1, P, e, k⟩ => by
  obtain ⟨rfl, rfl⟩ := ret_some e
  exact pk_nil.run pos pins s σ H Q I (k [] H M ρ (.refl ..) P.R .nil)⟩⟩
theorem dk_cons {nm : Option Str} {e : Expr} {kpos : Pos} {kws : List Keyword} {f : FE} {g : FA} (h : DE G X e f) (r : DK G X kws g) : DK G X (⟨nm, e, kpos⟩ :: kws) (fCons f g) := ⟨⟨fun pos pins s σ H Q I ⟨t, M, ρ, ph, ds, ph1, P, e, k⟩ => by
  refine (pk_cons h.pe r.pk).run pos pins s σ H Q I ?_
  obtain ⟨d, ph2, e1, e2⟩ := bnd_some e
  obtain ⟨ds', ph3, e3, e4⟩ := bnd_some e2
  obtain ⟨rfl, rfl⟩ := ret_some e4
  refine ⟨t, M, ρ, ph, d, ph2, P, e1, fun v H1 M1 ρ1 E1 R1 r1 => ?_⟩
  refine ⟨t, M1, ρ1, ph2, ds', ph3, P.go E1 R1, e3, fun vs H2 M2 ρ2 E2 R2 r2 => ?_⟩
  exact k (v :: vs) H2 M2 ρ2 (E1.trans E2) R2 (.cons (r1.ext E2 R1.sub) r2)⟩⟩
def fCallK (n1 n2 : Nat) (perm : List Nat) (g : List D → R D) (fa fk : FA) : FE := fun σ => bnd (fa σ) fun ds => bnd (fk σ) fun es => if ds.length = n1 ∧ es.length = n2 then g (pick perm (ds ++ es)) else fun _ => none
theorem de_callK0 {k : Nat} {f : Addr} {fd : FuncData} {ps ks : List Str} {sp : Sp} {g : List D → R D} {x : Str} {p : Pos} {kws : List Keyword} {fk : FA} {perm : List Nat} {n2 : Nat} (F : FnG X.prog X.w X.K X.mg X.base k f fd ps sp) (hs : SpS G sp g) (hr : Room k X.A) (hgd : X.A.guards = some []) (hm : X.mg x = some (.ref f)) (hk : PySem.W.keepIn X.K (.ref f) = true)
    (hb : KB X.K fd ps 0 ks perm) (hkw : DK G X kws fk) (hg : Gl X x := by rfl) (hall : (backToKw pos (keywordEach kws X.env)).all (·.1.isSome) = true := by rfl) (hks : (backToKw pos (keywordEach kws X.env)).filterMap (·.1) = ks := by rfl)
    (hdb : (x == ("__debug__" : Str)) = false := by decide) (hpl : ((backTo pos (starEach [] X.env)).any (·.1) || (backToKw pos (keywordEach kws X.env)).any (·.1.isNone)) = false := by rfl) (hn2 : ks.length = n2 := by rfl) :
    DE G X (.Call (.Name x p) [] kws pos) (fCallK 0 n2 perm g fNil fk) := ⟨⟨fun pins s σ H Q I ⟨t, M, ρ, ph, d, ph1, P, e, k⟩ => by
  subst hn2
  obtain ⟨ds, ph2, e1, e2⟩ := bnd_some e
  obtain ⟨rfl, rfl⟩ := ret_some e1
  obtain ⟨es, ph3, e3, e4⟩ := bnd_some e2
  split at e4
  · rename_i hl
    refine wpAny_Call_Name_kw (ld_glob I hg hm ?_ hdb)
    refine PySem.W.callWith_KW0 (h₀ := X.base) I.ok.mod.kin hk hall ?_ hpl
    refine thn (hkw.pk.run pos pins s σ H (fun zs H2 => sp (pick perm zs) H2 Q E0 ∧ zs.length = ks.length) I ⟨t, M, ρ, ph, es, ph3, P, e3, fun vs H2 M2 ρ2 E2 R2 r2 => ⟨hs H2 M2 ρ2 ph3 (pick perm es) (pick perm vs) d ph1 Q R2 (pick_reps r2 perm) e4 fun v H3 M3 ρ3 E3 R3 r3 => k v H3 M3 ρ3 (E2.trans E3) R3 r3, by rw [← r2.length]; exact hl.2⟩⟩) fun ws s2 ⟨zs, H2, I2, rz, q2, hz⟩ => ⟨I2.kIn, ?_⟩
    rw [hks]
    exact run_fng (args := ⟨[], ks.zip ws⟩) F hr hgd I2 (hb s2 [] ws I2.kIn rfl (by rw [← rz.length]; exact hz)) (pick_vals rz perm) q2
  · cases e4⟩⟩
theorem de_callK {k : Nat} {f : Addr} {fd : FuncData} {ps ks : List Str} {sp : Sp} {g : List D → R D} {x : Str} {p : Pos} {e : Expr} {es : List Expr} {kws : List Keyword} {fa fk : FA} {perm : List Nat} {n1 n2 : Nat} (F : FnG X.prog X.w X.K X.mg X.base k f fd ps sp) (hs : SpS G sp g) (hr : Room k X.A) (hgd : X.A.guards = some []) (hm : X.mg x = some (.ref f)) (hk : PySem.W.keepIn X.K (.ref f) = true)
    (hb : KB X.K fd ps n1 ks perm) (ha : DA G X (e :: es) fa) (hkw : DK G X kws fk) (hg : Gl X x := by rfl) (hall : (backToKw pos (keywordEach kws X.env)).all (·.1.isSome) = true := by rfl) (hks : (backToKw pos (keywordEach kws X.env)).filterMap (·.1) = ks := by rfl)
    (hdb : (x == ("__debug__" : Str)) = false := by decide) (he : starEach (e :: es) X.env = (false, eval e X.env) :: starEach es X.env := by rfl)
    (hpl : ((backTo pos (starEach (e :: es) X.env)).any (·.1) || (backToKw pos (keywordEach kws X.env)).any (·.1.isNone)) = false := by rfl) (hn2 : ks.length = n2 := by rfl) :
    DE G X (.Call (.Name x p) (e :: es) kws pos) (fCallK n1 n2 perm g fa fk) := ⟨⟨fun pins s σ H Q I ⟨t, M, ρ, ph, d, ph1, P, e, k⟩ => by
  subst hn2
  obtain ⟨ds, ph2, e1, e2⟩ := bnd_some e
  obtain ⟨es, ph3, e3, e4⟩ := bnd_some e2
  split at e4
  · rename_i hl
    refine wpAny_Call_Name_kw (ld_glob I hg hm ?_ hdb)
    refine PySem.W.callWith_KW (h₀ := X.base) I.ok.mod.kin hk hall ?_ hpl he
    refine thn (ha.pa.run pos pins s σ H (fun vs H1 => TAof G fk σ H1 fun zs H2 => sp (pick perm (vs ++ zs)) H2 Q E0 ∧ vs.length = n1 ∧ zs.length = ks.length) I ⟨t, M, ρ, ph, ds, ph2, P, e1, fun vs H1 M1 ρ1 E1 R1 r1 => ?_⟩) fun us s1 ⟨vs, H1, I1, r, q1⟩ => ?_
    · refine ⟨t, M1, ρ1, ph2, es, ph3, P.go E1 R1, e3, fun zs H2 M2 ρ2 E2 R2 r2 => ⟨?_, by rw [← r1.length]; exact hl.1, by rw [← r2.length]; exact hl.2⟩⟩
      exact hs H2 M2 ρ2 ph3 _ _ d ph1 Q R2 (pick_reps ((r1.ext E2 R1.sub).append r2) perm) e4 fun v H3 M3 ρ3 E3 R3 r3 => k v H3 M3 ρ3 ((E1.trans E2).trans E3) R3 r3
    · refine thn (hkw.pk.run pos pins s1 σ H1 _ I1 q1) fun ws s2 ⟨zs, H2, I2, rz, q2, h1, h2⟩ => ⟨I2.kIn, ?_⟩
      rw [hks]
      exact run_fng (args := ⟨us, ks.zip ws⟩) F hr hgd I2 (hb s2 us ws I2.kIn (by rw [← r.length]; exact h1) (by rw [← rz.length]; exact h2)) (pick_vals (r.append rz) perm) q2
  · cases e4⟩⟩
end
end FD

set_option Elab.async false
set_option maxRecDepth 100000
set_option linter.all false
/-! FdD: subscripts, slices, built-in functions and methods. -/
namespace FD
open PySem PySem.Spec L2
section
variable {G : Gx} {X : Cx} {pos : Pos}

/-! ### a changeable thing is written -/
theorem Ext.put {H : Hp} {M : Mu} {ρ : Rho} {a : Addr} {o : HO} (h : some a ∈ ρ) (t : H a ≠ none) : Ext H M ρ (upd H a o) M ρ :=
  ⟨⟨[], by simp⟩, fun _ h => .inl h, fun _ h => h, fun _ h => .inl h, fun b u e n => by
    rw [upd_ne (show b ≠ a from fun q => n (q ▸ h))]; exact e, fun b e => by
    by_cases q : b = a
    · subst q; rw [upd_same] at e; cases e
    · rwa [upd_ne q] at e⟩
theorem RelH.put {H : Hp} {M : Mu} {ρ : Rho} {ph : PH} {n : Nat} {a : Addr} {o : HO} {mo : MO} (r : RelH G H M ρ ph) (h : ρ[n]? = some (some a)) (k : MOk G (upd H a o) M ρ (some a) mo) : RelH G (upd H a o) M ρ (ph.set n mo) := by
  have ha : some a ∈ ρ := List.mem_of_getElem? h
  have E := Ext.put (M := M) (o := o) ha (r.there a ha)
  refine ⟨by rw [List.length_set]; exact r.len, fun i mo' oa h1 h2 => ?_, r.inj, r.sub, fun b hb => ?_⟩
  · by_cases hi : n = i
    · subst hi
      rw [h] at h2
      cases h2
      rw [List.getElem?_set] at h1
      split at h1
      · split at h1
        · cases h1; exact k
        · cases h1
      · exact absurd rfl (by assumption)
    · rw [List.getElem?_set_ne hi] at h1
      have q := r.ob i mo' oa h1 h2
      have same : ∀ x, oa = some x → (upd H a o) x = H x := fun x e => upd_ne fun z => by
        subst z; subst e
        exact hi (r.inj n i x h h2)
      cases mo' with
      | gone => trivial
      | lst l => obtain ⟨x, vs, e, h, s⟩ := q; exact ⟨x, vs, e, (same x e).trans h, s.ext E r.sub⟩
      | dK l => obtain ⟨x, vs, e, h, s⟩ := q; exact ⟨x, vs, e, (same x e).trans h, s.ext E r.sub⟩
      | dT l => obtain ⟨x, vs, e, h, s⟩ := q; exact ⟨x, vs, e, (same x e).trans h, s.ext E r.sub⟩
      | ins c l => obtain ⟨x, dx, vs, e, h, s⟩ := q; exact ⟨x, dx, vs, e, (same x e).trans h, s.ext E r.sub⟩
  · by_cases q : b = a
    · subst q; rw [upd_same]; simp
    · rw [upd_ne q]; exact r.tr b hb

/-! ### x[i] -/
def gIxS (x y : D) : R D := fun ph => match y with
  | .int i => match sview x ph with
    | some l => match atI l i with
      | some d => some (d, ph)
      | none => none
    | none => match x with
      | .str z => if z.length ≤ sizeLine then match atI z.cps.toList i with
        | some c => some (.str ⟨#[c]⟩, ph)
        | none => none
        else none
      | _ => none
  | _ => none
theorem Reps.atI {H : Hp} {M : Mu} {ρ : Rho} {l : List D} {vs : List V} (r : Reps G H M ρ l vs) {i : Int} {d : D} (h : L2.atI l i = some d) : ∃ v, L2.atI vs i = some v ∧ Rep G H M ρ d v := by
  unfold L2.atI at h ⊢
  rw [← r.length]
  cases e : ixN l.length i with
  | none => rw [e] at h; cases h
  | some j => rw [e] at h; exact r.get (show l[j]? = some d from h)
theorem s_ix : OpS G (rIx G.K) gIxS := by
  intro H M ρ ph x y v u d ph1 Q R rx ry e k
  cases ry <;> try exact nomatch (show (none : Option (D × PH)) = some _ from e)
  rename_i i
  unfold gIxS at e
  simp only at e
  cases e1 : sview x ph with
  | some l =>
    rw [e1] at e
    simp only at e
    cases e2 : atI l i with
    | none => rw [e2] at e; cases e
    | some d' =>
      rw [e2] at e
      cases e
      obtain ⟨a, vs, rfl, q, r⟩ := sview_ok R rx e1
      obtain ⟨w, h1, h2⟩ := r.atI e2
      rcases q with q | q
      · exact .inl ⟨a, vs, i, w, rfl, rfl, q, h1, k w H M ρ (.refl ..) R h2⟩
      · exact .inr (.inl ⟨a, vs, i, w, rfl, rfl, q, h1, k w H M ρ (.refl ..) R h2⟩)
  | none =>
    rw [e1] at e
    cases rx <;> try exact nomatch (show (none : Option (D × PH)) = some _ from e)
    rename_i z
    simp only at e
    split at e
    · rename_i hz
      cases e2 : atI z.cps.toList i with
      | none => rw [e2] at e; cases e
      | some c =>
        rw [e2] at e
        cases e
        exact .inr (.inr ⟨z, i, c, rfl, rfl, hz, e2, k _ H M ρ (.refl ..) R (.str _)⟩)
    · cases e
theorem de_ix (hK : X.K = G.K) {a b : Expr} {fa fb : FE} (ha : DE G X a fa) (hb : DE G X b fb) (hs : PlainIx b := by exact fun _ _ => rfl) : DE G X (.Subscript a b pos) (fBin gIxS fa fb) :=
  ⟨(pe_ix (r := rIx G.K) (hK ▸ ix_seq) ha.pe hb.pe hs).weak fun _ _ _ q => s_ix.t q⟩

/-! ### x[a:b] -/
structure DO (G : Gx) (X : Cx) (e : Option Expr) (f : Sg → R (Option Int)) : Prop where
  po : PO X e (fun σv H Q => ∃ s M ρ ph o ph1, Pre G H M ρ ph s σv ∧ f s ph = some (o, ph1) ∧ ∀ H' M' ρ', Ext H M ρ H' M' ρ' → RelH G H' M' ρ' ph1 → Q o H')
theorem _root_.L2.PO.weak {X : Cx} {e : Option Expr} {t u : TO} (h : PO X e t) (w : ∀ σ H Q, u σ H Q → t σ H Q) : PO X e u := ⟨fun pins s σ H Q I q => h.run pins s σ H Q I (w σ H Q q)⟩
def oNo : Sg → R (Option Int) := fun _ => ret none
def toI : D → Option Int
  | .int i => some i
  | _ => none
def oAt (f : FE) : Sg → R (Option Int) := fun σ => bnd (f σ) fun x => lift ((toI x).map some)
theorem do_no : DO G X none oNo := ⟨po_none.weak fun σ H Q ⟨s, M, ρ, ph, o, ph1, P, e, k⟩ => by
  obtain ⟨rfl, rfl⟩ := ret_some e
  exact k H M ρ (.refl ..) P.R⟩
theorem do_at {a : Expr} {f : FE} (h : DE G X a f) : DO G X (some a) (oAt f) := ⟨(po_some h.pe).weak fun σ H Q ⟨s, M, ρ, ph, o, ph1, P, e, k⟩ => by
  obtain ⟨x, ph2, e1, e2⟩ := bnd_some e
  obtain ⟨e3, rfl⟩ := lift_some e2
  refine ⟨s, M, ρ, ph, x, ph2, P, e1, fun v H1 M1 ρ1 E1 R1 r1 => ?_⟩
  cases r1 <;> cases e3
  exact ⟨_, rfl, k H1 M1 ρ1 E1 R1⟩⟩
def cutD (xs : List D) (lo hi : Option Int) : List D := (xs.drop (HT.sIx xs.length 0 lo)).take (HT.sIx xs.length xs.length hi - HT.sIx xs.length 0 lo)
theorem Reps.cutV {H : Hp} {M : Mu} {ρ : Rho} {l : List D} {vs : List V} (r : Reps G H M ρ l vs) (lo hi : Option Int) : Reps G H M ρ (cutD l lo hi) (L2.cutV vs lo hi) := by
  unfold cutD L2.cutV
  rw [r.length]
  exact (r.drop _).take _
/-- a slice of a tuple -/
def gSlT (x : D) (lo hi : Option Int) : R D := fun ph => match x with
  | .tup l => some (.tup (cutD l lo hi), ph)
  | _ => none
def fSlT (fa : FE) (fl fh : Sg → R (Option Int)) : FE := fun σ => bnd (fa σ) fun x => bnd (fl σ) fun lo => bnd (fh σ) fun hi => gSlT x lo hi
theorem whole_cut {l : List D} {lo hi : Option Int} (h : HT.sIx l.length 0 lo = 0 ∧ HT.sIx l.length l.length hi = l.length) : cutD l lo hi = l := by
  unfold cutD
  rw [h.1, h.2]
  simp
theorem de_slT (hK : X.K = G.K) {a : Expr} {lo hi : Option Expr} {p2 : Pos} {fa : FE} {fl fh : Sg → R (Option Int)} (ha : DE G X a fa) (hl : DO G X lo fl) (hh : DO G X hi fh) : DE G X (.Subscript a (.Slice lo hi none p2) pos) (fSlT fa fl fh) :=
  ⟨(pe_slice (r := rSlA G.K) (hK ▸ sl_tupA) ha.pe hl.po hh.po).weak fun σ H Q ⟨s, M, ρ, ph, d, ph1, P, e, k⟩ => by
    obtain ⟨x, ph2, e1, e2⟩ := bnd_some e
    obtain ⟨lo, ph3, e3, e4⟩ := bnd_some e2
    obtain ⟨hi, ph4, e5, e6⟩ := bnd_some e4
    refine ⟨s, M, ρ, ph, x, ph2, P, e1, fun v H1 M1 ρ1 E1 R1 r1 => ?_⟩
    refine ⟨s, M1, ρ1, ph2, lo, ph3, P.go E1 R1, e3, fun H2 M2 ρ2 E2 R2 => ?_⟩
    refine ⟨s, M2, ρ2, ph3, hi, ph4, (P.go E1 R1).go E2 R2, e5, fun H3 M3 ρ3 E3 R3 => ?_⟩
    have E13 := E2.trans E3
    cases r1 <;> try exact nomatch (show (none : Option (D × PH)) = some _ from e6)
    rename_i l vs a h n r
    cases e6
    obtain ⟨h3, n3⟩ := E13.old R1.sub h n
    have r3 := r.ext E13 R1.sub
    refine ⟨a, vs, rfl, .of h3, fun w => ?_, fun w p hp => ?_⟩
    · rw [← r3.length] at w
      rw [whole_cut w] at k
      exact k _ H3 M3 ρ3 ((E1.trans E13)) R3 (.tup h3 n3 r3)
    · have E := Ext.laid (M := M3) (ρ := ρ3) (o := .tup (L2.cutV vs lo hi)) hp
      exact k _ _ _ _ ((E1.trans E13).trans E) (R3.laid hp) (.tup upd_same (R3.noM hp) ((r3.cutV lo hi).ext E R3.sub))⟩
/-- a slice of a list -/
def lviewF : D → PH → Option (List D)
  | .fzl l, _ => some l
  | x, ph => lview x ph
theorem lviewF_ok {H : Hp} {M : Mu} {ρ : Rho} {ph : PH} {x : D} {v : V} {l : List D} (R : RelH G H M ρ ph) (r : Rep G H M ρ x v) (e : lviewF x ph = some l) : ∃ a vs, v = .ref a ∧ SqL G.K H a vs ∧ Reps G H M ρ l vs := by
  cases r with
  | fzl h r =>
    cases e
    refine ⟨_, _, rfl, ?_, r⟩
    rcases h with ⟨h, _⟩ | h | h
    · exact .inl h
    · rcases h with h | ⟨_, h⟩ <;> cases h
    · exact .inr h
  | lst h n r => cases e; exact ⟨_, _, rfl, .of h, r⟩
  | ref h =>
    obtain ⟨a, vs, e1, h1, r1⟩ := lview_ok R (.ref h) e
    exact ⟨a, vs, e1, .of h1, r1⟩
  | _ => exact nomatch (show (none : Option (List D)) = some _ from e)
def fSlL (fa : FE) (fl fh : Sg → R (Option Int)) : FA := fun σ => bnd (fa σ) fun x => bnd (fl σ) fun lo => bnd (fh σ) fun hi => fun ph => match lviewF x ph with
  | some l => some (cutD l lo hi, ph)
  | none => none
theorem dl_sl (hK : X.K = G.K) {a : Expr} {lo hi : Option Expr} {p2 : Pos} {fa : FE} {fl fh : Sg → R (Option Int)} (ha : DE G X a fa) (hl : DO G X lo fl) (hh : DO G X hi fh) : DL G X (.Subscript a (.Slice lo hi none p2) pos) (fSlL fa fl fh) :=
  ⟨(pe_slice (r := rSlL G.K) (hK ▸ sl_list) ha.pe hl.po hh.po).weak fun σ H Q ⟨s, M, ρ, ph, d, ph1, P, e, k⟩ => by
    obtain ⟨x, ph2, e1, e2⟩ := bnd_some e
    obtain ⟨lo, ph3, e3, e4⟩ := bnd_some e2
    obtain ⟨hi, ph4, e5, e6⟩ := bnd_some e4
    refine ⟨s, M, ρ, ph, x, ph2, P, e1, fun v H1 M1 ρ1 E1 R1 r1 => ?_⟩
    refine ⟨s, M1, ρ1, ph2, lo, ph3, P.go E1 R1, e3, fun H2 M2 ρ2 E2 R2 => ?_⟩
    refine ⟨s, M2, ρ2, ph3, hi, ph4, (P.go E1 R1).go E2 R2, e5, fun H3 M3 ρ3 E3 R3 => ?_⟩
    have E13 := E2.trans E3
    cases e7 : lviewF x ph4 with
    | none => rw [e7] at e6; cases e6
    | some l =>
      rw [e7] at e6
      cases e6
      obtain ⟨a, vs, rfl, q, r⟩ := lviewF_ok R3 (r1.ext E13 R1.sub) e7
      refine ⟨a, vs, rfl, q, fun p hp => ?_⟩
      have E := Ext.laidM (M := M3) (ρ := ρ3) (o := .lst (L2.cutV vs lo hi)) hp
      exact k _ _ _ _ _ ((E1.trans E13).trans E) (R3.laidM hp) ((E1.trans E13).dom _ hp) upd_same (.inr rfl) (R3.fresh hp) ((r.cutV lo hi).ext E R3.sub)⟩
/-- xs[::-1] of a list -/
def fRevL (fa : FE) : FA := fun σ => bnd (fa σ) fun x ph => match lviewF x ph with
  | some l => some (l.reverse, ph)
  | none => none
theorem dl_rev (hK : X.K = G.K) {a : Expr} {kk : Nat} {p1 p2 p3 : Pos} {fa : FE} (ha : DE G X a fa) : DL G X (.Subscript a (.Slice none none (some (.UnaryOp .USub (.Constant (.int 1) kk p1) p2)) p3) pos) (fRevL fa) :=
  ⟨(pe_revL ha.pe).weak fun σ H Q ⟨s, M, ρ, ph, d, ph1, P, e, k⟩ => by
    obtain ⟨x, ph2, e1, e2⟩ := bnd_some e
    refine ⟨s, M, ρ, ph, x, ph2, P, e1, fun v H1 M1 ρ1 E1 R1 r1 => ?_⟩
    cases e7 : lviewF x ph2 with
    | none => rw [e7] at e2; cases e2
    | some l =>
      rw [e7] at e2
      cases e2
      obtain ⟨a, vs, rfl, q, r⟩ := lviewF_ok R1 r1 e7
      refine ⟨a, vs, rfl, hK ▸ q, fun p hp => ?_⟩
      have E := Ext.laidM (M := M1) (ρ := ρ1) (o := .lst vs.reverse) hp
      exact k _ _ _ _ _ (E1.trans E) (R1.laidM hp) (E1.dom _ hp) upd_same (.inr rfl) (R1.fresh hp) (r.rev.ext E R1.sub)⟩

/-! ### built-ins by name -/
def CallS (G : Gx) (r : List V → Hp → VK → Prop) (g : List D → R D) : Prop := ∀ (H : Hp) (M : Mu) (ρ : Rho) (ph : PH) (ds : List D) (vs : List V) (d : D) (ph1 : PH) (Q : VK), RelH G H M ρ ph → Reps G H M ρ ds vs → g ds ph = some (d, ph1) →
  (∀ w H' M' ρ', Ext H M ρ H' M' ρ' → RelH G H' M' ρ' ph1 → Rep G H' M' ρ' d w → Q w H') → r vs H Q
def CallL (G : Gx) (r : List V → Hp → VK → Prop) (g : List D → R (List D)) : Prop := ∀ (H : Hp) (M : Mu) (ρ : Rho) (ph : PH) (ds : List D) (vs : List V) (ys : List D) (ph1 : PH) (Q : VK), RelH G H M ρ ph → Reps G H M ρ ds vs → g ds ph = some (ys, ph1) →
  (∀ a us H' M' ρ', Ext H M ρ H' M' ρ' → RelH G H' M' ρ' ph1 → H a = none → H' a = some (.lst us) → M' a → some a ∉ ρ' → Reps G H' M' ρ' ys us → Q (.ref a) H') → r vs H Q
theorem CallS.t {r : List V → Hp → VK → Prop} {g : List D → R D} (h : CallS G r g) {fa : FA} {σ : St} {H : Hp} {Q : VK} (q : TEof G (fCall g fa) σ H Q) : tCB r (TAof G fa) σ H Q := by
  obtain ⟨s, M, ρ, ph, d, ph1, P, e, k⟩ := q
  obtain ⟨ds, ph2, e1, e2⟩ := bnd_some e
  exact ⟨s, M, ρ, ph, ds, ph2, P, e1, fun vs H1 M1 ρ1 E1 R1 r1 => h H1 M1 ρ1 ph2 ds vs d ph1 Q R1 r1 e2 fun v H2 M2 ρ2 E2 R2 r2 => k v H2 M2 ρ2 (E1.trans E2) R2 r2⟩
def fCallL (g : List D → R (List D)) (fa : FA) : FA := fun σ => bnd (fa σ) g
theorem CallL.t {r : List V → Hp → VK → Prop} {g : List D → R (List D)} (h : CallL G r g) {fa : FA} {σ : St} {H : Hp} {Q : VK} (q : TLof G (fCallL g fa) σ H Q) : tCB r (TAof G fa) σ H Q := by
  obtain ⟨s, M, ρ, ph, d, ph1, P, e, k⟩ := q
  obtain ⟨ds, ph2, e1, e2⟩ := bnd_some e
  exact ⟨s, M, ρ, ph, ds, ph2, P, e1, fun vs H1 M1 ρ1 E1 R1 r1 => h H1 M1 ρ1 ph2 ds vs d ph1 Q R1 r1 e2 fun a us H2 M2 ρ2 E2 R2 ha h1 m n r2 => k a us H2 M2 ρ2 (E1.trans E2) R2 (E1.dom a ha) h1 m n r2⟩
theorem de_bi {id : String} {r : List V → Hp → VK → Prop} {g : List D → R D} {x : Str} {p : Pos} {e : Expr} {es : List Expr} {fa : FA} (hc : CallR X (.builtin id) r) (hs : CallS G r g) (hm : X.mg x = none) (ha : DA G X (e :: es) fa) (hv : bootBuiltins x = some (.builtin id) := by decide +kernel) (hg : Gl X x := by rfl) (hn : x ≠ "__name__" := by decide) (hdb : (x == ("__debug__" : Str)) = false := by decide)
    (he : starEach (e :: es) X.env = (false, eval e X.env) :: starEach es X.env := by rfl) (hpl : (backTo pos (starEach es X.env)).any (·.1) = false := by rfl) : DE G X (.Call (.Name x p) (e :: es) [] pos) (fCall g fa) :=
  ⟨(pe_callB hc hg hm hv ha.pa hn hdb he hpl).weak fun _ _ _ q => hs.t q⟩
theorem dl_bi {id : String} {r : List V → Hp → VK → Prop} {g : List D → R (List D)} {x : Str} {p : Pos} {e : Expr} {es : List Expr} {fa : FA} (hc : CallR X (.builtin id) r) (hs : CallL G r g) (hm : X.mg x = none) (ha : DA G X (e :: es) fa) (hv : bootBuiltins x = some (.builtin id) := by decide +kernel) (hg : Gl X x := by rfl) (hn : x ≠ "__name__" := by decide) (hdb : (x == ("__debug__" : Str)) = false := by decide)
    (he : starEach (e :: es) X.env = (false, eval e X.env) :: starEach es X.env := by rfl) (hpl : (backTo pos (starEach es X.env)).any (·.1) = false := by rfl) : DL G X (.Call (.Name x p) (e :: es) [] pos) (fCallL g fa) :=
  ⟨(pe_callB hc hg hm hv ha.pa hn hdb he hpl).weak fun _ _ _ q => hs.t q⟩
theorem de_ty {T : String} {r : List V → Hp → VK → Prop} {g : List D → R D} {x : Str} {p : Pos} {e : Expr} {es : List Expr} {fa : FA} (hc : CallR X (.type T) r) (hs : CallS G r g) (hm : X.mg x = none) (ha : DA G X (e :: es) fa) (hv : bootBuiltins x = some (.type T) := by decide +kernel) (hg : Gl X x := by rfl) (hn : x ≠ "__name__" := by decide) (hdb : (x == ("__debug__" : Str)) = false := by decide)
    (he : starEach (e :: es) X.env = (false, eval e X.env) :: starEach es X.env := by rfl) (hpl : (backTo pos (starEach es X.env)).any (·.1) = false := by rfl) : DE G X (.Call (.Name x p) (e :: es) [] pos) (fCall g fa) :=
  ⟨(pe_callTy hc hg hm hv ha.pa hn hdb he hpl).weak fun _ _ _ q => hs.t q⟩
theorem dl_ty {T : String} {r : List V → Hp → VK → Prop} {g : List D → R (List D)} {x : Str} {p : Pos} {e : Expr} {es : List Expr} {fa : FA} (hc : CallR X (.type T) r) (hs : CallL G r g) (hm : X.mg x = none) (ha : DA G X (e :: es) fa) (hv : bootBuiltins x = some (.type T) := by decide +kernel) (hg : Gl X x := by rfl) (hn : x ≠ "__name__" := by decide) (hdb : (x == ("__debug__" : Str)) = false := by decide)
    (he : starEach (e :: es) X.env = (false, eval e X.env) :: starEach es X.env := by rfl) (hpl : (backTo pos (starEach es X.env)).any (·.1) = false := by rfl) : DL G X (.Call (.Name x p) (e :: es) [] pos) (fCallL g fa) :=
  ⟨(pe_callTy hc hg hm hv ha.pa hn hdb he hpl).weak fun _ _ _ q => hs.t q⟩
/-- one argument -/
theorem Reps.one {H : Hp} {M : Mu} {ρ : Rho} {d : D} {vs : List V} (r : Reps G H M ρ [d] vs) : ∃ v, vs = [v] ∧ Rep G H M ρ d v := by
  cases r with
  | cons r t => cases t; exact ⟨_, rfl, r⟩
theorem Reps.two {H : Hp} {M : Mu} {ρ : Rho} {d e : D} {vs : List V} (r : Reps G H M ρ [d, e] vs) : ∃ v u, vs = [v, u] ∧ Rep G H M ρ d v ∧ Rep G H M ρ e u := by
  cases r with
  | cons r t =>
    obtain ⟨u, rfl, q⟩ := Reps.one t
    exact ⟨_, u, rfl, r, q⟩
def gLen1 (x : D) : R D := fun ph => match sview x ph with
  | some l => some (.int l.length, ph)
  | none => match x with
    | .str z => if z.length ≤ sizeLine then some (.int z.length, ph) else none
    | _ => none
/-- of one argument -/
def un1 (g : D → R D) : List D → R D
  | [x] => g x
  | _ => fun _ => none
theorem un1_inv {g : D → R D} {ds : List D} {ph : PH} {z : D × PH} (h : un1 g ds ph = some z) : ∃ x, ds = [x] ∧ g x ph = some z := by
  match ds, h with
  | [x], h => exact ⟨x, rfl, h⟩
def gLen : List D → R D := un1 gLen1
theorem c_len : CallS G (fun xs H Q => ∃ x n, xs = [x] ∧ LenV G.K x H n ∧ Q (.int n) H) gLen := by
  intro H M ρ ph ds vs d ph1 Q R r e k
  obtain ⟨x, rfl, e⟩ := un1_inv e
  obtain ⟨v, rfl, rx⟩ := r.one
  have e : gLen1 x ph = some (d, ph1) := e
  unfold gLen1 at e
  cases e1 : sview x ph with
  | some l =>
    rw [e1] at e
    cases e
    obtain ⟨a, vs, rfl, q, r⟩ := sview_ok R rx e1
    refine ⟨.ref a, vs.length, rfl, q.elim (fun q => .inl ⟨vs, q, rfl⟩) (fun q => .inr ⟨vs, q, rfl⟩), ?_⟩
    have := k (.int l.length) H M ρ (.refl ..) R (.int _)
    rw [r.length] at this
    exact this
  | none =>
    rw [e1] at e
    cases rx with
    | str z =>
      have e : (if z.length ≤ sizeLine then some (D.int z.length, ph) else none) = some (d, ph1) := e
      split at e
      · rename_i h; cases e
        exact ⟨.str z, z.length, rfl, ⟨h, rfl⟩, k _ H M ρ (.refl ..) R (.int _)⟩
      · cases e
    | _ => exact nomatch (show (none : Option (D × PH)) = some _ from e)
theorem de_len (hK : X.K = G.K) {p : Pos} {e : Expr} {fa : FA} (hm : X.mg "len" = none) (ha : DA G X [e] fa) (hg : Gl X "len" := by rfl) (he : starEach [e] X.env = (false, eval e X.env) :: starEach [] X.env := by rfl) : DE G X (.Call (.Name "len" p) [e] [] pos) (fCall gLen fa) :=
  de_bi (hK ▸ call_len) c_len hm ha PySem.boot_len hg (by decide) (by decide) he
def gInt : List D → R D
  | [.int i] => ret (.int i)
  | [.bl b] => ret (.int (if b then 1 else 0))
  | _ => fun _ => none
theorem c_int : CallS G (fun xs H Q => (∃ i, xs = [.int i] ∧ Q (.int i) H) ∨ ∃ k, xs = [.bl k] ∧ Q (.int (if k then 1 else 0)) H) gInt := by
  intro H M ρ ph ds vs d ph1 Q R r e k
  match ds, e with
  | [.int i], e =>
    obtain ⟨v, rfl, rx⟩ := r.one
    cases rx
    obtain ⟨rfl, rfl⟩ := ret_some (a := D.int i) e
    exact .inl ⟨i, rfl, k _ H M ρ (.refl ..) R (.int _)⟩
  | [.bl b], e =>
    obtain ⟨v, rfl, rx⟩ := r.one
    cases rx
    obtain ⟨rfl, rfl⟩ := ret_some (a := D.int (if b then 1 else 0)) e
    exact .inr ⟨b, rfl, k _ H M ρ (.refl ..) R (.int _)⟩
theorem de_toInt {p : Pos} {e : Expr} {fa : FA} (hm : X.mg "int" = none) (ha : DA G X [e] fa) (hg : Gl X "int" := by rfl) (he : starEach [e] X.env = (false, eval e X.env) :: starEach [] X.env := by rfl) : DE G X (.Call (.Name "int" p) [e] [] pos) (fCall gInt fa) :=
  de_ty call_int1 c_int hm ha (by decide +kernel) hg (by decide) (by decide) he
def gTuple1 (x : D) : R D := fun ph => match sview x ph with
    | some l => some (.tup l, ph)
    | none => none
def gTuple : List D → R D := un1 gTuple1
theorem c_tuple : CallS G (fun xs H Q => ∃ p ys, xs = [.ref p] ∧ ((SqL G.K H p ys ∧ ∀ l, H l = none → Q (.ref l) (upd H l (.tup ys))) ∨ (SqT G.K H p ys ∧ Q (.ref p) H))) gTuple := by
  intro H M ρ ph ds vs d ph1 Q R r e k
  obtain ⟨x, rfl, e⟩ := un1_inv e
  obtain ⟨v, rfl, rx⟩ := r.one
  have e : gTuple1 x ph = some (d, ph1) := e
  unfold gTuple1 at e
  cases e1 : sview x ph with
  | none => rw [e1] at e; cases e
  | some l =>
    rw [e1] at e
    cases e
    by_cases hd : ∃ l', x = .tup l'
    · obtain ⟨l', rfl⟩ := hd
      cases e1
      cases rx with
      | @tup _ vs a h n rr => exact ⟨a, vs, rfl, .inr ⟨.of h, k _ H M ρ (.refl ..) R (.tup h n rr)⟩⟩
    · have e2 : lviewF x ph = some l := by
        cases x <;> first
          | exact e1
          | exact absurd ⟨_, rfl⟩ hd
      obtain ⟨a, vs, rfl, q, r⟩ := lviewF_ok R rx e2
      refine ⟨a, vs, rfl, .inl ⟨q, fun p hp => ?_⟩⟩
      have E := Ext.laid (M := M) (ρ := ρ) (o := .tup vs) hp
      exact k _ _ _ _ E (R.laid hp) (.tup upd_same (R.noM hp) (r.ext E R.sub))
theorem de_tuple (hK : X.K = G.K) {p : Pos} {e : Expr} {fa : FA} (hm : X.mg "tuple" = none) (ha : DA G X [e] fa) (hg : Gl X "tuple" := by rfl) (he : starEach [e] X.env = (false, eval e X.env) :: starEach [] X.env := by rfl) : DE G X (.Call (.Name "tuple" p) [e] [] pos) (fCall gTuple fa) :=
  de_ty (hK ▸ call_tuple_of) c_tuple hm ha (by decide +kernel) hg (by decide) (by decide) he
def gList1 (x : D) : R (List D) := fun ph => match sview x ph with
    | some l => some (l, ph)
    | none => none
def un1L (g : D → R (List D)) : List D → R (List D)
  | [x] => g x
  | _ => fun _ => none
theorem un1L_inv {g : D → R (List D)} {ds : List D} {ph : PH} {z : List D × PH} (h : un1L g ds ph = some z) : ∃ x, ds = [x] ∧ g x ph = some z := by
  match ds, h with
  | [x], h => exact ⟨x, rfl, h⟩
def gList : List D → R (List D) := un1L gList1
theorem c_list : CallL G (fun xs H Q => ∃ p ys, xs = [.ref p] ∧ (SqL G.K H p ys ∨ SqT G.K H p ys) ∧ ∀ l, H l = none → Q (.ref l) (upd H l (.lst ys))) gList := by
  intro H M ρ ph ds vs d ph1 Q R r e k
  obtain ⟨x, rfl, e⟩ := un1L_inv e
  obtain ⟨v, rfl, rx⟩ := r.one
  have e : gList1 x ph = some (d, ph1) := e
  unfold gList1 at e
  cases e1 : sview x ph with
  | none => rw [e1] at e; cases e
  | some l =>
    rw [e1] at e
    cases e
    obtain ⟨a, vs, rfl, q, r⟩ := sview_ok R rx e1
    refine ⟨a, vs, rfl, q, fun p hp => ?_⟩
    have E := Ext.laidM (M := M) (ρ := ρ) (o := .lst vs) hp
    exact k _ _ _ _ _ E (R.laidM hp) hp upd_same (.inr rfl) (R.fresh hp) (r.ext E R.sub)
theorem dl_list (hK : X.K = G.K) {p : Pos} {e : Expr} {fa : FA} (hm : X.mg "list" = none) (ha : DA G X [e] fa) (hg : Gl X "list" := by rfl) (he : starEach [e] X.env = (false, eval e X.env) :: starEach [] X.env := by rfl) : DL G X (.Call (.Name "list" p) [e] [] pos) (fCallL gList fa) :=
  dl_ty (hK ▸ call_list_of) c_list hm ha (by decide +kernel) hg (by decide) (by decide) he

/-! ### repr -/
theorem call_repr (hu : X.A.units + 64 < cLine) (hgd : X.A.guards = some []) : CallR X (.builtin "repr") (fun xs H Q => ∃ x d, xs = [x] ∧ Dp X.K H x d ∧ d.showable = true ∧ d.hasDict = false ∧ d.depth ≤ 60 ∧ d.shown.length ≤ sizeLine ∧ Q (.str d.shown) H) := by
  intro pins s σ H xs us Q I r h
  obtain ⟨x, d, rfl, hd, h1, h2, h3, h4, q⟩ := h
  obtain ⟨u, rfl, rx⟩ := vals1 r
  obtain ⟨as, rd⟩ := Dp.reads I d x u hd rx
  have deep : ∀ a, u = .ref a → wpAny (model X.prog X.w) X.A (call (.builtin "repr") [u]) (EP X pins σ Q) X.xe s := fun a e => by
    subst e
    refine repr_of_reads' rd h1 (fun z => by rw [h2] at z; cases z) hgd (by omega) (fun _ _ e => e) (fun h' t tk hk => ?_) h4
    exact ⟨.str d.shown, H, I.kept hk, ⟨_, rfl⟩, q⟩
  cases hd with
  | non => cases rx; exact P.repr_of_none ⟨.str "None", H, I.tok _, ⟨_, rfl⟩, by simpa only [PyData.shown] using q⟩
  | bl b => cases rx; exact P.repr_of_bool ⟨.str (if b then "True" else "False"), H, I.tok _, ⟨_, rfl⟩, by simpa only [PyData.shown] using q⟩
  | int i => obtain ⟨t, rfl⟩ := rx; exact P.repr_of_int (by simpa [PyData.showable] using h1) ⟨.str (toString i), H, I.tok _, ⟨_, rfl⟩, by simpa only [PyData.shown] using q⟩
  | str z => obtain ⟨t, rfl⟩ := rx; exact P.repr_of_str ⟨.str (reprText z), H, I.tok _, ⟨_, rfl⟩, by simpa only [PyData.shown] using q⟩ (by simpa only [PyData.shown] using h4)
  | lst => exact deep _ rx
  | tup => exact deep _ rx
def reprOk (d : PyData) : Prop := d.showable = true ∧ d.hasDict = false ∧ d.depth ≤ 60 ∧ d.shown.length ≤ sizeLine
instance (d : PyData) : Decidable (reprOk d) := inferInstanceAs (Decidable (_ ∧ _))
def gRepr1 (x : D) : R D := fun ph => match pyF eqDeep ph x with
  | some d => if reprOk d then some (.str d.shown, ph) else none
  | none => none
def gRepr : List D → R D := un1 gRepr1
theorem c_repr : CallS G (fun xs H Q => ∃ x d, xs = [x] ∧ Dp G.K H x d ∧ d.showable = true ∧ d.hasDict = false ∧ d.depth ≤ 60 ∧ d.shown.length ≤ sizeLine ∧ Q (.str d.shown) H) gRepr := by
  intro H M ρ ph ds vs d ph1 Q R r e k
  obtain ⟨x, rfl, e⟩ := un1_inv e
  obtain ⟨v, rfl, rx⟩ := r.one
  have e : gRepr1 x ph = some (d, ph1) := e
  unfold gRepr1 at e
  cases e1 : pyF eqDeep ph x with
  | none => rw [e1] at e; cases e
  | some p =>
    rw [e1] at e
    simp only at e
    split at e
    · rename_i h
      cases e
      exact ⟨v, p, rfl, rep_py _ R _ _ _ rx e1, h.1, h.2.1, h.2.2.1, h.2.2.2, k _ H M ρ (.refl ..) R (.str _)⟩
    · cases e
theorem de_repr (hK : X.K = G.K) {p : Pos} {e : Expr} {fa : FA} (hu : X.A.units + 64 < cLine) (hgd : X.A.guards = some []) (hm : X.mg "repr" = none) (ha : DA G X [e] fa) (hg : Gl X "repr" := by rfl) (he : starEach [e] X.env = (false, eval e X.env) :: starEach [] X.env := by rfl) : DE G X (.Call (.Name "repr" p) [e] [] pos) (fCall gRepr fa) :=
  de_bi (hK ▸ call_repr hu hgd) c_repr hm ha (by decide +kernel) hg (by decide) (by decide) he

/-! ### sorted, of ints -/
def intsOf : List D → Option (List Int)
  | [] => some []
  | .int i :: r => (intsOf r).map (i :: ·)
  | _ => none
theorem intsOf_ok {H : Hp} {M : Mu} {ρ : Rho} : ∀ {l : List D} {vs : List V} {ns : List Int}, Reps G H M ρ l vs → intsOf l = some ns → vs = ns.map V.int ∧ l = ns.map D.int
  | _, _, _, .nil, e => by cases e; exact ⟨rfl, rfl⟩
  | _, _, _, .cons (d := d) (ds := ds) r t, e => by
    cases r with
    | int i =>
      obtain ⟨ms, e1, rfl⟩ := map_inv (show (intsOf ds).map (i :: ·) = some _ from e)
      obtain ⟨h1, h2⟩ := intsOf_ok t e1
      exact ⟨by rw [h1]; rfl, by rw [h2]; rfl⟩
    | _ => exact nomatch (show (none : Option (List Int)) = some _ from e)
theorem reps_ints {H : Hp} {M : Mu} {ρ : Rho} : ∀ ns : List Int, Reps G H M ρ (ns.map D.int) (ns.map V.int)
  | [] => .nil
  | n :: ns => .cons (.int n) (reps_ints ns)
def gSort1 (x : D) : R (List D) := fun ph => match lviewF x ph with
  | some l => match intsOf l with
    | some ns => some ((ns.mergeSort (fun a b => decide (a ≤ b))).map D.int, ph)
    | none => none
  | none => none
theorem sorted_unique {ns ms : List Int} (p : ns.Perm ms) (h1 : ns.Pairwise (· ≤ ·)) (h2 : ms.Pairwise (· ≤ ·)) : ns = ms :=
  p.eq_of_pairwise (fun a b _ _ h h' => Int.le_antisymm h h') h1 h2
def gSort : List D → R (List D) := un1L gSort1
theorem c_sort : CallL G (rSortedI G.K) gSort := by
  intro H M ρ ph ds vs d ph1 Q R r e k
  obtain ⟨x, rfl, e⟩ := un1L_inv e
  obtain ⟨v, rfl, rx⟩ := r.one
  have e : gSort1 x ph = some (d, ph1) := e
  unfold gSort1 at e
  cases e1 : lviewF x ph with
  | none => rw [e1] at e; cases e
  | some l =>
    rw [e1] at e
    simp only at e
    cases e2 : intsOf l with
    | none => rw [e2] at e; cases e
    | some ns =>
      rw [e2] at e
      cases e
      obtain ⟨a, vs, rfl, q, r⟩ := lviewF_ok R rx e1
      obtain ⟨rfl, rfl⟩ := intsOf_ok r e2
      refine ⟨a, ns, rfl, q, fun ns' p h1 h2 hp => ?_⟩
      have hms : ns' = ns.mergeSort (fun a b => decide (a ≤ b)) := by
        refine sorted_unique (h1.trans (List.mergeSort_perm ns _).symm) h2 ?_
        have := List.pairwise_mergeSort (le := fun a b : Int => decide (a ≤ b)) (fun a b c h1 h2 => by simp only [decide_eq_true_eq] at *; omega) (fun a b => by simp only [Bool.or_eq_true, decide_eq_true_eq]; omega) ns
        exact this.imp fun h => of_decide_eq_true h
      subst hms
      have E := Ext.laidM (M := M) (ρ := ρ) (o := .lst ((ns.mergeSort (fun a b => decide (a ≤ b))).map V.int)) hp
      exact k _ _ _ _ _ E (R.laidM hp) hp upd_same (.inr rfl) (R.fresh hp) (reps_ints _)
theorem dl_sort (hK : X.K = G.K) {p : Pos} {e : Expr} {fa : FA} (hm : X.mg "sorted" = none) (ha : DA G X [e] fa) (hg : Gl X "sorted" := by rfl) (he : starEach [e] X.env = (false, eval e X.env) :: starEach [] X.env := by rfl) : DL G X (.Call (.Name "sorted" p) [e] [] pos) (fCallL gSort fa) :=
  dl_bi (hK ▸ cr_sortedI) c_sort hm ha (by decide +kernel) hg (by decide) (by decide) he

/-! ### methods of lists -/
/-- the receiver is a list, the arguments, what comes -/
def fMethL (g : D → List D → R D) (fo : FE) (fa : FA) : FE := fun σ => bnd (fo σ) fun x => fun ph => if (lview x ph).isSome = true then bnd (fa σ) (g x) ph else none
def MethS (G : Gx) (r : V → List V → Hp → VK → Prop) (g : D → List D → R D) : Prop := ∀ (H : Hp) (M : Mu) (ρ : Rho) (ph : PH) (x : D) (v : V) (ds : List D) (vs : List V) (d : D) (ph1 : PH) (Q : VK), RelH G H M ρ ph → Rep G H M ρ x v → Reps G H M ρ ds vs → g x ds ph = some (d, ph1) →
  (∀ w H' M' ρ', Ext H M ρ H' M' ρ' → RelH G H' M' ρ' ph1 → Rep G H' M' ρ' d w → Q w H') → r v vs H Q
theorem tyV_list {H : Hp} {M : Mu} {ρ : Rho} {ph : PH} {x : D} {v : V} (R : RelH G H M ρ ph) (r : Rep G H M ρ x v) (h : (lview x ph).isSome = true) : tyV G.K "list" v H := by
  obtain ⟨l, e⟩ := Option.isSome_iff_exists.mp h
  obtain ⟨a, vs, rfl, h1, _⟩ := lview_ok R r e
  exact .inl ⟨rfl, vs, .of h1⟩
theorem de_methL (hK : X.K = G.K) {name : Str} {id : String} {r : V → List V → Hp → VK → Prop} {g : D → List D → R D} {o e : Expr} {es : List Expr} {fo : FE} {fa : FA} {apos cpos : Pos} (slot : Slot "list" name id) (hty : typeOf (.builtin id) = pure (.type "method_descriptor")) (hm : MtR X id r) (hs : MethS G r g) (ho : DE G X o fo) (ha : DA G X (e :: es) fa)
    (pe : PE X (.Call (.Attribute o name apos) (e :: es) [] cpos) (tBM X.K "list" r (TEof G fo) (TAof G fa))) : DE G X (.Call (.Attribute o name apos) (e :: es) [] cpos) (fMethL g fo fa) :=
  ⟨pe.weak fun σ H Q ⟨s, M, ρ, ph, d, ph1, P, e, k⟩ => by
    obtain ⟨x, ph2, e1, e2⟩ := bnd_some e
    split at e2
    · rename_i hl
      obtain ⟨ds, ph3, e3, e4⟩ := bnd_some e2
      refine ⟨s, M, ρ, ph, x, ph2, P, e1, fun v H1 M1 ρ1 E1 R1 r1 => ⟨hK ▸ tyV_list R1 r1 hl, ?_⟩⟩
      refine ⟨s, M1, ρ1, ph2, ds, ph3, P.go E1 R1, e3, fun vs H2 M2 ρ2 E2 R2 r2 => ?_⟩
      exact hs H2 M2 ρ2 ph3 x v ds vs d ph1 Q R2 (r1.ext E2 R1.sub) r2 e4 fun w H3 M3 ρ3 E3 R3 r3 => k w H3 M3 ρ3 ((E1.trans E2).trans E3) R3 r3
    · cases e2⟩
def gAppend : D → List D → R D
  | .ref n, [y] => fun ph => match moL ph[n]? with
    | some l => if l.length < sizeLine then some (.non, ph.set n (.lst (l ++ [y]))) else none
    | none => none
  | _, _ => fun _ => none
theorem moL_inv {o : Option MO} {l : List D} (h : moL o = some l) : o = some (.lst l) := by
  cases o with
  | none => cases h
  | some mo => cases mo <;> first | (cases h; rfl) | exact nomatch (show (none : Option (List D)) = some _ from h)
theorem m_append : MethS G rAppend gAppend := by
  intro H M ρ ph x v ds vs d ph1 Q R rx r e k
  match x, ds, e, rx, r with
  | .ref n, [y], e, rx, r =>
    obtain ⟨u, rfl, ry⟩ := r.one
    have e : (match moL ph[n]? with | some l => if l.length < sizeLine then some (D.non, ph.set n (.lst (l ++ [y]))) else none | none => none) = some (d, ph1) := e
    cases q : moL ph[n]? with
    | none => rw [q] at e; cases e
    | some l =>
      rw [q] at e
      simp only at e
      split at e
      · rename_i z
        cases e
        cases rx with
        | @ref _ a h =>
          obtain ⟨b, vs, e2, h2, r2⟩ := R.ob n _ _ (moL_inv q) h
          cases e2
          refine ⟨a, vs, u, rfl, rfl, h2, by rw [← r2.length]; exact z, ?_⟩
          have ha : some a ∈ ρ := List.mem_of_getElem? h
          have E := Ext.put (M := M) (o := .lst (vs ++ [u])) ha (R.there a ha)
          exact k .non _ _ _ E (R.put h ⟨a, _, rfl, upd_same, (r2.append (.cons ry .nil)).ext E R.sub⟩) .non
      · cases e
theorem de_append (hK : X.K = G.K) {o e : Expr} {fo : FE} {fa : FA} {apos cpos : Pos} (ho : DE G X o fo) (ha : DA G X [e] fa) (hbase : attributeBase o "append" X.env (eval o X.env) = eval o X.env := by rfl)
    (hfew : ((backTo cpos (starEach [e] X.env)).all (fun x => !x.1) && (backToKw cpos (keywordEach [] X.env)).all (fun x => x.1.isSome) && decide ([e].length + ([] : List Keyword).length + (if ([] : List Keyword).isEmpty then 0 else 1) < 30)) = true := by rfl)
    (hline : (apos.endLine == cpos.line) = true := by rfl) (hs : starEach [e] X.env = (false, eval e X.env) :: starEach [] X.env := by rfl) : DE G X (.Call (.Attribute o "append" apos) [e] [] cpos) (fMethL gAppend fo fa) :=
  de_methL hK PySem.F.slot_list_append PySem.F.type_list_append mt_append m_append ho ha (pe_bm PySem.F.plainAttrs_list PySem.F.slot_list_append PySem.F.type_list_append mt_append ho.pe ha.pa hbase hfew hline hs rfl)
def gExtend : D → List D → R D
  | .ref n, [y] => fun ph => match moL ph[n]?, lview y ph with
    | some l, some m => if l.length + m.length ≤ sizeLine then some (.non, ph.set n (.lst (l ++ m))) else none
    | _, _ => none
  | _, _ => fun _ => none
theorem m_extend : MethS G rExtend gExtend := by
  intro H M ρ ph x v ds vs d ph1 Q R rx r e k
  match x, ds, e, rx, r with
  | .ref n, [y], e, rx, r =>
    obtain ⟨u, rfl, ry⟩ := r.one
    have e : (match moL ph[n]?, lview y ph with | some l, some m => if l.length + m.length ≤ sizeLine then some (D.non, ph.set n (.lst (l ++ m))) else none | _, _ => none) = some (d, ph1) := e
    cases q : moL ph[n]? with
    | none => rw [q] at e; cases e
    | some l =>
      cases q2 : lview y ph with
      | none => rw [q, q2] at e; cases e
      | some m =>
        rw [q, q2] at e
        simp only at e
        split at e
        · rename_i z
          cases e
          cases rx with
          | @ref _ a h =>
            obtain ⟨b, vs, e2, h2, r2⟩ := R.ob n _ _ (moL_inv q) h
            cases e2
            obtain ⟨b, us, rfl, h3, r3⟩ := lview_ok R ry q2
            refine ⟨a, b, vs, us, rfl, rfl, h2, h3, by rw [← r2.length, ← r3.length]; exact z, ?_⟩
            have ha : some a ∈ ρ := List.mem_of_getElem? h
            have E := Ext.put (M := M) (o := .lst (vs ++ us)) ha (R.there a ha)
            exact k .non _ _ _ E (R.put h ⟨a, _, rfl, upd_same, (r2.append r3).ext E R.sub⟩) .non
        · cases e
theorem de_extend (hK : X.K = G.K) {o e : Expr} {fo : FE} {fa : FA} {apos cpos : Pos} (ho : DE G X o fo) (ha : DA G X [e] fa) (hbase : attributeBase o "extend" X.env (eval o X.env) = eval o X.env := by rfl)
    (hfew : ((backTo cpos (starEach [e] X.env)).all (fun x => !x.1) && (backToKw cpos (keywordEach [] X.env)).all (fun x => x.1.isSome) && decide ([e].length + ([] : List Keyword).length + (if ([] : List Keyword).isEmpty then 0 else 1) < 30)) = true := by rfl)
    (hline : (apos.endLine == cpos.line) = true := by rfl) (hs : starEach [e] X.env = (false, eval e X.env) :: starEach [] X.env := by rfl) : DE G X (.Call (.Attribute o "extend" apos) [e] [] cpos) (fMethL gExtend fo fa) :=
  de_methL hK PySem.F.slot_list_extend PySem.F.type_list_extend mt_extend m_extend ho ha (pe_bm PySem.F.plainAttrs_list PySem.F.slot_list_extend PySem.F.type_list_extend mt_extend ho.pe ha.pa hbase hfew hline hs rfl)
/-- xs.pop() -/
def gPop : D → R D
  | .ref n => fun ph => match moL ph[n]? with
    | some l => match l[l.length - 1]? with
      | some y => some (y, ph.set n (.lst l.dropLast))
      | none => none
    | none => none
  | _ => fun _ => none
def fMethL0 (g : D → R D) (fo : FE) : FE := fun σ => bnd (fo σ) g
theorem Reps.dropLast {H : Hp} {M : Mu} {ρ : Rho} {l : List D} {vs : List V} (r : Reps G H M ρ l vs) : Reps G H M ρ l.dropLast vs.dropLast := by
  rw [List.dropLast_eq_take, List.dropLast_eq_take, r.length]
  exact r.take _
theorem de_pop (hK : X.K = G.K) {o : Expr} {fo : FE} {apos cpos : Pos} (ho : DE G X o fo) (hbase : attributeBase o "pop" X.env (eval o X.env) = eval o X.env := by rfl) (hline : (apos.endLine == cpos.line) = true := by rfl) : DE G X (.Call (.Attribute o "pop" apos) [] [] cpos) (fMethL0 gPop fo) :=
  ⟨(pe_bm0 PySem.F.plainAttrs_list PySem.F.slot_list_pop PySem.F.type_list_pop mt_pop ho.pe hbase hline).weak fun σ H Q ⟨s, M, ρ, ph, d, ph1, P, e, k⟩ => by
    obtain ⟨x, ph2, e1, e2⟩ := bnd_some e
    refine ⟨s, M, ρ, ph, x, ph2, P, e1, fun v H1 M1 ρ1 E1 R1 r1 => ?_⟩
    cases r1 with
    | @ref n a h =>
      have e2 : (match moL ph2[n]? with | some l => (match l[l.length - 1]? with | some y => some (y, ph2.set n (.lst l.dropLast)) | none => none) | none => none) = some (d, ph1) := e2
      cases q : moL ph2[n]? with
      | none => rw [q] at e2; cases e2
      | some l =>
        rw [q] at e2
        simp only at e2
        cases q2 : l[l.length - 1]? with
        | none => rw [q2] at e2; cases e2
        | some y =>
          rw [q2] at e2
          cases e2
          obtain ⟨b, vs, e3, h2, r2⟩ := R1.ob n _ _ (moL_inv q) h
          cases e3
          obtain ⟨w, h3, r3⟩ := r2.get q2
          have ha : some a ∈ ρ1 := List.mem_of_getElem? h
          have E := Ext.put (M := M1) (o := .lst vs.dropLast) ha (R1.there a ha)
          refine ⟨.inl ⟨rfl, vs, .of h2⟩, a, vs, w, rfl, rfl, h2, by rw [← r2.length]; exact h3, ?_⟩
          exact k w _ _ _ (E1.trans E) (R1.put h ⟨a, _, rfl, upd_same, (r2.dropLast).ext E R1.sub⟩) (r3.ext E R1.sub)
    | _ => exact nomatch (show (none : Option (D × PH)) = some _ from e2)⟩
/-- xs[i] = e -/
def gPut (x y z : D) : R Unit := fun ph => match x, y with
  | .ref n, .int i => match moL ph[n]? with
    | some l => match ixN l.length i with
      | some j => some ((), ph.set n (.lst (l.set j z)))
      | none => none
    | none => none
  | _, _ => none
def sPut (fe fo fi : FE) : FS := fun σ => bnd (fe σ) fun z => bnd (fo σ) fun x => bnd (fi σ) fun y => bnd (gPut x y z) fun _ => ret (.nx σ)
theorem ds_put {o i e : Expr} {fe fo fi : FE} {tpos pos : Pos} (he : DE G X e fe) (ho : DE G X o fo) (hi : DE G X i fi)
    (ha : ∀ v, assign (.Subscript o i tpos) X.env v = (do
      let ov ← holding [v] (eval o X.env)
      let iv ← holding [v, ov] (eval i X.env)
      standAt tpos
      holding [v, ov, iv] (setItem ov iv v)
      release [v, ov, iv] []) := by intro _; rfl)
    (hs : swapsWithSole [.Subscript o i tpos] e pos.line X.env = pure false := by rfl) (hw : swappedStores [.Subscript o i tpos] e X.env = pure none := by rfl) (h1 : (assignEach [.Subscript o i tpos] X.env).map (·.2) = [assign (.Subscript o i tpos) X.env] := by rfl) :
    DS G X (.Assign [.Subscript o i tpos] e pos) (sPut fe fo fi) := ⟨(ps_asg he.pe (pg_sub ho.pe hi.pe set_list ha) hs hw h1).weak fun E σ H q => by
  obtain ⟨s, M, ρ, ph, o, ph1, P, e, k⟩ := TSof.un q
  obtain ⟨z, ph2, e1, e2⟩ := bnd_some e
  obtain ⟨x, ph3, e3, e4⟩ := bnd_some e2
  obtain ⟨y, ph4, e5, e6⟩ := bnd_some e4
  obtain ⟨_, ph5, e7, e8⟩ := bnd_some e6
  obtain ⟨rfl, rfl⟩ := ret_some e8
  refine ⟨s, M, ρ, ph, z, ph2, P, e1, fun vz H1 M1 ρ1 E1 R1 r1 => ?_⟩
  refine ⟨s, M1, ρ1, ph2, x, ph3, P.go E1 R1, e3, fun vx H2 M2 ρ2 E2 R2 r2 => ?_⟩
  refine ⟨s, M2, ρ2, ph3, y, ph4, (P.go E1 R1).go E2 R2, e5, fun vy H3 M3 ρ3 E3 R3 r3 => ?_⟩
  have rz := r1.ext (E2.trans E3) R1.sub
  have rx := r2.ext E3 R2.sub
  unfold gPut at e7
  cases rx with
  | @ref n a h =>
    cases r3 with
    | int i =>
      simp only at e7
      cases q : moL ph4[n]? with
      | none => rw [q] at e7; cases e7
      | some l =>
        rw [q] at e7
        simp only at e7
        cases q2 : ixN l.length i with
        | none => rw [q2] at e7; cases e7
        | some j =>
          rw [q2] at e7
          cases e7
          obtain ⟨b, vs, e9, h2, rr⟩ := R3.ob n _ _ (moL_inv q) h
          cases e9
          have ha : some a ∈ ρ3 := List.mem_of_getElem? h
          have E4 := Ext.put (M := M3) (o := .lst (vs.set j vz)) ha (R3.there a ha)
          refine ⟨a, vs, i, j, rfl, rfl, h2, by rw [← rr.length]; exact q2, ?_⟩
          have R4 := R3.put h (mo := .lst (l.set j z)) ⟨a, _, rfl, upd_same, (rr.set rz j).ext E4 R3.sub⟩
          have EE := ((E1.trans E2).trans E3).trans E4
          exact k _ _ _ EE R4 σ (P.go EE R4).L
    | _ => exact nomatch (show (none : Option (Unit × PH)) = some _ from e7)
  | _ => exact nomatch (show (none : Option (Unit × PH)) = some _ from e7)⟩
end
end FD

set_option Elab.async false
set_option maxRecDepth 100000
set_option linter.all false
/-! FdW: wrappers; slices of anything; chains; two names at once. -/
namespace FD
open PySem PySem.Spec L2
section
variable {G : Gx} {X : Cx} {pos : Pos}
theorem de_eq (hK : X.K = G.K) (hu : X.A.units + 64 < cLine) {a b : Expr} {fa fb : FE} (ha : DE G X a fa) (hb : DE G X b fb) : DE G X (.Compare a [.Eq] [b] pos) (fBin gEq fa fb) := de_cmp (hK ▸ op_eqA hu) s_eq ha hb (nomark _)
theorem de_ne (hK : X.K = G.K) (hu : X.A.units + 64 < cLine) {a b : Expr} {fa fb : FE} (ha : DE G X a fa) (hb : DE G X b fb) : DE G X (.Compare a [.NotEq] [b] pos) (fBin gNe fa fb) := de_cmp (hK ▸ op_neA hu) s_ne ha hb (nomark _)
theorem de_lt {a b : Expr} {fa fb : FE} (ha : DE G X a fa) (hb : DE G X b fb) : DE G X (.Compare a [.Lt] [b] pos) (fBin gLt fa fb) := de_cmp op_lt s_lt ha hb (nomark _)
theorem de_le {a b : Expr} {fa fb : FE} (ha : DE G X a fa) (hb : DE G X b fb) : DE G X (.Compare a [.LtE] [b] pos) (fBin gLe fa fb) := de_cmp op_le s_le ha hb (nomark _)
theorem de_gt {a b : Expr} {fa fb : FE} (ha : DE G X a fa) (hb : DE G X b fb) : DE G X (.Compare a [.Gt] [b] pos) (fBin gGt fa fb) := de_cmp op_gt s_gt ha hb (nomark _)
theorem de_ge {a b : Expr} {fa fb : FE} (ha : DE G X a fa) (hb : DE G X b fb) : DE G X (.Compare a [.GtE] [b] pos) (fBin gGe fa fb) := de_cmp op_ge s_ge ha hb (nomark _)
theorem de_isN {a b : Expr} {fa fb : FE} (ha : DE G X a fa) (hb : DE G X b fb) : DE G X (.Compare a [.Is] [b] pos) (fBin gIsN fa fb) := de_cmp op_isN s_isN ha hb (nomark _)
theorem de_notN {a b : Expr} {fa fb : FE} (ha : DE G X a fa) (hb : DE G X b fb) : DE G X (.Compare a [.IsNot] [b] pos) (fBin gNotN fa fb) := de_cmp op_notN s_notN ha hb (nomark _)
theorem dt_eq (hK : X.K = G.K) (hu : X.A.units + 64 < cLine) {a b : Expr} {fa fb : FE} (ha : DE G X a fa) (hb : DE G X b fb) : DT G X (.Compare a [.Eq] [b] pos) (fTest (fBin gEq fa fb)) := dt_cmp (hK ▸ op_eqA hu) s_eq ha hb (nomark _)
theorem dt_ne (hK : X.K = G.K) (hu : X.A.units + 64 < cLine) {a b : Expr} {fa fb : FE} (ha : DE G X a fa) (hb : DE G X b fb) : DT G X (.Compare a [.NotEq] [b] pos) (fTest (fBin gNe fa fb)) := dt_cmp (hK ▸ op_neA hu) s_ne ha hb (nomark _)
theorem dt_lt {a b : Expr} {fa fb : FE} (ha : DE G X a fa) (hb : DE G X b fb) : DT G X (.Compare a [.Lt] [b] pos) (fTest (fBin gLt fa fb)) := dt_cmp op_lt s_lt ha hb (nomark _)
theorem dt_le {a b : Expr} {fa fb : FE} (ha : DE G X a fa) (hb : DE G X b fb) : DT G X (.Compare a [.LtE] [b] pos) (fTest (fBin gLe fa fb)) := dt_cmp op_le s_le ha hb (nomark _)
theorem dt_gt {a b : Expr} {fa fb : FE} (ha : DE G X a fa) (hb : DE G X b fb) : DT G X (.Compare a [.Gt] [b] pos) (fTest (fBin gGt fa fb)) := dt_cmp op_gt s_gt ha hb (nomark _)
theorem dt_ge {a b : Expr} {fa fb : FE} (ha : DE G X a fa) (hb : DE G X b fb) : DT G X (.Compare a [.GtE] [b] pos) (fTest (fBin gGe fa fb)) := dt_cmp op_ge s_ge ha hb (nomark _)
theorem dt_isN {a b : Expr} {fa fb : FE} (ha : DE G X a fa) (hb : DE G X b fb) : DT G X (.Compare a [.Is] [b] pos) (fTest (fBin gIsN fa fb)) := dt_cmp op_isN s_isN ha hb (nomark _)
theorem dt_notN {a b : Expr} {fa fb : FE} (ha : DE G X a fa) (hb : DE G X b fb) : DT G X (.Compare a [.IsNot] [b] pos) (fTest (fBin gNotN fa fb)) := dt_cmp op_notN s_notN ha hb (nomark _)

/-! ### a < b < c -/
def fChain (g g' : D → D → R D) (fa fb fc : FE) : FE := fun σ => bnd (fa σ) fun x => bnd (fb σ) fun y => bnd (g x y) fun t => bnd (lift (toB t)) fun b => if b = true then bnd (fc σ) fun z => g' y z else ret (.bl false)

/-! ### a slice of a list, a tuple, a text -/
def gSl (x : D) (lo hi : Option Int) : R D := fun ph => match x with
  | .tup l => some (.tup (cutD l lo hi), ph)
  | .str z => if z.length ≤ sizeLine then some (.str (cutS z lo hi), ph) else none
  | _ => match lviewF x ph with
    | some l => some (.lst (cutD l lo hi), ph)
    | none => none
def fSl (fa : FE) (fl fh : Sg → R (Option Int)) : FE := fun σ => bnd (fa σ) fun x => bnd (fl σ) fun lo => bnd (fh σ) fun hi => gSl x lo hi
theorem de_sl (hK : X.K = G.K) {a : Expr} {lo hi : Option Expr} {p2 : Pos} {fa : FE} {fl fh : Sg → R (Option Int)} (ha : DE G X a fa) (hl : DO G X lo fl) (hh : DO G X hi fh) : DE G X (.Subscript a (.Slice lo hi none p2) pos) (fSl fa fl fh) :=
  ⟨(pe_slice (r := fun x lo hi H Q => rSlA G.K x lo hi H Q ∨ rSlS x lo hi H Q ∨ rSlL G.K x lo hi H Q) (hK ▸ sl_tupA.or (sl_str.or sl_list)) ha.pe hl.po hh.po).weak fun σ H Q ⟨s, M, ρ, ph, d, ph1, P, e, k⟩ => by
    obtain ⟨x, ph2, e1, e2⟩ := bnd_some e
    obtain ⟨lo, ph3, e3, e4⟩ := bnd_some e2
    obtain ⟨hi, ph4, e5, e6⟩ := bnd_some e4
    refine ⟨s, M, ρ, ph, x, ph2, P, e1, fun v H1 M1 ρ1 E1 R1 r1 => ?_⟩
    refine ⟨s, M1, ρ1, ph2, lo, ph3, P.go E1 R1, e3, fun H2 M2 ρ2 E2 R2 => ?_⟩
    refine ⟨s, M2, ρ2, ph3, hi, ph4, (P.go E1 R1).go E2 R2, e5, fun H3 M3 ρ3 E3 R3 => ?_⟩
    have E13 := E2.trans E3
    have lists : (match lviewF x ph4 with | some l => some (D.lst (cutD l lo hi), ph4) | none => none) = some (d, ph1) → rSlL G.K v lo hi H3 Q := fun e6 => by
      cases e7 : lviewF x ph4 with
      | none => rw [e7] at e6; cases e6
      | some l =>
        rw [e7] at e6
        cases e6
        obtain ⟨a, vs, rfl, q, r⟩ := lviewF_ok R3 (r1.ext E13 R1.sub) e7
        refine ⟨a, vs, rfl, q, fun p hp => ?_⟩
        have E := Ext.laid (M := M3) (ρ := ρ3) (o := .lst (L2.cutV vs lo hi)) hp
        exact k _ _ _ _ ((E1.trans E13).trans E) (R3.laid hp) (.lst upd_same (R3.noM hp) ((r.cutV lo hi).ext E R3.sub))
    cases r1 with
    | @tup l vs a h n r =>
      cases e6
      obtain ⟨h3, n3⟩ := E13.old R1.sub h n
      have r3 := r.ext E13 R1.sub
      refine .inl ⟨a, vs, rfl, .of h3, fun w => ?_, fun w p hp => ?_⟩
      · rw [← r3.length] at w
        rw [whole_cut w] at k
        exact k _ H3 M3 ρ3 ((E1.trans E13)) R3 (.tup h3 n3 r3)
      · have E := Ext.laid (M := M3) (ρ := ρ3) (o := .tup (L2.cutV vs lo hi)) hp
        exact k _ _ _ _ ((E1.trans E13).trans E) (R3.laid hp) (.tup upd_same (R3.noM hp) ((r3.cutV lo hi).ext E R3.sub))
    | str z =>
      have e6 : (if z.length ≤ sizeLine then some (D.str (cutS z lo hi), ph4) else none) = some (d, ph1) := e6
      split at e6
      · rename_i h; cases e6; exact .inr (.inl ⟨z, rfl, h, k _ H3 M3 ρ3 (E1.trans E13) R3 (.str _)⟩)
      · cases e6
    | non => exact nomatch (show (none : Option (D × PH)) = some _ from e6)
    | bl => exact nomatch (show (none : Option (D × PH)) = some _ from e6)
    | int => exact nomatch (show (none : Option (D × PH)) = some _ from e6)
    | obj => exact nomatch (show (none : Option (D × PH)) = some _ from e6)
    | lst h n r => exact .inr (.inr (lists e6))
    | fzl h r => exact .inr (.inr (lists e6))
    | ref h => exact .inr (.inr (lists e6))⟩

/-! ### a, b = x, y -/
def sPar (i j : Nat) (fa : FA) : FS := fun σ => bnd (fa σ) fun ds => match ds with
  | [d, e] => ret (.nx ((σ.set i (some d)).set j (some e)))
  | _ => fun _ => none
theorem ds_par (i j : Nat) {x y : Str} {px py : Pos} {kt k2 : Nat} {pt pt2 : Pos} {a b : Expr} {fa : FA} (hc : X.calm = true) (hN : X.N.Nodup) (ha : DA G X [a, b] fa) (hi : X.N[i]? = some x := by rfl) (hj : X.N[j]? = some y := by rfl) (hij : i ≠ j := by decide) (hx : X.env.scope.names.lookup x = some .local := by rfl) (hy : X.env.scope.names.lookup y = some .local := by rfl)
    (hw : swappedStores [.Tuple [.Name x px, .Name y py] kt pt] (.Tuple [a, b] k2 pt2) X.env = pure (some [x, y]) := by rfl) : DS G X (.Assign [.Tuple [.Name x px, .Name y py] kt pt] (.Tuple [a, b] k2 pt2) pos) (sPar i j fa) := ⟨(ps_par hc hN hi hj hij hx hy ha.pa hw).weak fun E σ H q => by
  obtain ⟨s, M, ρ, ph, o, ph1, P, e, k⟩ := TSof.un q
  obtain ⟨ds, ph2, e1, e2⟩ := bnd_some e
  match ds, e1, e2 with
  | [d1, d2], e1, e2 =>
    obtain ⟨rfl, rfl⟩ := ret_some e2
    refine ⟨s, M, ρ, ph, _, ph2, P, e1, fun vs H1 M1 ρ1 E1 R1 r1 => ?_⟩
    obtain ⟨v, u, rfl, rv, ru⟩ := r1.two
    exact ⟨v, u, rfl, k H1 M1 ρ1 E1 R1 _ (((P.go E1 R1).L.set i rv).set j ru)⟩⟩
end
end FD

set_option Elab.async false
set_option maxRecDepth 100000
set_option linter.all false
/-! FdZ: the end of a law: its def's promise meets the row. -/
namespace FD
open PySem PySem.Spec L2

/-- the call of the law's def on a script, over the heap behind the top -/
theorem callG {P : Program} {w : World} {K : PySem.W.Frag} {mg mb : Str → Option Value} {k : Nat} {fa a : Addr} {fd : FuncData} {x : Str} {G : Gx} {ff : FF} {s₁ : Shared} {vs : List Value} {ns : List Int}
    (KX : K.In s₁.heap) (hns : s₁.heap.Ns mainGlobals mg) (hb : s₁.heap.Ns builtinsNs mb) (hbb : ∀ x : Str, x ≠ "__name__" → mb x = bootBuiltins x) (hlim : s₁.heap.NoLimit) (hg : s₁.gens = #[])
    (ha : s₁.heap.get? a = some { cls := .type "list", data := .seq vs.toArray }) (hi : PyProof.Rows.IntsAre vs ns) (hl : ns.length ≤ sizeLine) (hr : Room k callerA) (hGK : G.K = K)
    (F : ∀ base : Heap, K.In base → base.Ns mainGlobals mg → FnG P w K mg base k fa fd [x] (spOf G 1 ff)) (hbind : ∀ (s : Shared) (u : Value), BindsTo s fd ⟨[u], []⟩ [(x, u)])
    (hf : ∃ ph1, ff [.fzl (ns.map D.int)] [] = some (.bl true, ph1)) :
    codeAny (model P w) callerA (.call (.ref fa) ⟨[.ref a], []⟩) (fun r s' => r = .ok (.ret (.bool true)) ∧ PySem.OldK s₁.heap s'.heap ∧ s'.os = s₁.os ∧ PyProof.Rows.AllBare s'.gens) s₁ := by
  subst hGK
  have rv := vals_ints hi
  -- the abstract heap: nothing but the script, and that only where the module doesn't hold it
  obtain ⟨H, hO, hA, hok, hs⟩ : ∃ H : Hp, (∀ b u, H b = some u → b = a ∧ G.K.lookup a = none ∧ u = .frz { cls := .type "list", data := .seq vs.toArray } (.lst (ns.map V.int))) ∧ True ∧ HOk P w H s₁.heap ∧
      ((Rd H a (.lst (ns.map V.int)) ∧ ¬ (fun _ : Addr => False) a) ∨ SqL G.K (fun _ => none) a (ns.map V.int)) := by
    cases hk : G.K.lookup a with
    | some o =>
      have e := KX a o hk
      rw [ha] at e
      cases e
      refine ⟨fun _ => none, fun b u z => (nomatch z), trivial, fun b u z => (nomatch z), .inr (.inr ⟨_, vs.toArray, _, hk, rfl, rfl, rfl, ?_, by simpa using rv⟩)⟩
      rw [List.size_toArray, hi.length]; exact hl
    | none =>
      refine ⟨fun b => if b = a then some (.frz { cls := .type "list", data := .seq vs.toArray } (.lst (ns.map V.int))) else none, fun b u z => ?_, trivial, fun b u z => ?_, .inl ⟨.inr ⟨_, if_pos rfl⟩, fun z => z⟩⟩
      · by_cases hb : b = a
        · exact ⟨hb, rfl, (Option.some.inj ((if_pos hb).symm.trans z)).symm⟩
        · cases (if_neg hb).symm.trans z
      · by_cases hb : b = a
        · have := Option.some.inj ((if_pos hb).symm.trans z)
          subst this hb
          exact ⟨ha, by rw [List.length_map]; exact hl, vs, _, rv, ha⟩
        · cases (if_neg hb).symm.trans z
  have free : ∀ {b : Addr} {o : Obj}, s₁.heap.get? b = some o → o.cls ≠ .type "list" → H b = none := fun {b o} e c => by
    cases q : H b with
    | none => rfl
    | some u =>
      obtain ⟨rfl, _, _⟩ := hO b u q
      rw [ha] at e; cases e
      exact absurd rfl c
  have freeD : ∀ {b : Addr} {o : Obj} {es : Array DictEntry} {ep : Nat}, s₁.heap.get? b = some o → o.data = .dict es ep → H b = none := fun {b o es ep} e d => by
    cases q : H b with
    | none => rfl
    | some u =>
      obtain ⟨rfl, _, _⟩ := hO b u q
      rw [ha] at e; cases e
      cases (show Data.seq vs.toArray _ = Data.dict es ep from d)
  have freeK : ∀ {b : Addr} {o : Obj}, G.K.lookup b = some o → H b = none := fun {b o} e => by
    cases q : H b with
    | none => rfl
    | some u =>
      obtain ⟨rfl, h, _⟩ := hO b u q
      rw [h] at e; cases e
  have nsH : ∀ {b : Addr} {m : Str → Option Value}, s₁.heap.Ns b m → (hidT s₁.heap H).Ns b m := fun {b m} ⟨o, es, ep, e, d, r⟩ => ⟨o, es, ep, hidT_get e (freeD e d), d, r⟩
  have inH : G.K.In (hidT s₁.heap H) := fun b o e => hidT_get (KX b o e) (freeK e)
  have e0 : Env0 P w G.K mg (hidT s₁.heap H) callerA [] s₁ H :=
    ⟨rfl, ⟨inH, nsH hns, ⟨mb, nsH hb, hbb⟩, let ⟨mc, h1, h2⟩ := hlim; ⟨mc, nsH h1, h2⟩⟩, fun b o e => of_hidT e, Nat.le_of_eq (hidT_size _ _), trivial, fun b hb => (nomatch hb), hok, .of_eq hg⟩
  obtain ⟨ph1, hf⟩ := hf
  have sp : spOf G 1 ff [.ref a] H (fun v _ => v = .bl true) E0 := by
    refine ⟨[.fzl (ns.map D.int)], fun _ => False, [], [], .bl true, ph1, ⟨rfl, fun n mo oa h => by simp at h, fun n m b h => by simp at h, fun b h => (nomatch h), fun b h => h.elim⟩, .cons (.fzl hs (reps_ints ns)) .nil, hf, rfl, fun v H' M' ρ' E R r => ?_⟩
    cases r
    rfl
  refine codeAny_mono ((F _ inH (nsH hns)).run callerA [] s₁ H ⟨[.ref a], []⟩ [.ref a] [.ref a] _ hr rfl e0 (hbind s₁ (.ref a)) (.cons rfl .nil) sp) fun r s' h => ?_
  cases r with
  | error e => exact h.elim
  | ok fl =>
    cases fl with
    | next => exact h.elim
    | brk => exact h.elim
    | cont => exact h.elim
    | ret u =>
      obtain ⟨v, H', os, bare, un, hok', r', q⟩ := h
      have q : v = .bl true := q
      subst q
      obtain rfl : u = Value.bool true := r'
      refine ⟨rfl, PySem.OldK.of_keep fun b o e => ?_, os, bare⟩
      cases q : H b with
      | none => exact un.keep b o e q (fun z => nomatch z) (fun z => nomatch z)
      | some u =>
        obtain ⟨rfl, _, rfl⟩ := hO b u q
        obtain ⟨e2, _⟩ := hok' b _ (un.frzs b _ _ q)
        rw [ha] at e; cases e
        exact e2

/-- the goal that k_head leaves -/
theorem walkG {l : PySem.W.OpenLaw} {n k : Nat} {q : Program} {loose : List Str} {XP : (Str → Option Value) → Heap → Prop} {YP : World → Heap → Prop} {d : DefRec} {K : Params → PySem.W.Frag} {x : Str} {ff : FF}
    (hn : l.most = some n) (hn2 : n ≤ sizeLine) (hdf : d.params.defaults = []) (hr : Room k callerA)
    (hY : ∀ (w : World) (h : Heap), YP w h → (K w.params).In h)
    (F : ∀ (w : World) (mg : Str → Option Value) (fa : Addr) (h : Heap), (K w.params).In h → h.Ns mainGlobals mg → mg d.name = some (.ref fa) →
      ∃ (fd : FuncData) (G : Gx), G.K = K w.params ∧ (∀ (s : Shared) (u : Value), BindsTo s fd ⟨[u], []⟩ [(x, u)]) ∧
        ∀ base : Heap, (K w.params).In base → base.Ns mainGlobals mg → FnG l.prog w (K w.params) mg base k fa fd [x] (spOf G 1 ff))
    (hf : ∀ ns : List Int, ns.length ≤ n → ∃ ph1, ff [.fzl (ns.map D.int)] [] = some (.bl true, ph1)) :
    PySem.W.WalkO q loose XP YP l.row.toRowW d [] (fun f vs => PySem.call f vs) := by
  refine Att.attach_call hn hdf fun w s₀ s₁ mg mb fa o pm cd doc a vs ns B Y ho hd hcd hmg hobj hints hlen hg => ?_
  have KX := hY w _ Y
  obtain ⟨fd, G, hGK, hb, hF⟩ := F w mg fa _ KX B.T.g hmg
  exact callG (G := G) KX B.T.g B.T.b B.T.builtins B.T.nolimit hg hobj hints (Nat.le_trans hlen hn2) hr hGK hF hb (hf ns hlen)

/-- the goal that head_any leaves: the module's part K is told behind the top -/
theorem walkE {l : PySem.W.OpenLaw} {n k : Nat} {q : Program} {loose : List Str} {XP : (Str → Option Value) → Heap → Prop} {YP : World → Heap → Prop} {d : DefRec} {x : Str} {ff : FF}
    (hn : l.most = some n) (hn2 : n ≤ sizeLine) (hdf : d.params.defaults = []) (hr : Room k callerA)
    (F : ∀ (w : World) (mg : Str → Option Value) (fa : Addr) (h : Heap), YP w h → h.Ns mainGlobals mg → mg d.name = some (.ref fa) →
      ∃ (K : PySem.W.Frag) (fd : FuncData) (G : Gx), K.In h ∧ G.K = K ∧ (∀ (s : Shared) (u : Value), BindsTo s fd ⟨[u], []⟩ [(x, u)]) ∧
        ∀ base : Heap, K.In base → base.Ns mainGlobals mg → FnG l.prog w K mg base k fa fd [x] (spOf G 1 ff))
    (hf : ∀ ns : List Int, ns.length ≤ n → ∃ ph1, ff [.fzl (ns.map D.int)] [] = some (.bl true, ph1)) :
    PySem.W.WalkO q loose XP YP l.row.toRowW d [] (fun f vs => PySem.call f vs) := by
  refine Att.attach_call hn hdf fun w s₀ s₁ mg mb fa o pm cd doc a vs ns B Y ho hd hcd hmg hobj hints hlen hg => ?_
  obtain ⟨K, fd, G, KX, hGK, hb, hF⟩ := F w mg fa _ Y B.T.g hmg
  exact callG (G := G) KX B.T.g B.T.b B.T.builtins B.T.nolimit hg hobj hints (Nat.le_trans hlen hn2) hr hGK hF hb (hf ns hlen)
/-- a def without defaults -/
theorem funOf {K : PySem.W.Frag} {x q : Str} {st : Stmt} {f : Addr} {fd : FuncData} (F : FunD K x q (defArgs st) (defBody st) (defScope st) [] [] f fd) : Fun K x q st f fd := by
  obtain ⟨oc, od, dV, kV, doc, pm, an, cdv, ct, osl, e, lk, hcd, hD, _⟩ := F.ex
  rcases hD with ⟨_, rfl⟩ | ⟨h, _⟩
  · exact ⟨⟨oc, od, kV, doc, pm, an, cdv, ct, osl, e, lk, hcd⟩, F.kp⟩
  · exact absurd rfl h
end FD

set_option Elab.async false
set_option maxRecDepth 100000
set_option linter.all false
set_option maxHeartbeats 4000000
/-! FdT: a tuple so many times; a tuple from behind. -/
namespace FD
open PySem PySem.Spec L2

/-- 0 times or less: a new empty tuple -/
theorem tuple_mul0 (l : Addr) (items : Array Value) (n : Nat) (dd : Option Addr) (sl : Array (Option Value)) (x : Int) (u : Tok) (c0 : (decide (x < -(2 ^ 63)) || decide (x ≥ 2 ^ 63)) = false) (c1 : (items.isEmpty || x == 1) = false) (c2 : (decide (x ≤ 0) || items.isEmpty) = true) :
    Meets (Builtin.«tuple.__mul__» ⟨[.ref l, .int x u], []⟩) (fun _ R s => s.heap.get? l = some { cls := .type "tuple", dict := dd, data := .seq items n, slots := sl } ∧
      R (.ok (.ret (Value.ref s.heap.objs.size))) { s with heap := s.heap.push { cls := Value.type "tuple", data := Data.seq #[] }, toks := s.toks }) :=
  .of_wp fun prog w A R s h => by
    obtain ⟨hp, g, d, tk, os⟩ := s
    obtain ⟨hl, h⟩ := h
    have f1 := AutoSeq1.idx_int
    wp_walk using wpAny_loadPart' hl
    repeat (first
      | (refine wpAny_ite_false (decide_eq_false (by rw [c0]; exact Bool.false_ne_true)) ?_; wp_walk using wpAny_loadPart' hl)
      | (refine wpAny_ite_false (decide_eq_false (by rw [c1]; exact Bool.false_ne_true)) ?_; wp_walk using wpAny_loadPart' hl)
      | (refine wpAny_ite_true (decide_eq_true c2) ?_; wp_walk using wpAny_loadPart' hl))
    exact ⟨_, rfl, h⟩
/-- once: the tuple itself -/
theorem tuple_mul1 (l : Addr) (items : Array Value) (n : Nat) (dd : Option Addr) (sl : Array (Option Value)) (x : Int) (u : Tok) (c0 : (decide (x < -(2 ^ 63)) || decide (x ≥ 2 ^ 63)) = false) (c1 : (items.isEmpty || x == 1) = true) :
    Meets (Builtin.«tuple.__mul__» ⟨[.ref l, .int x u], []⟩) (fun _ R s => s.heap.get? l = some { cls := .type "tuple", dict := dd, data := .seq items n, slots := sl } ∧
      R (.ok (.ret (Value.ref l))) s) :=
  .of_wp fun prog w A R s h => by
    obtain ⟨hp, g, d, tk, os⟩ := s
    obtain ⟨hl, h⟩ := h
    have f1 := AutoSeq1.idx_int
    wp_walk using wpAny_loadPart' hl
    repeat (first
      | (refine wpAny_ite_false (decide_eq_false (by rw [c0]; exact Bool.false_ne_true)) ?_; wp_walk using wpAny_loadPart' hl)
      | (refine wpAny_ite_true (decide_eq_true c1) ?_; wp_walk using wpAny_loadPart' hl))
    exact ⟨_, rfl, h⟩
def rRepA (K : PySem.W.Frag) : R2 := fun x y H Q => ∃ l k xs, x = .ref l ∧ y = .int k ∧ SqT K H l xs ∧ -1000 ≤ k ∧ k ≤ 1000 ∧ xs.length ≤ 1000 ∧
  (((xs = [] ∨ k = 1) ∧ Q (.ref l) H) ∨ (k ≤ 0 ∧ xs ≠ [] ∧ ∀ p, H p = none → Q (.ref p) (upd H p (.tup []))) ∨ (2 ≤ k ∧ xs ≠ [] ∧ ∀ p, H p = none → Q (.ref p) (upd H p (.tup (List.replicate k.toNat xs).flatten))))
section
variable {G : Gx} {X : Cx} {pos : Pos}
theorem op_repA : OpR X (binaryOp .Mult) (rRepA X.K) := by
  intro pins s σ H x y v u Q I rx ry h
  obtain ⟨l, k, xs, rfl, rfl, hT, h1, h2, hz, q⟩ := h
  rcases q with ⟨q0, q⟩ | ⟨k0, hne, q⟩ | ⟨k2, hne, q⟩
  · cases rx
    obtain ⟨t, rfl⟩ := ry
    obtain ⟨its, r, ⟨⟨cls, dd, data, sl⟩, ho, hc, n, hd⟩, hs⟩ := I.tuple hT
    simp only at hc hd
    subst hc hd
    have hle : its.length = xs.length := r.length.symm
    have c0 : (decide (k < -(2 ^ 63)) || decide (k ≥ 2 ^ 63)) = false := by
      rw [decide_eq_false (by omega), decide_eq_false (by omega)] <;> rfl
    have c1 : (its.toArray.isEmpty || k == 1) = true := by
      rcases q0 with e | e
      · subst e
        have : its = [] := List.eq_nil_of_length_eq_zero hle
        subst this
        rfl
      · subst e; simp
    refine wpAny_binaryOp_repeat_ref (T := "tuple") (U := "int") (by decide) ⟨_, ho, rfl⟩ (fun s' => typeIs_int s' k t) noFill_tuple_mul F.fills_int_mul F.slot_int_rmul repeat_tuple F.slot_int_index.lookup
      (call_meets F.slot_int_rmul (typeIs_int s k t) F.entry_int_rmul (F.args_int_rmul_2 _ _) (int_rmul_tuple k t l its.toArray n dd sl)
        ⟨ho, rfl, ⟨_, ho, rfl⟩, call_meets F.slot_tuple_mul ⟨_, ho, rfl⟩ F.entry_tuple_mul (F.args_tuple_mul_2 _ _) (tuple_mul1 l its.toArray n dd sl k t c0 c1) ⟨ho, ?_⟩⟩)
    exact ⟨.ref l, H, I, rfl, q⟩
  · cases rx
    obtain ⟨t, rfl⟩ := ry
    obtain ⟨its, r, ⟨⟨cls, dd, data, sl⟩, ho, hc, n, hd⟩, hs⟩ := I.tuple hT
    simp only at hc hd
    subst hc hd
    have hle : its.length = xs.length := r.length.symm
    have c0 : (decide (k < -(2 ^ 63)) || decide (k ≥ 2 ^ 63)) = false := by
      rw [decide_eq_false (by omega), decide_eq_false (by omega)] <;> rfl
    have hi : its.toArray.isEmpty = false := by
      cases its with
      | nil => exact absurd (List.eq_nil_of_length_eq_zero hle.symm) hne
      | cons a b => rfl
    have c1 : (its.toArray.isEmpty || k == 1) = false := by
      rw [hi, Bool.false_or]
      exact beq_eq_false_iff_ne.mpr (by omega)
    have c2 : (decide (k ≤ 0) || its.toArray.isEmpty) = true := by rw [decide_eq_true k0]; rfl
    refine wpAny_binaryOp_repeat_ref (T := "tuple") (U := "int") (by decide) ⟨_, ho, rfl⟩ (fun s' => typeIs_int s' k t) noFill_tuple_mul F.fills_int_mul F.slot_int_rmul repeat_tuple F.slot_int_index.lookup
      (call_meets F.slot_int_rmul (typeIs_int s k t) F.entry_int_rmul (F.args_int_rmul_2 _ _) (int_rmul_tuple k t l its.toArray n dd sl)
        ⟨ho, rfl, ⟨_, ho, rfl⟩, call_meets F.slot_tuple_mul ⟨_, ho, rfl⟩ F.entry_tuple_mul (F.args_tuple_mul_2 _ _) (tuple_mul0 l its.toArray n dd sl k t c0 c1 c2) ⟨ho, ?_⟩⟩)
    refine ⟨.ref s.heap.objs.size, _, I.laid (t' := s.toks) (o := .tup []) (fun b ob q => Heap.get?_push_of_some _ q) (Nat.le_refl _) ?_, rfl, q _ (I.hok.fresh (Nat.le_refl _))⟩
    exact ⟨Nat.zero_le _, [], .nil, PyProof.Rows.IsTup.new _ _⟩
  · exact op_repT pins s σ H (.ref l) (.int k) v u Q I rx ry ⟨l, k, xs, rfl, rfl, hT, hne, k2, h2, hz, q⟩
def gRepT : D → D → R D
  | .tup l, .int k => fun ph => if -1000 ≤ k ∧ k ≤ 1000 ∧ l.length ≤ 1000 then some (.tup (List.replicate k.toNat l).flatten, ph) else none
  | _, _ => fun _ => none
theorem reps_rep {H : Hp} {M : Mu} {ρ : Rho} {l : List D} {vs : List V} (r : Reps G H M ρ l vs) : ∀ n : Nat, Reps G H M ρ (List.replicate n l).flatten (List.replicate n vs).flatten
  | 0 => .nil
  | n + 1 => by rw [List.replicate_succ, List.replicate_succ, List.flatten_cons, List.flatten_cons]; exact r.append (reps_rep r n)
theorem s_repT : OpS G (rRepA G.K) gRepT := by
  intro H M ρ ph x y v u d ph1 Q R rx ry e k
  cases rx <;> cases ry <;> try exact nomatch (show (none : Option (D × PH)) = some _ from e)
  rename_i l vs a h n r i
  have e : (if -1000 ≤ i ∧ i ≤ 1000 ∧ l.length ≤ 1000 then some (D.tup (List.replicate i.toNat l).flatten, ph) else none) = some (d, ph1) := e
  split at e
  · rename_i c
    cases e
    refine ⟨a, i, vs, rfl, rfl, .of h, c.1, c.2.1, by rw [← r.length]; exact c.2.2, ?_⟩
    by_cases h0 : l = []
    · subst h0
      cases r
      refine .inl ⟨.inl rfl, k _ H M ρ (.refl ..) R ?_⟩
      have : (List.replicate i.toNat ([] : List D)).flatten = [] := by simp
      rw [this]
      exact .tup h n .nil
    · have hv : vs ≠ [] := fun z => by subst z; cases r; exact h0 rfl
      by_cases h1 : i = 1
      · subst h1
        refine .inl ⟨.inr rfl, k _ H M ρ (.refl ..) R ?_⟩
        have : (List.replicate (1 : Int).toNat l).flatten = l := by simp
        rw [this]
        exact .tup h n r
      · by_cases h2 : i ≤ 0
        · refine .inr (.inl ⟨h2, hv, fun p hp => ?_⟩)
          have e0 : i.toNat = 0 := by omega
          have E := Ext.laid (M := M) (ρ := ρ) (o := .tup []) hp
          refine k _ _ _ _ E (R.laid hp) ?_
          rw [e0]
          exact .tup upd_same (R.noM hp) .nil
        · refine .inr (.inr ⟨by omega, hv, fun p hp => ?_⟩)
          have E := Ext.laid (M := M) (ρ := ρ) (o := .tup (List.replicate i.toNat vs).flatten) hp
          exact k _ _ _ _ E (R.laid hp) (.tup upd_same (R.noM hp) ((reps_rep r _).ext E R.sub))
  · cases e
theorem de_repT (hK : X.K = G.K) {a b : Expr} {fa fb : FE} (ha : DE G X a fa) (hb : DE G X b fb) : DE G X (.BinOp a .Mult b pos) (fBin gRepT fa fb) := de_op (hK ▸ op_repA) s_repT ha hb
end
end FD

set_option Elab.async false
set_option maxRecDepth 100000
set_option linter.all false
set_option maxHeartbeats 4000000
/-! FdI: enumerate of a list or a tuple, from any number; zip. -/
namespace FD
open PySem PySem.Spec L2

/-- a list (false) or a tuple (true) in sight -/
def SqA (K : PySem.W.Frag) (b : Bool) (H : Hp) (a : Addr) (xs : List V) : Prop := match b with | true => SqT K H a xs | false => SqL K H a xs
def ItA (b : Bool) (h : Heap) (it a : Addr) (i : Nat) : Prop := match b with | true => h.IsTupleIter it a i | false => h.IsListIter it a i
def IsA (b : Bool) (h : Heap) (a : Addr) (items : Array Value) : Prop := match b with | true => h.IsTuple a items | false => h.IsList a items
def obA (b : Bool) (a : Addr) : Obj := match b with | true => { cls := .type "tuple_iterator", data := .fields #[.ref a, .int 0 0] } | false => { cls := .type "list_iterator", data := .fields #[.ref a, .int 0 0] }
theorem drawsA {prog : Program} {w : World} {A : Around} (b : Bool) (hh : A.handled = none) (it t : Addr) (hne : t ≠ it) (items : Array Value) :
    Draws prog w A it [it, t] items.size (fun i v => items[i]? = some v) (fun i h => ItA b h it t i ∧ IsA b h t items) := by
  cases b
  · exact Draws.list hh it t hne items
  · exact Draws.tuple hh it t hne items
theorem beginsA (b : Bool) (t : Addr) (items : Array Value) : Begins (.ref t) (obA b t) fun h => IsA b h t items := by
  cases b
  · exact begins_list t items
  · exact begins_tuple t items
theorem ItA.obj {b : Bool} {h : Heap} {it a : Addr} {i : Nat} (q : ItA b h it a i) : ∃ o, h.get? it = some o ∧ ∀ v, o.data ≠ .cell v := by
  cases b <;> (obtain ⟨o, e, c, d⟩ := q; exact ⟨o, e, fun v z => by rw [d] at z; cases z⟩)
theorem ItA.at {b : Bool} {h h' : Heap} {it a : Addr} {i : Nat} (q : ItA b h it a i) (k : ∀ o, h.get? it = some o → h'.get? it = some o) : ItA b h' it a i := by
  cases b <;> (obtain ⟨o, e, c, d⟩ := q; exact ⟨o, k o e, c, d⟩)
theorem ItA.new {b : Bool} {h : Heap} {it a : Addr} (q : h.get? it = some (obA b a)) : ItA b h it a 0 := by
  cases b <;> exact ⟨_, q, rfl, rfl⟩
theorem _root_.L2.Inv.seqA {X : Cx} {pins : List (Addr × Obj)} {σ : St} {H : Hp} {s : Shared} (I : Inv X pins σ H s) {b : Bool} {a : Addr} {xs : List V} (h : SqA X.K b H a xs) : ∃ its : List Value, Vals xs its ∧ IsA b s.heap a its.toArray := by
  cases b
  · obtain ⟨its, r, p, _⟩ := I.list h
    exact ⟨its, r, p.isList⟩
  · obtain ⟨its, r, p, _⟩ := I.tuple h
    exact ⟨its, r, p⟩
theorem _root_.L2.Inv.seqA_inj {X : Cx} {pins : List (Addr × Obj)} {σ : St} {H : Hp} {s : Shared} (I : Inv X pins σ H s) {b : Bool} {a : Addr} {xs ys : List V} (h : SqA X.K b H a xs) (g : SqA X.K b H a ys) : xs = ys := by
  cases b
  · exact I.list_inj h g
  · exact I.tuple_inj h g

/-- the pairs of enumerate -/
def IteA (K : PySem.W.Frag) (b : Bool) (a : Addr) (k0 : Int) (n : Nat) : It :=
  ⟨fun i H => i < n ∧ ∃ (xs : List V) (x : V), SqA K b H a xs ∧ xs[i]? = some x, fun i H v H' => ∃ T x, v = .ref T ∧ H T = none ∧ H' = upd H T (.tup [.int (k0 + (i : Int)), x]) ∧ ∀ xs, SqA K b H a xs → xs[i]? = some x, fun i H => n ≤ i ∧ ∃ xs : List V, SqA K b H a xs ∧ xs.length = n⟩
theorem turn_enumA {P : Program} {w : World} {K : PySem.W.Frag} {elts : List Expr} {kk : Nat} {tpos : Pos} (b : Bool) (a e it : Addr) (k0 : Int) (n : Nat) :
    Turn P w K (.Tuple elts kk tpos) (IteA K b a k0 n) [e, it] e (fun i h => i ≤ n ∧ (∃ old, IsEnum h e it (k0 + (i : Int)) old) ∧ ItA b h it a i ∧ e ≠ it ∧ e ≠ a ∧ a ≠ it) where
  mem := by simp
  obj := fun i h st c hc => by
    obtain ⟨_, ⟨old, he⟩, hi, _⟩ := st
    have e' : c = e ∨ c = it := by simpa using hc
    rcases e' with z | z
    · rw [z]; exact ⟨_, he, fun v q => nomatch q⟩
    · rw [z]; exact hi.obj
  keep := fun i h h' st k => let ⟨hin, ⟨old, he⟩, hi, hne⟩ := st; ⟨hin, ⟨old, k e (by simp) _ he⟩, hi.at fun o q => k it (by simp) o q, hne⟩
  item := by
    intro X hP hw hK hc i pins s σ H E I hf st hg
    subst hP hw hK
    obtain ⟨hin, he, hit, hne, hea, hia⟩ := st
    obtain ⟨hlt0, xs, x, hq, hx⟩ := hg
    obtain ⟨its, rv, p⟩ := I.seqA hq
    obtain ⟨u, hu, ru⟩ := rv.get hx
    have hel : e < s.heap.objs.size := let ⟨_, q⟩ := he; Heap.lt_size q
    have hil : it < s.heap.objs.size := by obtain ⟨_, q, _⟩ := hit.obj; exact Heap.lt_size q
    have hlt : i < its.toArray.size := by
      rw [List.size_toArray]
      exact (List.getElem?_eq_some_iff.mp hu).1
    have D := drawsA (prog := X.prog) (w := X.w) (A := X.A.in1) b (I.ok.hd hc) it a hia its.toArray
    have W := GoesN.enumFrom (elts := elts) (x1 := kk) (pos := tpos) k0 D e hne (by simp [hne, hea]) (by simp)
    refine wpAny_mono (W.goes i s (fun v s2 => ∃ x H', Inv X pins σ H' s2 ∧ RelV x v ∧ (IteA X.K b a k0 n).yld i H x H' ∧ (i + 1 ≤ n ∧ (∃ old, IsEnum s2.heap e it (k0 + ((i + 1 : Nat) : Int)) old) ∧ ItA b s2.heap it a (i + 1) ∧ e ≠ it ∧ e ≠ a ∧ a ≠ it) ∧ ∀ b ∈ [e, it], H' b = none) E hlt ⟨he, hit, p⟩ fun v h' tk hY st' hk htk => ?_) (fun r s1 h1 => h1) fun _ _ q => q
    obtain ⟨T, t, x', rfl, hT, hx', hTu⟩ := hY
    have hxu : x' = u := by
      have e1 : its.toArray[i]? = some u := by simpa using hu
      rw [hx'] at e1
      exact Option.some.inj e1
    subst hxu
    have new : ObjOk X.prog X.w (upd H T (.tup [.int (k0 + (i : Int)), x])) h' T (.tup [.int (k0 + (i : Int)), x]) :=
      ⟨by show 2 ≤ sizeLine; decide, [.int (k0 + (i : Int)) t, x'], .cons ⟨_, rfl⟩ (.cons ru .nil), hTu⟩
    have I1 : Inv X pins σ (upd H T (.tup [.int (k0 + (i : Int)), x])) { s with heap := h', toks := tk } :=
      I.turnedNew (ch := [e, it]) hk hf hT new
    refine ⟨.ref T, _, I1, rfl, ⟨_, x, rfl, I.hok.fresh hT, rfl, fun ys hy => by rw [I.seqA_inj hy hq]; exact hx⟩, ⟨hlt0, st'.1, st'.2.1, hne, hea, hia⟩, fun c hc => ?_⟩
    have hc' : c < s.heap.objs.size := by
      have e' : c = e ∨ c = it := by simpa using hc
      rcases e' with z | z
      · rw [z]; exact hel
      · rw [z]; exact hil
    rw [upd_ne (Nat.ne_of_lt (Nat.lt_of_lt_of_le hc' hT))]
    exact (hf c hc).1
  done := by
    intro X hP hw hK hc i pins s σ H E I hf st hg
    subst hP hw hK
    obtain ⟨hin, he, hit, hne, hea, hia⟩ := st
    obtain ⟨hge, xs, hq, hx⟩ := hg
    obtain ⟨its, rv, p⟩ := I.seqA hq
    have hl := rv.length
    obtain ⟨f0, f1, f2, f3, f4, f5⟩ := hf it (by simp)
    have D := drawsA (prog := X.prog) (w := X.w) (A := X.A.in1) b (I.ok.hd hc) it a hia its.toArray
    obtain ⟨old, he⟩ := he
    refine wpAny_pyNext_enum_endD D he ⟨?_, p⟩ fun h' eb => ⟨rfl, I.turned (t' := s.toks) (fun b o hb q => eb b o hb q) f0 f1 f3 f4 f5⟩
    have e1 : its.toArray.size = i := by rw [List.size_toArray]; omega
    rw [e1]
    exact hit
  self := fun A i s Q E st h => let ⟨_, ⟨_, he⟩, _⟩ := st; wpAny_pyIter_enum he h

def enumD (k : Int) : List D → List D
  | [] => []
  | d :: r => .tup [.int k, d] :: enumD (k + 1) r
theorem enumD_length : ∀ (ds : List D) (k : Int), (enumD k ds).length = ds.length
  | [], _ => rfl
  | _ :: r, k => by show (enumD (k + 1) r).length + 1 = _; rw [enumD_length r]; rfl
theorem enumD_get : ∀ (ds : List D) (k : Int) (i : Nat), (enumD k ds)[i]? = ds[i]?.map fun d => .tup [.int (k + (i : Int)), d]
  | [], _, _ => by simp [enumD]
  | d :: r, k, 0 => by simp [enumD]
  | d :: r, k, i + 1 => by
    show (enumD (k + 1) r)[i]? = _
    rw [enumD_get r (k + 1) i, List.getElem?_cons_succ]
    congr 1
    funext d
    congr 3
    have : k + 1 + (i : Int) = k + ((i + 1 : Nat) : Int) := by omega
    rw [this]
theorem walks_enum {G : Gx} {K : PySem.W.Frag} {b : Bool} {k0 : Int} {H0 : Hp} {M0 : Mu} {ρ0 : Rho} {ds : List D} {a : Addr}
    (h : ∀ H M ρ ph, Ext H0 M0 ρ0 H M ρ → RelH G H M ρ ph → ∃ vs, SqA K b H a vs ∧ Reps G H M ρ ds vs) : Walks G (IteA K b a k0 ds.length) H0 M0 ρ0 none (enumD k0 ds) := by
  intro H M ρ ph E R st i
  obtain ⟨vs, hv, r⟩ := h H M ρ ph E R
  refine ⟨fun d e => ?_, fun hi => ⟨by rw [enumD_length] at hi; exact hi, vs, hv, r.length.symm⟩⟩
  rw [enumD_get] at e
  cases q : ds[i]? with
  | none => rw [q] at e; cases e
  | some d1 =>
    rw [q] at e
    cases e
    obtain ⟨v, e1, r1⟩ := r.get q
    refine ⟨⟨(List.getElem?_eq_some_iff.mp q).1, vs, v, hv, e1⟩, fun x H' ⟨T, x', e2, hT, e3, y⟩ => ?_⟩
    subst e2 e3
    have := y vs hv
    rw [e1] at this
    cases this
    have E := Ext.laid (M := M) (ρ := ρ) (o := .tup [.int (k0 + (i : Int)), v]) hT
    exact ⟨M, E, R.laid hT, .tup upd_same (R.noM hT) (.cons (.int _) (.cons (r1.ext E R.sub) .nil))⟩
/-- a list or tuple that is no changeable one -/
def fixed (x : List D × Option Nat) : Option (List D) := match x.2 with | none => some x.1 | some _ => none
theorem keepA {G : Gx} {H0 : Hp} {M0 : Mu} {ρ0 : Rho} {ph0 ph1 : PH} {d : D} {v : V} {x : List D × Option Nat} {ds : List D} (R0 : RelH G H0 M0 ρ0 ph0) (r : Rep G H0 M0 ρ0 d v) (e : itemsOf d ph0 = some (x, ph1)) (f : fixed x = some ds) :
    ph1 = ph0 ∧ ∃ b a, v = .ref a ∧ ∀ H M ρ ph, Ext H0 M0 ρ0 H M ρ → RelH G H M ρ ph → ∃ vs, SqA G.K b H a vs ∧ Reps G H M ρ ds vs := by
  obtain ⟨l, gd⟩ := x
  cases gd with
  | some _ => cases f
  | none =>
    cases f
    obtain ⟨e1, a, e2, c, _⟩ := keepL R0 r e
    refine ⟨e1, ?_⟩
    rcases c with c | c
    · exact ⟨false, a, e2, fun H M ρ ph E R => c H M ρ ph E R fun _ h => nomatch h⟩
    · exact ⟨true, a, e2, fun H M ρ ph E R => c H M ρ ph E R fun _ h => nomatch h⟩
def stOk (k : Int) : Prop := -(2 ^ 62) ≤ k ∧ k < 2 ^ 62
instance (k : Int) : Decidable (stOk k) := inferInstanceAs (Decidable (_ ∧ _))
/-- enumerate(x, start=k) -/
def enumI (d k : D) : R (List D × Option Nat) := bnd (itemsOf d) fun x => lift (match fixed x, k with
  | some ds, .int i => if stOk i then some (enumD i ds, none) else none
  | _, _ => none)
def iEnumS (fe fk : FE) : FI := fun σ => bnd (fe σ) fun d => bnd (fk σ) fun k => enumI d k
def iEnumD (fe : FE) : FI := fun σ => bnd (fe σ) fun d => enumI d (.int 0)
theorem enumI_some {d k : D} {ph ph1 : PH} {r : List D × Option Nat} (h : enumI d k ph = some (r, ph1)) : ∃ x ds i ph2, itemsOf d ph = some (x, ph2) ∧ fixed x = some ds ∧ k = .int i ∧ stOk i ∧ r = (enumD i ds, none) ∧ ph2 = ph1 := by
  obtain ⟨x, ph2, e1, e2⟩ := bnd_some h
  obtain ⟨e3, e4⟩ := lift_some e2
  cases q : fixed x with
  | none => rw [q] at e3; cases k <;> cases e3
  | some ds =>
    rw [q] at e3
    cases k <;> try cases e3
    rename_i i
    have e3 : (if stOk i then some (enumD i ds, none) else none) = some r := e3
    split at e3
    · rename_i c
      cases e3
      exact ⟨x, ds, i, ph2, e1, q, rfl, c, rfl, e4⟩
    · cases e3
section
variable {M : Model} {A : Around} {E : Value → Shared → Prop} {s : Shared} {env : Env}
theorem callWith_typeKw {pos : Pos} {T : String} {e : Expr} {rest : List Expr} {kws : List Keyword} {Q : Value → Shared → Prop}
    (h : wpAny M A (spliced (backTo pos (starEach (e :: rest) env))) (fun vs s₁ => wpAny M A (evalAll ((backToKw pos (keywordEach kws env)).map (·.2)))
      (fun kvs s₂ => wpAny M A (call (.type T) vs (((backToKw pos (keywordEach kws env)).filterMap (·.1)).zip kvs)) Q E s₂) E s₁) E s)
    (he : backTo pos (starEach (e :: rest) env) = (false, eval e env) :: backTo pos (starEach rest env) := by rfl)
    (hplain : (backTo pos (starEach (e :: rest) env)).any (·.1) = false := by rfl)
    (hall : (backToKw pos (keywordEach kws env)).all (·.1.isSome) = true := by rfl)
    (hkw : (backToKw pos (keywordEach kws env)).any (·.1.isNone) = false := by rfl) :
    wpAny M A (callWith pos (.type T) [] (backTo pos (starEach (e :: rest) env)) (backToKw pos (keywordEach kws env))) Q E s := by
  have h2 : wpAny M A (evalArgs (.type T) true (backTo pos (starEach (e :: rest) env)) (backToKw pos (keywordEach kws env))) (fun a s₁ => wpAny M A (call (.type T) ([] ++ a.pos) a.kw) Q E s₁) E s := by
    rw [he] at h ⊢
    exact PyProof.Rows.evalArgs_kwB hall h
  unfold callWith
  refine wpAny_bind (wpAny_holding (wpAny_mono h2 (fun a s₁ h₁ => wpAny_bind (wpAny_standAt ?_)) fun _ _ x => x))
  simp only [hplain, hkw, Bool.or_false]
  refine wpAny_bind (wpAny_pure ?_)
  exact wpAny_bind (wpAny_mono h₁ (fun r s₂ hr => wpAny_bind (wpAny_holding (wpAny_point (wpAny_pure hr)))) fun _ _ x => x)
end
section
variable {G : Gx} {X : Cx} {pos : Pos}
/-- where the enumeration has begun -/
theorem enum_start (hK : X.K = G.K) {elts : List Expr} {kk : Nat} {tpos : Pos} {pins : List (Addr × Obj)} {σ : St} {H : Hp} {M : Mu} {ρ : Rho} {ph : PH} {s : Shared} {a : Addr} {b : Bool} {ds : List D} {i : Int} {h' : Heap} {R : It → Hp → Prop}
    (I : Inv X pins σ H s) (Rh : RelH G H M ρ ph) (c : ∀ H1 M1 ρ1 ph, Ext H M ρ H1 M1 ρ1 → RelH G H1 M1 ρ1 ph → ∃ vs, SqA G.K b H1 a vs ∧ Reps G H1 M1 ρ1 ds vs) (hla : a < s.heap.objs.size)
    (he : IsEnum h' (s.heap.objs.size + 1) s.heap.objs.size i .none) (hit : h'.get? s.heap.objs.size = some (obA b a)) (hk : ∀ b o, s.heap.get? b = some o → h'.get? b = some o)
    (q : ∀ J, Walks G J H M ρ none (enumD i ds) → R J H) : wpAny (model X.prog X.w) X.A (pyIter (.ref (s.heap.objs.size + 1))) (PIE X pins σ (.Tuple elts kk tpos) R) X.xe { s with heap := h' } := by
  refine wpAny_pyIter_enum he ?_
  have I2 : Inv X pins σ H { s with heap := h' } := I.kept (t' := s.toks) hk
  have hne1 : (s.heap.objs.size + 1 : Nat) ≠ a := Nat.ne_of_gt (Nat.lt_succ_of_lt hla)
  have hne2 : a ≠ s.heap.objs.size := Nat.ne_of_lt hla
  refine ⟨s.heap.objs.size + 1, [s.heap.objs.size + 1, s.heap.objs.size], _, _, H, rfl, I2, turn_enumA b a (s.heap.objs.size + 1) s.heap.objs.size i ds.length, ⟨Nat.zero_le _, ⟨.none, ?_⟩, .new hit, Nat.succ_ne_self _, hne1, hne2⟩, fun c hc => ?_, hK ▸ q _ (walks_enum c)⟩
  · have e1 : i + ((0 : Nat) : Int) = i := by omega
    rw [e1]; exact he
  · have e' : c = s.heap.objs.size + 1 ∨ c = s.heap.objs.size := by simpa using hc
    have hle : s.heap.objs.size ≤ c := by
      rcases e' with z | z
      · rw [z]; exact Nat.le_add_right _ _
      · rw [z]; exact Nat.le_refl _
    exact I.fpOk hle (I.hok.fresh hle)
theorem IsA.lt {b : Bool} {h : Heap} {a : Addr} {its : Array Value} (p : IsA b h a its) : a < h.objs.size := by
  cases b <;> (obtain ⟨o, e, _⟩ := p; exact Heap.lt_size e)
theorem di_enumS (hK : X.K = G.K) {elts : List Expr} {kk : Nat} {tpos p kpos : Pos} {e e2 : Expr} {fe fk : FE} (hm : X.mg "enumerate" = none) (h : DE G X e fe) (h2 : DE G X e2 fk) (hg : Gl X "enumerate" := by rfl)
    (hs0 : starEach [e] X.env = (false, eval e X.env) :: starEach [] X.env := by rfl) (hs : backTo pos (starEach [e] X.env) = (false, eval e X.env) :: backTo pos (starEach [] X.env) := by rfl) (hpl : (backTo pos (starEach [e] X.env)).any (·.1) = false := by rfl)
    (hkw : (backToKw pos (keywordEach [⟨some "start", e2, kpos⟩] X.env)).filterMap (·.1) = [Str.ofString "start"] := by rfl) (hall : (backToKw pos (keywordEach [⟨some "start", e2, kpos⟩] X.env)).all (·.1.isSome) = true := by rfl)
    (hnn : (backToKw pos (keywordEach [⟨some "start", e2, kpos⟩] X.env)).any (·.1.isNone) = false := by rfl) :
    DI G X (.Tuple elts kk tpos) (.Call (.Name "enumerate" p) [e] [⟨some "start", e2, kpos⟩] pos) (iEnumS fe fk) := by
  refine ⟨⟨fun pins s σ H R I ⟨t, M, ρ, ph, ds0, gd, ph1, P, e1, k⟩ => ?_⟩⟩
  obtain ⟨d, ph2, q2, e3⟩ := bnd_some e1
  obtain ⟨n, ph3, e4, e5⟩ := bnd_some e3
  obtain ⟨x, ds, i, ph4, e6, e7, rfl, e8, e9, e10⟩ := enumI_some e5
  subst e10
  cases e9
  refine wpAny_Call_Name_kw (ld_blt I hg hm PyProof.Rows.boot_enumerate (callWith_typeKw ?_ hs hpl hall hnn))
  refine thn ((da_cons h da_nil hs0).pa.run pos pins s σ H (fun vs H1 => TAof G (fCons fk fNil) σ H1 fun zs H2 => ∃ M2 ρ2 v, Ext H M ρ H2 M2 ρ2 ∧ RelH G H2 M2 ρ2 ph3 ∧ vs = [v] ∧ zs = [V.int i] ∧ Rep G H2 M2 ρ2 d v) I ⟨t, M, ρ, ph, [d], ph2, P, bnd_mk q2 rfl, fun vs H1 M1 ρ1 E1 R1 r1 => ?_⟩) fun us s1 ⟨vs, H1, I1, r, q1⟩ => ?_
  · refine ⟨t, M1, ρ1, ph2, [.int i], ph3, P.go E1 R1, bnd_mk e4 rfl, fun zs H2 M2 ρ2 E2 R2 r2 => ?_⟩
    cases r1 with
    | cons r1 rr =>
      cases rr
      cases r2 with
      | cons r2 rr =>
        cases rr
        cases r2
        exact ⟨M2, ρ2, _, E1.trans E2, R2, rfl, rfl, r1.ext E2 R1.sub⟩
  · refine thn ((dk_cons h2 dk_nil).pk.run pos pins s1 σ H1 _ I1 q1) fun ws s2 ⟨zs, H2, I2, rz, M2, ρ2, v, E2, R2, ev, ez, r2⟩ => ?_
    subst ev ez
    rw [hkw]
    obtain ⟨rfl, b, a, rfl, c⟩ := keepA R2 r2 e6 e7
    cases r with
    | cons r rr =>
      cases rr
      cases r
      cases rz with
      | cons rz rr =>
        cases rr
        obtain ⟨tk, rfl⟩ := rz
        obtain ⟨vs, hv, _⟩ := c H2 M2 ρ2 _ (.refl ..) R2
        obtain ⟨its, _, p⟩ := I2.seqA (hK ▸ hv)
        refine enum_begins_start (beginsA b a its.toArray) p (by have := e8.1; omega) (by have := e8.2; omega) fun h' he hit hsz hk => ?_
        exact enum_start hK I2 R2 c p.lt he hit hk fun J w => k J H2 M2 ρ2 E2 R2 w
set_option maxHeartbeats 1000000 in
theorem meets_enum1 {v : Value} {o : Obj} {H : Heap → Prop} (B : Begins v o H) :
    Meets (Builtin.«enumerate.__new__» ⟨[.type "enumerate", v], []⟩) (fun _ R s => H s.heap ∧
      R (.ok (.ret (.ref (s.heap.push o).objs.size))) { s with heap := (s.heap.push o).push { cls := .type "enumerate", data := .fields #[.none, .bool false, .ref s.heap.objs.size, rawInt 0, .none, .none] } }) :=
  .of_wp fun prog w A R s h => by
    obtain ⟨hp, g, d, tk, os⟩ := s; obtain ⟨h1, h⟩ := h
    have hsub := sub_enumerate
    have q1 : ∀ {A' : Around} {E : Value → Shared → Prop} {Q : Value → Shared → Prop}, Q (.ref hp.objs.size) ⟨hp.push o, g, d, tk, os⟩ → wpAny (model prog w) A' (pyIter v) Q E ⟨hp, g, d, tk, os⟩ :=
      fun q => B.iter prog w _ _ ⟨hp, g, d, tk, os⟩ _ h1 q
    wp_walk using q1
    refine wpAny_stack_any fun st => wpAny_pure ?_
    split
    · rename_i c _ _ _ _ _
      cases (c == Value.type "enumerate")
      · wp_walk using q1
        exact ⟨_, rfl, h⟩
      · wp_walk using q1
        exact ⟨_, rfl, h⟩
    · wp_walk using q1
      exact ⟨_, rfl, h⟩
theorem enum_begins1 {prog : Program} {w : World} {A : Around} {E : Value → Shared → Prop} {s : Shared} {v : Value} {o : Obj} {H : Heap → Prop} {Q : Value → Shared → Prop} (B : Begins v o H) (h1 : H s.heap)
    (h : ∀ h', IsEnum h' (s.heap.objs.size + 1) s.heap.objs.size 0 .none → h'.get? s.heap.objs.size = some o → h'.objs.size = s.heap.objs.size + 2 →
      (∀ b o, s.heap.get? b = some o → h'.get? b = some o) → Q (.ref (s.heap.objs.size + 1)) { s with heap := h' }) :
    wpAny (model prog w) A (call (.type "enumerate") [v]) Q E s := by
  refine callType_new F.called_enumerate (by decide) (F.typeCall_enumerate_1 _) (F.newCall_enumerate_1 _) (fun obj => F.args_object_init_2 obj _) F.entry_enumerate_new
    (meets_enum1 B) ⟨h1, ?_⟩
  have hz : (s.heap.push o).objs.size = s.heap.objs.size + 1 := Heap.size_push ..
  show _ ∧ _
  rw [hz]
  have he : IsEnum ((s.heap.push o).push { cls := .type "enumerate", data := .fields #[.none, .bool false, .ref s.heap.objs.size, rawInt 0, .none, .none] }) (s.heap.objs.size + 1) s.heap.objs.size 0 .none := by
    have := Heap.get?_push_size (s.heap.push o) (o := { cls := .type "enumerate", data := .fields #[.none, .bool false, .ref s.heap.objs.size, rawInt 0, .none, .none] }) rfl
    rw [hz] at this; exact this
  refine ⟨⟨_, he, rfl⟩, h _ he (Heap.get?_push_of_some _ (Heap.get?_push_size _ B.free)) (by rw [Heap.size_push, hz]) fun b o x => Heap.get?_push_of_some _ (Heap.get?_push_of_some _ x)⟩
theorem di_enum (hK : X.K = G.K) {elts : List Expr} {kk : Nat} {tpos p : Pos} {e : Expr} {fe : FE} (hm : X.mg "enumerate" = none) (h : DE G X e fe) (hg : Gl X "enumerate" := by rfl)
    (hs : starEach [e] X.env = (false, eval e X.env) :: starEach [] X.env := by rfl) :
    DI G X (.Tuple elts kk tpos) (.Call (.Name "enumerate" p) [e] [] pos) (iEnumD fe) := by
  refine ⟨⟨fun pins s σ H R I ⟨t, M, ρ, ph, ds0, gd, ph1, P, e1, k⟩ => ?_⟩⟩
  obtain ⟨d, ph2, q2, e5⟩ := bnd_some e1
  obtain ⟨x, ds, i, ph4, e6, e7, ei, e8, e9, e10⟩ := enumI_some e5
  cases ei
  subst e10
  cases e9
  refine PyProof.Rows.Call_ (ld_blt I hg hm PyProof.Rows.boot_enumerate (PyProof.Rows.callWith_type1 (thn ((da_cons h da_nil hs).pa.run pos pins s σ H (fun vs H2 => ∃ M2 ρ2 v, Ext H M ρ H2 M2 ρ2 ∧ RelH G H2 M2 ρ2 ph2 ∧ vs = [v] ∧ Rep G H2 M2 ρ2 d v) I ⟨t, M, ρ, ph, [d], ph2, P, bnd_mk q2 rfl, fun vs H1 M1 ρ1 E1 R1 r1 => ?_⟩) fun us s2 ⟨vs, H2, I2, r, M2, ρ2, v, E2, R2, ev, r2⟩ => ?_) hs rfl))
  · cases r1 with
    | cons r1 rr =>
      cases rr
      exact ⟨M1, ρ1, _, E1, R1, rfl, r1⟩
  · subst ev
    obtain ⟨rfl, b, a, rfl, c⟩ := keepA R2 r2 e6 e7
    cases r with
    | cons r rr =>
      cases rr
      cases r
      obtain ⟨vs, hv, _⟩ := c H2 M2 ρ2 _ (.refl ..) R2
      obtain ⟨its, _, p⟩ := I2.seqA (hK ▸ hv)
      exact enum_begins1 (beginsA b a its.toArray) p fun h' he hit hsz hk => enum_start hK I2 R2 c p.lt he hit hk fun J w => k J H2 M2 ρ2 E2 R2 w
end
end FD

set_option Elab.async false
set_option maxRecDepth 100000
set_option linter.all false
set_option maxHeartbeats 4000000
/-! FdR: t[::-1] of a tuple. -/
namespace FD
open PySem PySem.Spec L2
open PyProof.Rows hiding St
section
variable {prog : Program} {w : World} {A : Around} {E : Value → Shared → Prop} {s : Shared}
theorem adjust_rev (n : Nat) : Builtin.Slice.sliceAdjust none none (-1) (n : Int) = ((n : Int) - 1, -1) := rfl
theorem places_rev (n : Nat) : Builtin.Slice.slicePlaces ((n : Int) - 1) (-1) (-1) = n := by
  unfold Builtin.Slice.slicePlaces
  have h1 : ¬ ((-1 : Int) > 0) := by omega
  simp only [h1, if_false]
  split
  · rw [show (- -1 : Int) = 1 by decide, Int.ediv_one]; omega
  · have : n = 0 := by omega
    subst this; rfl
theorem applied_rev {sl : Addr} {vl vu vs : Value} {n : Nat} {Q : Int × Int × Nat → Shared → Prop} (hs : s.heap.IsSliceOf sl vl vu vs) (pl : IsPart vl none) (pu : IsPart vu none) (ps : IsPart vs (some (-1)))
    (h : Q ((n : Int) - 1, -1, n) s) : wpAny (model prog w) A (Builtin.Slice.sliceApplied (.ref sl) (pure (n : Int))) Q E s := by
  obtain ⟨os, hos, hcs, hds⟩ := id hs
  unfold Builtin.Slice.sliceApplied Builtin.Slice.sliceFields
  refine wpAny_bind (wpAny_bind (wpAny_field hos hds (x := vl) rfl (wpAny_bind (wpAny_field hos hds (x := vu) rfl (wpAny_bind (wpAny_field hos hds (x := vs) rfl (wpAny_pure ?_)))))))
  refine wpAny_bind (HT.slicePart_ ps ?_)
  show wpAny _ _ (if ((-1 : Int) == 0) = true then _ else _) _ _ s
  rw [if_neg (by decide)]
  refine wpAny_bind (HT.slicePart_ pl (wpAny_bind (HT.slicePart_ pu (wpAny_bind (wpAny_pure ?_)))))
  show wpAny _ _ (match Builtin.Slice.sliceAdjust none none (-1) (n : Int) with | (lo, hi) => pure (lo, (-1 : Int), Builtin.Slice.slicePlaces lo hi (-1))) _ _ s
  rw [adjust_rev n]
  show wpAny _ _ (pure ((n : Int) - 1, (-1 : Int), Builtin.Slice.slicePlaces ((n : Int) - 1) (-1) (-1))) _ _ s
  rw [places_rev]
  exact wpAny_pure h
theorem pick_rev (xs : Array Value) : ((List.range xs.size).filterMap fun (k : Nat) => xs[(((xs.size : Nat) : Int) - 1 + (k : Int) * (-1)).toNat]?).toArray = xs.toList.reverse.toArray := by
  have e : (List.range xs.size).filterMap (fun (k : Nat) => xs[(((xs.size : Nat) : Int) - 1 + (k : Int) * (-1)).toNat]?) = ((List.range xs.size).map fun k => xs.size - 1 - k).filterMap (xs[·]?) := by
    rw [List.filterMap_map]
    apply congrFun
    apply congrArg
    funext k
    have e2 : (((xs.size : Nat) : Int) - 1 + (k : Int) * (-1)).toNat = xs.size - 1 - k := by omega
    show xs[_]? = xs[xs.size - 1 - k]?
    rw [e2]
  rw [e, PySem.W.krv_range, List.filterMap_reverse, PySem.W.krv_all]
theorem getItem_tuple_rev {t sl : Addr} {items : Array Value} {vl vu vs : Value} {Q : Value → Shared → Prop} (ht : IsTup s.heap t items) (hs : s.heap.IsSliceOf sl vl vu vs) (pl : IsPart vl none) (pu : IsPart vu none) (ps : IsPart vs (some (-1)))
    (h : Q (.ref s.heap.objs.size) { s with heap := s.heap.push { cls := .type "tuple", data := .seq items.toList.reverse.toArray } })
    (hsz : items.size ≤ sizeLine) : wpAny (model prog w) A (getItem (.ref t) (.ref sl)) Q E s := by
  have htake : sizeOk (.seq items.toList.reverse.toArray) := by
    show items.toList.reverse.toArray.size ≤ sizeLine
    rw [List.size_toArray, List.length_reverse, Array.length_toList]
    exact hsz
  obtain ⟨os, hos, hcs, hds⟩ := id hs
  have hTs : s.TypeIs (.ref sl) "slice" := ⟨os, hos, hcs⟩
  unfold getItem
  try with_reducible refine wpAny_holding ?_
  first | refine wpAny_bind (wpAny_pure ?_) | skip
  refine wpAny_bind (wpAny_sequenceKey ht.typeIs (by decide) ?_)
  refine wpAny_bind (wpAny_callSpecial?_slot (name := Str.ofString "__getitem__") ht.typeIs PyProof.Rows.slot_tuple_getitem
    (wpAny_call_entry PyProof.Rows.slot_tuple_getitem ht.typeIs PyProof.Rows.entry_tuple_getitem ?_ (PyProof.Rows.args_tuple_getitem _ _)))
  show wpAny _ _ (Builtin.Tuple.tupleItemsOf (.ref t) >>= _) _ _ s
  refine wpAny_bind (tupleItemsOf_ ht ?_)
  refine wpAny_bind (wpAny_typeOf hTs ?_)
  rw [if_pos (by decide)]
  refine wpAny_bind (applied_rev hs pl pu ps ?_)
  have hno : ¬ (((((items.size : Nat) : Int) - 1) == 0 && (-1 : Int) == 1 && items.size == items.size) = true) := by
    intro q
    rw [Bool.and_eq_true, Bool.and_eq_true] at q
    have q1 : (-1 : Int) = 1 := eq_of_beq q.1.2
    omega
  show wpAny _ _ (if ((((items.size : Nat) : Int) - 1) == 0 && (-1 : Int) == 1 && items.size == items.size) = true then _ else _) _ _ s
  rw [if_neg hno, pick_rev]
  first
    | exact wpAny_bind (m := Builtin.Tuple.tupleExact _) (wpAny_newObj_type (wpAny_pure ⟨_, rfl, wpAny_pure h⟩) htake)
    | exact wpAny_bind (m := Builtin.Tuple.tupleExact _) (wpAny_newObj_type (wpAny_bind (wpAny_pure (wpAny_pure ⟨_, rfl, wpAny_pure h⟩))) htake)
    | exact wpAny_bind (wpAny_bind (m := Builtin.Tuple.tupleExact _) (wpAny_newObj_type (wpAny_pure (wpAny_pure ⟨_, rfl, wpAny_pure h⟩)) htake))
    | exact wpAny_bind (wpAny_bind (m := Builtin.Tuple.tupleExact _) (wpAny_newObj_type (wpAny_pure ⟨_, rfl, wpAny_pure h⟩) htake))
end
def tRevT (K : PySem.W.Frag) (te : TE) : TE := fun σ H Q => te σ H fun x H1 => ∃ a xs, x = .ref a ∧ SqT K H1 a xs ∧ ∀ p, H1 p = none → Q (.ref p) (upd H1 p (.tup xs.reverse))
section
variable {G : Gx} {X : Cx} {pos : Pos}
theorem pe_revT {e : Expr} {te : TE} {k : Nat} {p1 p2 p3 pos : Pos} (he : PE X e te) : PE X (.Subscript e (.Slice none none (some (.UnaryOp .USub (.Constant (.int 1) k p1) p2)) p3) pos) (tRevT X.K te) := by
  refine ⟨fun pins s σ H Q I h => ?_⟩
  refine PyProof.Rows.Subscript_ (thn (he.run pins s σ H _ I h) fun v s1 ⟨x, H1, I1, r1, q1⟩ => ?_)
  obtain ⟨a, xs, ex, hx, q⟩ := q1
  subst ex
  cases r1
  have hst : PO X (some (.UnaryOp .USub (.Constant (.int 1) k p1) p2)) (tPart (tUn (rU fun i => .int (-i)) (tC (.int 1)))) := po_some (pe_un un_neg pe_int)
  refine wpAny_Slice (thn (po_none.run pins s1 σ H1 (fun o H2 => o = none ∧ H2 = H1) I1 ⟨rfl, rfl⟩) fun vl s2 ⟨l, H2, I2, pl, el, e2⟩ => ?_)
  subst el e2
  refine thn (po_none.run pins s2 σ H2 (fun o H3 => o = none ∧ H3 = H2) I2 ⟨rfl, rfl⟩) fun vu s3 ⟨u, H3, I3, pu, eu, e3⟩ => ?_
  subst eu e3
  refine thn (hst.run pins s3 σ H3 (fun o H4 => o = some (-1) ∧ H4 = H3) I3 ⟨1, rfl, -1, rfl, rfl, rfl⟩) fun vs s4 ⟨o, H4, I4, ps, eo, e4⟩ => ?_
  subst eo e4
  have I5 : Inv X pins σ H4 { s4 with heap := s4.heap.push { cls := .type "slice", data := .fields #[vl, vu, vs] } } := I4.kept (t' := s4.toks) fun b ob q => Heap.get?_push_of_some _ q
  obtain ⟨its, r, ht, hz⟩ := I5.tuple hx
  have hlen := r.length
  show wpAny (model X.prog X.w) X.A (subscriptTail e (.Slice none none (some (.UnaryOp .USub (.Constant (.int 1) k p1) p2)) p3) (.ref a) (.ref s4.heap.objs.size)) (EP X pins σ Q) X.xe { s4 with heap := s4.heap.push { cls := .type "slice", data := .fields #[vl, vu, vs] } }
  refine tail_any (ops := [.ref a, .ref s4.heap.objs.size]) ht.typeIs (PyProof.Rows.slot_tuple_getitem.lookup) ?_ (by with_unfolding_all rfl)
  refine getItem_tuple_rev ht (Heap.IsSliceOf.new _ vl vu vs) pl pu ps ?_ (by rw [List.size_toArray]; omega)
  refine ⟨.ref _, _, I5.laid (t' := s4.toks) (o := .tup xs.reverse) (fun b ob q => Heap.get?_push_of_some _ q) (Nat.le_refl _) ?_, rfl, q _ (I5.hok.fresh (Nat.le_refl _))⟩
  exact ⟨by rw [List.length_reverse]; exact hz, _, r.reverse, IsTup.new _ _⟩
def fRevT (fa : FE) : FE := fun σ => bnd (fa σ) fun x ph => match x with
  | .tup l => some (.tup l.reverse, ph)
  | _ => none
theorem de_revT (hK : X.K = G.K) {a : Expr} {kk : Nat} {p1 p2 p3 : Pos} {fa : FE} (ha : DE G X a fa) : DE G X (.Subscript a (.Slice none none (some (.UnaryOp .USub (.Constant (.int 1) kk p1) p2)) p3) pos) (fRevT fa) :=
  ⟨(pe_revT ha.pe).weak fun σ H Q ⟨s, M, ρ, ph, d, ph1, P, e, k⟩ => by
    obtain ⟨x, ph2, e1, e2⟩ := bnd_some e
    refine ⟨s, M, ρ, ph, x, ph2, P, e1, fun v H1 M1 ρ1 E1 R1 r1 => ?_⟩
    cases r1 with
    | @tup l vs a h n r =>
      cases e2
      refine ⟨a, vs, rfl, .of h, fun p hp => ?_⟩
      have E := Ext.laid (M := M1) (ρ := ρ1) (o := .tup vs.reverse) hp
      exact k _ _ _ _ (E1.trans E) (R1.laid hp) (.tup upd_same (R1.noM hp) (r.rev.ext E R1.sub))
    | _ => cases e2⟩
end
end FD

set_option Elab.async false
set_option maxRecDepth 100000
set_option linter.all false
set_option maxHeartbeats 4000000
/-! FdQ: sorted of ints, or of tuples of ints (of any lengths but 0). -/
namespace FD
open PySem PySem.Spec L2
open PyProof.Rows hiding St

/-- v is a tuple of these ints -/
def IsTn (h : Heap) (v : Value) (ns : List Int) : Prop := ∃ a o xs n, v = .ref a ∧ h.get? a = some o ∧ o.cls = .type "tuple" ∧ o.data = .seq xs n ∧ IntsAre xs.toList ns
theorem IsTn.keeps {h h' : Heap} {v : Value} {ns : List Int} (x : IsTn h v ns) (k : ∀ b o, h.get? b = some o → o.cls = .type "tuple" → h'.get? b = some o) : IsTn h' v ns := by
  obtain ⟨a, o, xs, n, e, g, c, r⟩ := x
  exact ⟨a, o, xs, n, e, k _ _ g c, c, r⟩
section
variable {prog : Program} {w : World} {A : Around} {E : Value → Shared → Prop} {s : Shared}
theorem lex_walk {fin : Bool} {Q : Bool → Shared → Prop} : ∀ {vs ws : List Value} {ns ms : List Int} (i : Nat), IntsAre vs ns → IntsAre ws ms → (vs.length < ws.length ↔ fin = true) → Q (HT.lexLt ns ms) s →
    PySem.W.KatLex prog w A true fin Q (vs.zip ws) i s
  | _, _, _, _, i, .nil, .nil, hf, q => by
    have : fin = false := by
      cases fin
      · rfl
      · exact absurd (hf.mpr rfl) (Nat.lt_irrefl _)
    subst this
    exact PySem.W.kat_nil q
  | _, _, _, _, i, .nil, .cons _ _ _, hf, q => by
    have : fin = true := hf.mp (by simp)
    subst this
    exact PySem.W.kat_nil q
  | _, _, _, _, i, .cons _ _ _, .nil, hf, q => by
    have : fin = false := by
      cases fin
      · rfl
      · exact absurd (hf.mpr rfl) (by simp)
    subst this
    exact PySem.W.kat_nil q
  | _, _, _, _, i, .cons (vs := vs) (ns := ns) x t r, .cons (vs := ws) (ns := ms) y u r', hf, q => by
    show PySem.W.KatLex prog w A true fin Q ((.int x t, .int y u) :: vs.zip ws) i s
    refine PySem.W.kat_cons (SeqAt.EqAt.int_int x t y u prog w _ _ ?_)
    refine PySem.W.kat_go (fun e => ?_) (fun e => ?_)
    · have e' : x = y := by simpa using e
      refine PySem.W.kat_yes (lex_walk (i + 1) r r' (by simpa using hf) ?_)
      have q2 : Q (if x = y then HT.lexLt ns ms else decide (x < y)) s := q
      rw [if_pos e'] at q2
      exact q2
    · have e' : ¬ x = y := by simpa using e
      have q2 : Q (if x = y then HT.lexLt ns ms else decide (x < y)) s := q
      rw [if_neg e'] at q2
      refine PySem.W.kat_no ?_
      cases i with
      | zero => exact oneLt_int q2
      | succ i => exact PySem.W.kat_one _ _ (PyProof.Rows.lt_int q2)
theorem tn_cmp {vs : List Value} {k : Value → List Int} (hp : ∀ v ∈ vs, IsTn s.heap v (k v)) : SrtO.Cmp prog w A s (tuples' true) (fun p => p.1 ∈ vs) (SrtO.lt2 fun v u => HT.lexLt (k v) (k u)) := by
  intro p q hm hm'
  have h1 := hp _ hm
  have h2 := hp _ hm'
  show wpAny (model prog w) A (keyLt' (tuples' true) p.1 q.1) (fun r s' => s' = s ∧ r = HT.lexLt (k p.1) (k q.1)) (fun _ _ => False) s
  generalize k p.1 = ns at h1 ⊢
  generalize k q.1 = ms at h2 ⊢
  obtain ⟨a, o, xs, n, e, ho, hc, hd, i⟩ := h1
  obtain ⟨a', o', xs', n', e', ho', hc', hd', i'⟩ := h2
  rw [e, e']
  exact PySem.W.kat_lt ho hd ho' hd' (lex_walk 0 i i' (by simp) ⟨rfl, rfl⟩)
theorem tn_firsts {h : Heap} {k : Value → List Int} : ∀ {vs : List Value}, (∀ v ∈ vs, IsTn h v (k v) ∧ k v ≠ []) → ∃ fs : List Value, PySem.W.KatTups h vs fs ∧ fs.length = vs.length ∧ ∀ f ∈ fs, ∃ x t, f = Value.int x t
  | [], _ => ⟨[], PySem.W.KatTups.nil, rfl, fun _ hm => by simp at hm⟩
  | v :: vs, hp => by
    obtain ⟨fs, h1, h2, h3⟩ := tn_firsts (vs := vs) fun v' hm => hp v' (List.mem_cons_of_mem _ hm)
    obtain ⟨⟨a, o, xs, n, e, ho, hc, hd, i⟩, hne⟩ := hp v List.mem_cons_self
    generalize k v = ns at i hne
    obtain ⟨l⟩ := xs
    change IntsAre l ns at i
    cases i with
    | nil => exact absurd rfl hne
    | cons x t r =>
      rw [e]
      refine ⟨.int x t :: fs, PySem.W.KatTups.cons ho hc hd rfl h1, by rw [List.length_cons, List.length_cons, h2], fun f hm => ?_⟩
      rcases List.mem_cons.mp hm with rfl | hm
      · exact ⟨x, t, rfl⟩
      · exact h3 f hm
theorem tn_sortable {a : Addr} {vs : List Value} {k : Value → List Int} (h0 : 0 < vs.length) (hp : ∀ v ∈ vs, IsTn s.heap v (k v) ∧ k v ≠ []) (ha : ∀ o, s.heap.get? a = some o → o.cls ≠ .type "tuple") : SrtO.SortableO prog w A s a vs fun v u => HT.lexLt (k v) (k u) := by
  intro h' keep
  have hp' : ∀ v ∈ vs, IsTn h' v (k v) ∧ k v ≠ [] := fun v hm => ⟨(hp v hm).1.keeps fun b o e c => keep b o (fun z => by subst z; exact ha o e c) e, (hp v hm).2⟩
  obtain ⟨fs, h1, h2, h3⟩ := tn_firsts hp'
  refine ⟨tuples' true, fun Q E hq => ?_, tn_cmp fun v hm => (hp' v hm).1⟩
  refine PySem.W.kat_kind (T := .type "int") h1 (by omega) (fun f hm => ?_) (by rfl) ?_
  · obtain ⟨x, t, rfl⟩ := h3 f hm
    exact PySem.W.Looks.now
  · have e : (Value.type "int" != Value.type "tuple") = true := by first | decide +kernel | rfl | decide
    rw [e]
    exact hq
end
abbrev ltL (k : V → List Int) (x y : V) : Bool := HT.lexLt (k x) (k y)
theorem ltL_swo (k : V → List Int) : SrtO.Swo (ltL k) := NtL.swo_lexL k
/-- sorted(xs), xs a list of tuples of ints -/
def rSortT (K : PySem.W.Frag) : List V → Hp → VK → Prop := fun vs H Q => ∃ (a : Addr) (xs : List V) (k : V → List Int), vs = [V.ref a] ∧ SqL K H a xs ∧ (∀ x ∈ xs, k x ≠ [] ∧ ∃ t, x = V.ref t ∧ H t = some (.tup ((k x).map V.int))) ∧
  ∀ ys p, SrtO.Srtd (ltL k) ys → ys.Perm xs → H p = none → Q (.ref p) (upd H p (.lst ys))
theorem cr_sortT {X : Cx} : CallR X (.builtin "sorted") (rSortT X.K) := by
  intro pins s σ H vs us Q I r h
  obtain ⟨a, xs, k, rfl, hs, hx, q⟩ := h
  obtain ⟨its, rv, hl, hz⟩ := I.list hs
  rw [Vals.ref1 r]
  obtain ⟨e1, e2⟩ := refs_back rv fun x m => let ⟨_, t, e, _⟩ := hx x m; ⟨t, e⟩
  have hp : ∀ v ∈ its, IsTn s.heap v (k (backV v)) ∧ k (backV v) ≠ [] := fun v hv => by
    obtain ⟨t, rfl⟩ := e2 v hv
    have hm : V.ref t ∈ xs := by rw [e1]; exact List.mem_map.mpr ⟨_, hv, rfl⟩
    obtain ⟨hne, t', e, ht⟩ := hx _ hm
    cases e
    obtain ⟨_, its2, r2, o, ho, hc, n, hd⟩ := I.hok _ _ ht
    exact ⟨⟨t, o, _, n, rfl, ho, hc, hd, (show IntsAre its2 (k (V.ref t)) from r2.ints)⟩, hne⟩
  refine SrtO.sorted_ord (NtL.swo_lexL fun u => k (backV u)) hl.isList (by rw [← rv.length]; exact hz) (fun h2 h₁ a' ha kk => ?_) fun out h1 h2 => ?_
  · refine tn_sortable (s := { s with heap := h₁ }) (by omega) (fun v hm => ⟨(hp v hm).1.keeps fun b o e _ => (kk b o e).2, (hp v hm).2⟩) fun o e => ?_
    have e' : some o = some (seqObj "list" its.toArray 0) := e.symm.trans ha
    cases e'
    intro c
    exact absurd (Value.type.inj c) (by decide)
  · have h3 : ∀ u ∈ out, ∃ a, u = Value.ref a := fun u hu => e2 u (h2.perm.mem_iff.mp hu)
    have hb : (out.map backV).Perm xs := by
      rw [e1]
      exact h2.perm.map backV
    obtain ⟨ep, he'⟩ := PyProof.Rows.sortedAll_at s.heap its out.toArray
    refine ⟨.ref _, upd H (s.heap.objs.size + 1) (.lst (out.map backV)), I.laid (t' := s.toks) (fun _ _ => PyProof.Rows.sortedAll_old) (Nat.le_succ _) ⟨?_, out, ep, vals_back h3, he'⟩, rfl, q _ _ (SrtO.srtd_map h1) hb (I.hok.fresh (Nat.le_succ _))⟩
    rw [hb.length_eq]
    exact hz

/-! ### as data -/
def tnOf : List D → Option (List (List Int))
  | [] => some []
  | .tup l :: r => match intsOf l with
    | some (i :: is) => (tnOf r).map ((i :: is) :: ·)
    | _ => none
  | _ => none
def tnD (ns : List Int) : D := .tup (ns.map .int)
def leL (a b : List Int) : Bool := !HT.lexLt b a
def sortL (nss : List (List Int)) : List (List Int) := nss.mergeSort leL
theorem lexLt_anti : ∀ a b : List Int, HT.lexLt a b = false → HT.lexLt b a = false → a = b
  | [], [], _, _ => rfl
  | [], _ :: _, h, _ => by cases h
  | _ :: _, [], _, h => by cases h
  | x :: a, y :: b, h, h2 => by
    rw [HT.lexLt_cons] at h h2
    by_cases e : x = y
    · subst e
      rw [if_pos rfl] at h h2
      rw [lexLt_anti a b h h2]
    · rw [if_neg e] at h
      rw [if_neg (Ne.symm e)] at h2
      have h := of_decide_eq_false h
      have h2 := of_decide_eq_false h2
      omega
theorem lexLt_total : ∀ a b : List Int, HT.lexLt a b = true → HT.lexLt b a = false := (NtL.swo_lexL (fun x : List Int => x)).asym
theorem sortL_sorted (nss : List (List Int)) : (sortL nss).Pairwise (fun a b => HT.lexLt b a = false) := by
  have := List.pairwise_mergeSort (le := leL) (fun a b c h1 h2 => by
    unfold leL at *
    rw [Bool.not_eq_true'] at *
    exact (NtL.swo_lexL (fun x : List Int => x)).tr _ _ _ h1 h2) (fun a b => by
    unfold leL
    cases e : HT.lexLt b a
    · rfl
    · rw [lexLt_total _ _ e]; rfl) nss
  exact this.imp fun h => by
    unfold leL at h
    rwa [Bool.not_eq_true'] at h
theorem sortL_perm (nss : List (List Int)) : (sortL nss).Perm nss := List.mergeSort_perm nss _
theorem sortL_unique {l m : List (List Int)} (p : l.Perm m) (h : l.Pairwise (fun a b => HT.lexLt b a = false)) : l = sortL m :=
  (p.trans (sortL_perm m).symm).eq_of_pairwise (fun a b _ _ h1 h2 => lexLt_anti a b h2 h1) h (sortL_sorted m)
def gSortA1 (x : D) : R (List D) := fun ph => match lviewF x ph with
  | some l => match intsOf l with
    | some ns => some ((ns.mergeSort (fun a b => decide (a ≤ b))).map D.int, ph)
    | none => match tnOf l with
      | some nss => some ((sortL nss).map tnD, ph)
      | none => none
  | none => none
def gSortA : List D → R (List D) := un1L gSortA1
def toInts : List V → List Int
  | .int i :: r => i :: toInts r
  | _ :: r => toInts r
  | [] => []
theorem toInts_map : ∀ ns : List Int, toInts (ns.map V.int) = ns
  | [] => rfl
  | n :: ns => by show n :: toInts (ns.map V.int) = _; rw [toInts_map ns]
noncomputable def keyAt (H : Hp) : V → List Int
  | .ref a => match H a with | some (.tup vs) => toInts vs | _ => []
  | _ => []
section
variable {G : Gx}
theorem tnOf_ok {H : Hp} {M : Mu} {ρ : Rho} : ∀ {l : List D} {vs : List V} {nss : List (List Int)}, Reps G H M ρ l vs → tnOf l = some nss → vs.map (keyAt H) = nss ∧ ∀ v ∈ vs, keyAt H v ≠ [] ∧ ∃ t, v = V.ref t ∧ H t = some (.tup ((keyAt H v).map V.int)) ∧ Rep G H M ρ (tnD (keyAt H v)) v
  | _, _, _, .nil, e => by cases e; exact ⟨rfl, fun v h => nomatch h⟩
  | _, _, _, .cons (d := d) (ds := ds) r t, e => by
    cases r with
    | @tup l vs a h n r =>
      have e : (match intsOf l with | some (i :: is) => (tnOf ds).map ((i :: is) :: ·) | _ => none) = some _ := e
      cases q : intsOf l with
      | none => rw [q] at e; cases e
      | some ns =>
        rw [q] at e
        cases ns with
        | nil => cases e
        | cons i is =>
          obtain ⟨ms, e1, rfl⟩ := map_inv e
          obtain ⟨h1, h2⟩ := tnOf_ok t e1
          obtain ⟨rfl, rfl⟩ := intsOf_ok r q
          have hk : keyAt H (.ref a) = i :: is := by
            show (match H a with | some (.tup vs) => toInts vs | _ => []) = _
            rw [h]
            exact toInts_map (i :: is)
          refine ⟨?_, fun v hv => ?_⟩
          · rw [List.map_cons, hk, h1]
          · rcases List.mem_cons.mp hv with rfl | hv
            · rw [hk]
              exact ⟨List.cons_ne_nil _ _, a, rfl, h, .tup h n r⟩
            · exact h2 v hv
    | _ => exact nomatch (show (none : Option (List (List Int))) = some _ from e)
theorem reps_tn {H : Hp} {M : Mu} {ρ : Rho} : ∀ {vs : List V}, (∀ v ∈ vs, Rep G H M ρ (tnD (keyAt H v)) v) → Reps G H M ρ ((vs.map (keyAt H)).map tnD) vs
  | [], _ => .nil
  | v :: vs, h => .cons (h v List.mem_cons_self) (reps_tn fun u hu => h u (List.mem_cons_of_mem _ hu))
def rSortA (K : PySem.W.Frag) : List V → Hp → VK → Prop := fun vs H Q => rSortedI K vs H Q ∨ rSortT K vs H Q
theorem cr_sortA {X : Cx} : CallR X (.builtin "sorted") (rSortA X.K) := by
  intro pins s σ H vs us Q I r h
  rcases h with h | h
  · exact cr_sortedI pins s σ H vs us Q I r h
  · exact cr_sortT pins s σ H vs us Q I r h
theorem c_sortA : CallL G (rSortA G.K) gSortA := by
  intro H M ρ ph ds vs d ph1 Q R r e k
  obtain ⟨x, rfl, e⟩ := un1L_inv e
  obtain ⟨v, rfl, rx⟩ := r.one
  have e : gSortA1 x ph = some (d, ph1) := e
  unfold gSortA1 at e
  cases e1 : lviewF x ph with
  | none => rw [e1] at e; cases e
  | some l =>
    rw [e1] at e
    simp only at e
    cases e2 : intsOf l with
    | some ns =>
      refine .inl (c_sort H M ρ ph [x] [v] d ph1 Q R (.cons rx .nil) ?_ k)
      show gSort1 x ph = _
      unfold gSort1
      rw [e1]
      simp only
      rw [e2] at e ⊢
      exact e
    | none =>
      rw [e2] at e
      simp only at e
      cases e3 : tnOf l with
      | none => rw [e3] at e; cases e
      | some nss =>
        rw [e3] at e
        cases e
        obtain ⟨a, vs, rfl, q, r⟩ := lviewF_ok R rx e1
        obtain ⟨h1, h2⟩ := tnOf_ok r e3
        refine .inr ⟨a, vs, keyAt H, rfl, q, fun x hx => let ⟨n, t, e, h, _⟩ := h2 x hx; ⟨n, t, e, h⟩, fun ys p hs hp hn => ?_⟩
        have hks : ys.map (keyAt H) = sortL nss := by
          refine sortL_unique ?_ ?_
          · rw [← h1]; exact hp.map _
          · rw [List.pairwise_map]
            exact hs
        have E := Ext.laidM (M := M) (ρ := ρ) (o := .lst ys) hn
        have ry : Reps G H M ρ ((sortL nss).map tnD) ys := by
          rw [← hks]
          exact reps_tn fun v hv => let ⟨_, _, _, _, z⟩ := h2 v (hp.mem_iff.mp hv); z
        exact k _ _ _ _ _ E (R.laidM hn) hn upd_same (.inr rfl) (R.fresh hn) (ry.ext E R.sub)
theorem dl_sortA {X : Cx} {pos : Pos} (hK : X.K = G.K) {p : Pos} {e : Expr} {fa : FA} (hm : X.mg "sorted" = none) (ha : DA G X [e] fa) (hg : Gl X "sorted" := by rfl) (he : starEach [e] X.env = (false, eval e X.env) :: starEach [] X.env := by rfl) : DL G X (.Call (.Name "sorted" p) [e] [] pos) (fCallL gSortA fa) :=
  dl_bi (hK ▸ cr_sortA) c_sortA hm ha (by decide +kernel) hg (by decide) (by decide) he
end
end FD

set_option Elab.async false
set_option maxRecDepth 100000
set_option linter.all false
set_option maxHeartbeats 4000000
/-! FdU: set(x) of a list or a tuple of ints; sorted(set(x)). -/
namespace FD
open PySem PySem.Spec L2
open PyProof.Rows hiding St

@[reducible] def set0 (w : World) : Obj := { cls := .type "set", dict := none, data := .set #[] 0 (.fresh 0 0 (!w.params.followText "set-order")) }
section
variable {P : Program} {w : World} {A : Around} {E : Value → Shared → Prop} {s : Shared}
set_option maxRecDepth 100000 in
set_option maxHeartbeats 3200000 in
theorem set_of_list {l : Addr} {items : Array Value} (ns : List Int) {Q : Value → Shared → Prop} (hh : A.handled = none) (hl : s.heap.IsList l items) (hit : IntsAre items.toList ns) (hb : ns.length + 1 < scanBound)
    (h : ∀ (h' : Heap) (tk c : Nat), SetR w h' s.heap.objs.size (fun j => decide (j ∈ ns)) c → c ≤ ns.length → (∀ b o, s.heap.get? b = some o → h'.get? b = some o) → Q (.ref s.heap.objs.size) { s with heap := h', toks := tk }) :
    wpAny (model P w) A (call (.type "set") [.ref l]) Q E s := by
  have hisz : items.size = ns.length := by
    have q := IntsAre.length hit
    rw [Array.length_toList] at q
    exact q
  obtain ⟨c, tl, hmro⟩ := F.called_set.mro
  have hmade := F.called_set.made
  have hsub := F.called_set.sub
  refine wpAny_call (codeAny_of_tree ?_)
  show wpAny _ _ (callAny (.type "set") _) _ _ _
  refine wpAny_pure ⟨Code.quiet_builtin _ (by decide +kernel), codeAny_builtin F.entry_type_call ?_⟩
  rw [Around.under_plain (weight_type_call_type "set" [.ref l] []) rfl]
  have h1 := F.called_set.notType
  have h2 := F.called_set.canCreate
  have hct := F.typeCall_set_1 (.ref l)
  repeat (any_goals (first | assumption | wp_step))

  refine codeAny_mono (code_set_led1 (.ref l) (E := E) (Q₁ := fun obj s₁ => obj = .ref s.heap.objs.size ∧ s₁ = { s with heap := s.heap.push (set0 w) }) ⟨rfl, rfl⟩) fun r s₁ hr => ?_
  cases r with
  | error e => exact hr
  | ok fl =>
    cases fl with
    | ret obj =>
      obtain ⟨rfl, rfl⟩ := hr
      have hS : (s.heap.push (set0 w)).get? s.heap.objs.size = some (set0 w) := Heap.get?_push_size _ rfl
      have hT : Shared.TypeIs { s with heap := s.heap.push (set0 w) } (.ref s.heap.objs.size) "set" := ⟨_, hS, rfl⟩
      have hli := F.called_set.init.lookup
      have hbi := F.called_set.init.bind (.ref s.heap.objs.size)
      repeat (any_goals (first | assumption | wp_step))

      refine codeAny_mono (codeAny_call_builtin (R := wants (fun r s₂ => r = .none ∧ ∃ h' tk c, s₂ = { s with heap := h', toks := tk } ∧ SetR w h' s.heap.objs.size (fun j => decide (j ∈ ns)) c ∧ c ≤ ns.length ∧
          (∀ b o, s.heap.get? b = some o → h'.get? b = some o)) E) F.called_set.init.plain F.entry_set_init (check_set_init_1 hT ?_)) fun r₂ s₂ hr₂ => ?_
      · obtain ⟨ol, hol, hcl, nl, hdl⟩ := hl
        obtain ⟨ocls, odict, odata, oslots⟩ := ol
        simp only at hcl hdl
        subst hcl; subst hdl
        have hol' : (s.heap.push (set0 w)).get? l = some { cls := .type "list", dict := odict, data := .seq items nl, slots := oslots } := Heap.get?_push_of_some _ hol
        have hsls := F.sub_list_set
        have hslf := F.sub_list_frozenset
        have hne : (Value.type "list" == Value.type "dict") = false := by decide
        have hl1 : (s.heap.push (set0 w)).IsList l items := ⟨_, hol', rfl, nl, rfl⟩
        unfold Builtin.«set.__init__» noKeywords Builtin.Frozenset.updateFrom
        generalize hPI : pyIter = PI
        wp_walk
        subst hPI

        refine wpAny_pyIter_list hl1 ?_
        refine wpAny_bind (wpAny_runValue ?_)
        have hlS : l < s.heap.objs.size := Heap.lt_size hol
        have hh3 : A.in1.in1.in1.handled = none := by simp [hh]
        have hz1 : (s.heap.push (set0 w)).objs.size = s.heap.objs.size + 1 := Heap.size_push ..
        have hneI : l ≠ (s.heap.push (set0 w)).objs.size := by
          rw [Heap.size_push]; exact Nat.ne_of_lt (Nat.lt_succ_of_lt hlS)
        have hSf : s.heap.objs.size ∉ [(s.heap.push (set0 w)).objs.size, l] := by
          rw [Heap.size_push]; simp only [List.mem_cons, List.mem_singleton, List.not_mem_nil, or_false, not_or]
          exact ⟨Nat.ne_of_lt (Nat.lt_succ_self _), Nat.ne_of_gt hlS⟩
        have hval : ∀ (i : Nat) (v : Value), items[i]? = some v → ∃ k t, ns[i]? = some k ∧ v = .int k t := fun i v hv => by
          have hi : i < ns.length := by rw [← hisz]; exact (Array.getElem?_eq_some_iff.mp hv).1
          obtain ⟨t, e⟩ := PyProof.Rows.IntsAre.int_at hit i v (by rw [Array.getElem?_toList]; exact hv)
          refine ⟨ns[i], t, List.getElem?_eq_getElem hi, ?_⟩
          rw [e, List.getD_eq_getElem?_getD, List.getElem?_eq_getElem hi] <;> rfl
        refine set_update_ints ((Walks.list hh3 _ l hneI items).toS) s.heap.objs.size
          hSf ns hisz hb hval (items.size - 0) 0 _ (by omega) (Nat.zero_le _)
          ⟨⟨_, Heap.get?_push_size _ rfl, rfl, rfl⟩, (hl1.push _)⟩ ?hS0 ?hR
        case hS0 =>
          have hget : ((s.heap.push (set0 w)).push { cls := .type "list_iterator", data := .fields #[.ref l, .int 0 0] }).get? s.heap.objs.size
              = some (set0 w) := Heap.get?_push_of_some _ hS
          exact ⟨0, Nat.le_refl 0, setR_new_at hget⟩
        case hR =>
          intro s' c' hm hc' hS'
          obtain ⟨h', g2, d', tk', os'⟩ := s'
          have eg : g2 = s.gens := hm.gens
          have ed : d' = s.drawn := hm.drawn
          have eo : os' = s.os := hm.os
          subst eg; subst ed; subst eo
          show wpAny _ _ _ _ _ _
          refine wpAny_pure ?_
          show wpAny _ _ (PySem.ret Value.none) _ _ _
          rw [hisz] at hc'
          refine wpAny_pure ⟨rfl, h', tk', c', rfl, hS', hc', fun b o e => ?_⟩
          have hb0 : b < s.heap.objs.size := Heap.lt_size e
          have hb1 : b ≠ s.heap.objs.size := Nat.ne_of_lt hb0
          have hb2 : b ≠ (s.heap.push (set0 w)).objs.size := by
            rw [Heap.size_push]; exact Nat.ne_of_lt (Nat.lt_succ_of_lt hb0)
          exact hm.heap b o (by simp only [List.mem_cons, List.mem_singleton, List.not_mem_nil, or_false, not_or]; exact ⟨hb1, hb2⟩) (Heap.get?_push_of_some _ (Heap.get?_push_of_some _ e))

      · cases r₂ with
        | error e => exact hr₂
        | ok fl₂ =>
          cases fl₂ with
          | ret r =>
            obtain ⟨rfl, h', tk, c', rfl, hS', hc', hk'⟩ := hr₂
            repeat (any_goals (first | assumption | wp_step))
            exact h _ _ _ hS' hc' hk'
          | _ => exact hr₂.elim
    | _ => exact hr.elim


theorem set_of {b : Bool} {l : Addr} {items : Array Value} (ns : List Int) {Q : Value → Shared → Prop} (hh : A.handled = none) (hl : IsA b s.heap l items) (hit : IntsAre items.toList ns) (hb : ns.length + 1 < scanBound)
    (h : ∀ (h' : Heap) (tk c : Nat), SetR w h' s.heap.objs.size (fun j => decide (j ∈ ns)) c → c ≤ ns.length → (∀ b o, s.heap.get? b = some o → h'.get? b = some o) → Q (.ref s.heap.objs.size) { s with heap := h', toks := tk }) :
    wpAny (model P w) A (call (.type "set") [.ref l]) Q E s := by
  cases b
  · exact set_of_list ns hh hl hit hb h
  · exact call_set_tupI ns hh hl hit hb h
/-- sorted of a set of ints, any number of them -/
theorem sorted_of_set {a : Addr} {S : Int → Bool} {n : Nat} {Q : Value → Shared → Prop} (R : SetR w s.heap a S n) (hh : A.handled = none) (hz : n ≤ sizeLine)
    (hQ : ∀ s' p (out : Array Value) (c : Nat) (ns : List Int), (∀ b o, s.heap.get? b = some o → s'.heap.get? b = some o) → s'.gens = s.gens → s'.os = s.os → s.heap.objs.size ≤ p →
      s'.heap.get? p = some (seqObj "list" out c) → IntsAre out.toList ns → ns.Pairwise (· < ·) → (∀ k, k ∈ ns ↔ S k = true) → ns.length = n → Q (.ref p) s') :
    wpAny (model P w) A (call (.builtin "sorted") [.ref a]) Q E s := by
  obtain ⟨o, es, ep, t, ho, hex, hd, g, nd, hm, hb, hf, hn, hr, hl⟩ := R
  refine Calls.call_function_entry kind_sorted plain_sorted entry_sorted (args_sorted1 _) ?_
  unfold Builtin.«sorted»
  refine wpAny_bind (m := checkCount "sorted" 1 1 _) (wpAny_pure ?_)
  refine wpAny_bind (collect_set (A := A.in1) hh ⟨o, ho, hex.1, hd⟩ hf hb hr hl fun s1 vs k1 h0 g1 o1 pm => ?_)
  have hvl : vs.length = n := by rw [pm.length_eq, List.length_map, Array.length_toList]; exact hn
  have hI : IntsAre vs (vs.map Builtin.Re.reRawOf) := ints_of vs fun v hv => by
    obtain ⟨e, he, q⟩ := List.mem_map.mp (pm.mem_iff.mp hv)
    obtain ⟨k, tk, e1, _⟩ := g e he
    exact ⟨k, tk, by rw [← q]; exact e1⟩
  have pk : (vs.map Builtin.Re.reRawOf).Perm (es.toList.map keyOf) := by
    have q := pm.map Builtin.Re.reRawOf
    rw [List.map_map] at q
    exact q
  refine wpAny_bind (wpAny_newList ?_ (by rw [hvl]; exact hz))
  have hoL : (s1.heap.push (seqObj "list" vs.toArray 0)).get? s1.heap.objs.size = some (seqObj "list" vs.toArray 0) := Heap.get?_push_size _ rfl
  refine wpAny_bind (wpAny_holding (wpAny_call_entry slot_list_sort ⟨_, hoL, rfl⟩ entry_list_sort
    (SrtO.list_sort_ord SrtO.swo_int hoL (by rw [hvl]; exact hz) (fun h2 => SrtO.ints_sortable hI h2) fun out h1 h2 => ⟨.none, rfl, ?_⟩) (args_list_sort _)))
  obtain ⟨a1, a2, a3⟩ := SrtO.ints_out hI h1 h2
  obtain ⟨c, hc⟩ := sortedHeap_at (vs := vs) (out := out.toArray) hoL
  have pn : (out.map SrtO.iv).Perm (es.toList.map keyOf) := a2.trans pk
  refine wpAny_pure ⟨_, rfl, hQ _ s1.heap.objs.size out.toArray c (out.map SrtO.iv) (fun b u e => ?_) g1 o1 h0 hc a1 (lt_of_le_nodup _ a3 (pn.nodup_iff.mpr nd)) (fun k => by rw [pn.mem_iff, ← hm k]) ?_⟩
  · have q := k1 b u e
    have hlt := Heap.lt_size q
    show (sortedHeap (s1.heap.push (seqObj "list" vs.toArray 0)) s1.heap.objs.size vs out.toArray).get? b = some u
    rw [sortedHeap_old (Nat.ne_of_lt hlt) (by rw [size_push']; exact Nat.lt_succ_of_lt hlt)]
    exact Heap.get?_push_of_some _ q
  · rw [pn.length_eq, List.length_map, Array.length_toList]; exact hn
end
end FD

set_option Elab.async false
set_option maxRecDepth 100000
set_option linter.all false
set_option maxHeartbeats 4000000
/-! FdV: sorted(set(x)), len(set(x)) of ints, as data. -/
namespace FD
open PySem PySem.Spec L2
open PyProof.Rows hiding St

/-- the members in order, each once -/
def insI (x : Int) : List Int → List Int
  | [] => [x]
  | y :: l => if x < y then x :: y :: l else if x = y then y :: l else y :: insI x l
def setL : List Int → List Int
  | [] => []
  | x :: l => insI x (setL l)
theorem insI_mem (x k : Int) : ∀ l : List Int, k ∈ insI x l ↔ k = x ∨ k ∈ l
  | [] => by simp [insI]
  | y :: l => by
    unfold insI
    split
    · simp
    · split
      · rename_i h; subst h; simp
      · rw [List.mem_cons, insI_mem x k l, List.mem_cons]
        constructor <;> intro h <;> rcases h with h | h | h <;> simp [h]
theorem insI_sorted (x : Int) : ∀ l : List Int, l.Pairwise (· < ·) → (insI x l).Pairwise (· < ·)
  | [], _ => List.pairwise_singleton _ _
  | y :: l, h => by
    obtain ⟨h1, h2⟩ := List.pairwise_cons.mp h
    unfold insI
    split
    · rename_i c
      refine List.pairwise_cons.mpr ⟨fun z hz => ?_, h⟩
      rcases List.mem_cons.mp hz with rfl | hz
      · exact c
      · have := h1 z hz; omega
    · split
      · exact h
      · rename_i c1 c2
        refine List.pairwise_cons.mpr ⟨fun z hz => ?_, insI_sorted x l h2⟩
        rcases (insI_mem x z l).mp hz with rfl | hz
        · omega
        · exact h1 z hz
theorem setL_mem (k : Int) : ∀ l : List Int, k ∈ setL l ↔ k ∈ l
  | [] => by simp [setL]
  | x :: l => by
    show k ∈ insI x (setL l) ↔ _
    rw [insI_mem, setL_mem k l, List.mem_cons]
theorem setL_sorted : ∀ l : List Int, (setL l).Pairwise (· < ·)
  | [] => List.Pairwise.nil
  | x :: l => insI_sorted x _ (setL_sorted l)
theorem insI_length (x : Int) : ∀ l : List Int, (insI x l).length ≤ l.length + 1
  | [] => Nat.le_refl _
  | y :: l => by
    unfold insI
    split
    · exact Nat.le_refl _
    · split
      · exact Nat.le_succ _
      · exact Nat.succ_le_succ (insI_length x l)
theorem setL_length : ∀ l : List Int, (setL l).length ≤ l.length
  | [] => Nat.le_refl _
  | x :: l => Nat.le_trans (insI_length x _) (Nat.succ_le_succ (setL_length l))
theorem setL_unique {a l : List Int} (h : a.Pairwise (· < ·)) (m : ∀ k, k ∈ a ↔ k ∈ l) : a = setL l := by
  have nd : ∀ x : List Int, x.Pairwise (· < ·) → x.Nodup := fun x hx => hx.imp fun {a b} h => by omega
  have p : a.Perm (setL l) := (List.perm_ext_iff_of_nodup (nd a h) (nd _ (setL_sorted l))).mpr fun k => by rw [m k, setL_mem]
  exact p.eq_of_pairwise (fun a b _ _ h1 h2 => by omega) h (setL_sorted l)

def tSortSet (K : PySem.W.Frag) (te : TE) : TE := fun σ H Q => te σ H fun v H1 => ∃ (b : Bool) (a : Addr) (ns : List Int), v = .ref a ∧ SqA K b H1 a (ns.map V.int) ∧ ns.length ≤ 4000 ∧ ∀ q, H1 q = none → Q (.ref q) (upd H1 q (.lst ((setL ns).map V.int)))
section
variable {X : Cx}
theorem pe_sortSet {e : Expr} {te : TE} {p p2 pos pos2 : Pos} (hc : X.calm = true) (hg : Gl X "sorted") (hm : X.mg "sorted" = none) (hg2 : Gl X "set") (hm2 : X.mg "set" = none) (he : PE X e te)
    (hs : starEach [e] X.env = (false, eval e X.env) :: starEach [] X.env := by rfl)
    (hs2 : starEach [.Call (.Name "set" p2) [e] [] pos2] X.env = (false, eval (.Call (.Name "set" p2) [e] [] pos2) X.env) :: starEach [] X.env := by rfl) :
    PE X (.Call (.Name "sorted" p) [.Call (.Name "set" p2) [e] [] pos2] [] pos) (tSortSet X.K te) := by
  refine ⟨fun pins s σ H Q I h => ?_⟩
  refine Call_ (ld_blt I hg hm PyProof.Rows.boot_sorted (Calls.callWith_builtin (by rw [hs2]; rfl) (Calls.evalArgs_plain (args_cons (Call_ (ld_blt I hg2 hm2 PyProof.Rows.boot_set (PyProof.Rows.callWith_type1 (args_cons (thn (he.run pins s σ H _ I h) fun u s1 ⟨v, H1, I1, r1, q1⟩ => args_nil ?_) hs) hs rfl))) hs2))))
  obtain ⟨b, a, ns, ev, hq, hl, q⟩ := q1
  subst ev
  obtain rfl : u = Value.ref a := r1
  obtain ⟨its, rv, p'⟩ := I1.seqA hq
  have hd := I1.ok.hd hc
  have hn := line63
  refine set_of (b := b) ns hd p' (by simpa using ints_of_vals rv) (by unfold scanBound; omega) fun h' tk c R hcn k => args_nil ?_
  have I2 : Inv X pins σ H1 { s1 with heap := h', toks := tk } := I1.kept (t' := tk) k
  refine sorted_of_set R hd (by rw [sizeLine_eq]; omega) fun s' p out c2 ns' k2 g o hp hg hi hsr hmm hl2 => ?_
  have e1 : ns' = setL ns := setL_unique hsr fun j => by rw [hmm j, decide_eq_true_eq]
  subst e1
  have hlen : ((setL ns).map V.int).length ≤ sizeLine := by
    rw [List.length_map, sizeLine_eq]
    have := setL_length ns
    omega
  have hn : H1 p = none := I2.hok.fresh hp
  have J : Inv X pins σ (upd H1 p (.lst ((setL ns).map V.int))) s' :=
    I2.call' (ch := []) o (Un.laid k2 hp hn) (I2.hok.laid k2 hp ⟨hlen, out.toList, c2, vals_of_ints hi, hg⟩) (by rw [g]; exact I2.bare) (fun _ z => nomatch z)
  exact ⟨.ref p, _, J, rfl, q p hn⟩
end
section
variable {G : Gx} {X : Cx} {pos : Pos}
/-- the ints of a list or a tuple -/
def intsAt (x : D) (ph : PH) : Option (List Int) := match x with
  | .tup l => intsOf l
  | x => match lviewF x ph with | some l => intsOf l | none => none
theorem intsAt_ok {H : Hp} {M : Mu} {ρ : Rho} {ph : PH} {x : D} {v : V} {ns : List Int} (R : RelH G H M ρ ph) (r : Rep G H M ρ x v) (e : intsAt x ph = some ns) : ∃ b a, v = .ref a ∧ SqA G.K b H a (ns.map V.int) := by
  by_cases hx : ∃ l, x = .tup l
  · obtain ⟨l, rfl⟩ := hx
    cases r with
    | tup h n r =>
      obtain ⟨rfl, _⟩ := intsOf_ok r (show intsOf l = some ns from e)
      exact ⟨true, _, rfl, .of h⟩
  · have e : (match lviewF x ph with | some l => intsOf l | none => none) = some ns := by
      cases x <;> first | exact e | exact absurd ⟨_, rfl⟩ hx
    cases e1 : lviewF x ph with
    | none => rw [e1] at e; cases e
    | some l =>
      rw [e1] at e
      obtain ⟨a, vs, rfl, q, r⟩ := lviewF_ok R r e1
      obtain ⟨rfl, _⟩ := intsOf_ok r e
      exact ⟨false, a, rfl, q⟩
/-- sorted(set(x)) -/
def fSortSet (fe : FE) : FA := fun σ => bnd (fe σ) fun x ph => match intsAt x ph with
  | some ns => if ns.length ≤ 4000 then some ((setL ns).map D.int, ph) else none
  | none => none
theorem dl_sortSet (hK : X.K = G.K) {e : Expr} {p p2 pos2 : Pos} {fe : FE} (hc : X.calm = true) (hm : X.mg "sorted" = none) (hm2 : X.mg "set" = none) (h : DE G X e fe) (hg : Gl X "sorted" := by rfl) (hg2 : Gl X "set" := by rfl)
    (hs : starEach [e] X.env = (false, eval e X.env) :: starEach [] X.env := by rfl)
    (hs2 : starEach [.Call (.Name "set" p2) [e] [] pos2] X.env = (false, eval (.Call (.Name "set" p2) [e] [] pos2) X.env) :: starEach [] X.env := by rfl) :
    DL G X (.Call (.Name "sorted" p) [.Call (.Name "set" p2) [e] [] pos2] [] pos) (fSortSet fe) :=
  ⟨(pe_sortSet hc hg hm hg2 hm2 h.pe hs hs2).weak fun σ H Q ⟨s, M, ρ, ph, d, ph1, P, e, k⟩ => by
    obtain ⟨x, ph2, e1, e2⟩ := bnd_some e
    refine ⟨s, M, ρ, ph, x, ph2, P, e1, fun v H1 M1 ρ1 E1 R1 r1 => ?_⟩
    cases e7 : intsAt x ph2 with
    | none => rw [e7] at e2; cases e2
    | some ns =>
      rw [e7] at e2
      simp only at e2
      split at e2
      · rename_i hl
        cases e2
        obtain ⟨b, a, rfl, q⟩ := intsAt_ok R1 r1 e7
        refine ⟨b, a, ns, rfl, hK ▸ q, hl, fun p hp => ?_⟩
        have E := Ext.laidM (M := M1) (ρ := ρ1) (o := .lst ((setL ns).map V.int)) hp
        exact k _ _ _ _ _ (E1.trans E) (R1.laidM hp) (E1.dom _ hp) upd_same (.inr rfl) (R1.fresh hp) (reps_ints _)
      · cases e2⟩
end
end FD

set_option Elab.async false
set_option maxRecDepth 100000
set_option linter.all false
namespace W
open PySem L2 FD
/-! the text by places -/
def top (i : Nat) : Stmt := PySem.Challenge.pw_flatforest_k17_sets_of_kin.main.body.getD i (.Pass ⟨0, 0, 0, 0⟩)
def gx (K : PySem.W.Frag) : Gx := ⟨K, fun _ => 0, fun _ => []⟩
structure Facts (K : PySem.W.Frag) (mg : Str → Option Value) where
  a_l_deck : Addr
  d_l_deck : FuncData
  F_l_deck : Fun K "_law_deck" "_law_deck" (top 3) a_l_deck d_l_deck
  m_l_deck : mg "_law_deck" = some (.ref a_l_deck)
  k_l_deck : PySem.W.keepIn K (.ref a_l_deck) = true
  b_l_deck : Binds K d_l_deck ["_law_script"] []
  a_l_draw : Addr
  d_l_draw : FuncData
  F_l_draw : Fun K "_law_draw" "_law_draw" (top 4) a_l_draw d_l_draw
  m_l_draw : mg "_law_draw" = some (.ref a_l_draw)
  k_l_draw : PySem.W.keepIn K (.ref a_l_draw) = true
  b_l_draw : Binds K d_l_draw ["_law_deck_here", "_law_size"] []
  a_l_any_marks : Addr
  d_l_any_marks : FuncData
  F_l_any_marks : Fun K "_law_any_marks" "_law_any_marks" (top 6) a_l_any_marks d_l_any_marks
  m_l_any_marks : mg "_law_any_marks" = some (.ref a_l_any_marks)
  k_l_any_marks : PySem.W.keepIn K (.ref a_l_any_marks) = true
  b_l_any_marks : Binds K d_l_any_marks ["_law_deck_here", "_law_count"] []
  a_l_homes : Addr
  d_l_homes : FuncData
  F_l_homes : Fun K "_law_homes" "_law_homes" (top 7) a_l_homes d_l_homes
  m_l_homes : mg "_law_homes" = some (.ref a_l_homes)
  k_l_homes : PySem.W.keepIn K (.ref a_l_homes) = true
  b_l_homes : Binds K d_l_homes ["_law_signs"] []
  a_l_sets : Addr
  d_l_sets : FuncData
  F_l_sets : Fun K "_law_sets" "_law_sets" (top 8) a_l_sets d_l_sets
  m_l_sets : mg "_law_sets" = some (.ref a_l_sets)
  k_l_sets : PySem.W.keepIn K (.ref a_l_sets) = true
  b_l_sets : Binds K d_l_sets ["_law_signs"] []
  a_kin : Addr
  d_kin : FuncData
  F_kin : Fun K "kin" "kin" (top 1) a_kin d_kin
  m_kin : mg "kin" = some (.ref a_kin)
  k_kin : PySem.W.keepIn K (.ref a_kin) = true
  b_kin : Binds K d_kin ["marks"] []
  a_l_are_told : Addr
  d_l_are_told : FuncData
  F_l_are_told : Fun K "_law_are_told" "_law_are_told" (top 9) a_l_are_told d_l_are_told
  m_l_are_told : mg "_law_are_told" = some (.ref a_l_are_told)
  k_l_are_told : PySem.W.keepIn K (.ref a_l_are_told) = true
  b_l_are_told : Binds K d_l_are_told ["_law_signs"] []
  a_law : Addr
  d_law : FuncData
  F_law : Fun K "law" "law" (top 10) a_law d_law
  m_law : mg "law" = some (.ref a_law)
  k_law : PySem.W.keepIn K (.ref a_law) = true
  b_law : Binds K d_law ["_law_script"] []
  kb_kin_0_marks : KB K d_kin ["marks"] 0 ["marks"] [0]
  g_enumerate : mg "enumerate" = none
  g_int : mg "int" = none
  g_len : mg "len" = none
  g_list : mg "list" = none
  g_range : mg "range" = none
  g_repr : mg "repr" = none
  g_set : mg "set" = none
  g_sorted : mg "sorted" = none
  g_tuple : mg "tuple" = none
/-- _law_deck(_law_script) -/
noncomputable def b_l_deck : FS :=
  (sSeq (sPar 2 3 (fCons (fOwn (fRevL (fVal (fCallL gList (fCons (fSl (fVar 0) oNo (oAt (fC (.int 63)))) fNil))))) (fCons (fC (.int 88101)) fNil)))
  (sSeq (sFor (iSeq (fVar 2)) (tgName 1) (sSet 3 (fBin gMod (fCall gInt (fCons (fBin gAdd (fBin gAdd (fBin gMul (fVar 3) (fC (.int 40692))) (fBin gMod (fCall gInt (fCons (fVar 1) fNil)) (fC (.int 2147483563)))) (fC (.int 11))) fNil)) (fC (.int 2147483629)))))
  (sRet (fOwn (fLst (fCons (fVar 2) (fCons (fVar 3) (fCons (fC (.int 0)) fNil))))))))
noncomputable def f_l_deck : FF := fDef 4 b_l_deck
/-- _law_draw(_law_deck_here, _law_size) -/
noncomputable def b_l_draw : FS :=
  (sSeq (sPut (fBin gAdd (fBin gIxS (fVar 0) (fC (.int 2))) (fC (.int 1))) (fVar 0) (fC (.int 2)))
  (sSeq (sSet 2 (fBin gAdd (fBin gIxS (fVar 0) (fC (.int 1))) (fBin gMul (fBin gMul (fC (.int 60013)) (fBin gIxS (fVar 0) (fC (.int 2)))) (fBin gIxS (fVar 0) (fC (.int 2))))))
  (sSeq (sIf (fTest (fBin gNe (fBin gIxS (fVar 0) (fC (.int 0))) (fVal (fLst fNil)))) (sSeq (sSet 3 (fMethL0 gPop (fBin gIxS (fVar 0) (fC (.int 0)))))
  (sSeq (sIf (fTest (fBin gGe (fVar 3) (fBin gPow (fC (.int 10)) (fC (.int 18))))) (sSeq (sDrop (fMethL gAppend (fBin gIxS (fVar 0) (fC (.int 0))) (fCons (fBin gDiv (fVar 3) (fVar 1)) fNil)))
  (sRet (fBin gMod (fCall gInt (fCons (fVar 3) fNil)) (fVar 1)))) sSkip)
  (sSet 2 (fBin gAdd (fVar 2) (fVar 3))))) sSkip)
  (sSeq (sSet 2 (fBin gMod (fBin gMul (fBin gMod (fCall gInt (fCons (fVar 2) fNil)) (fC (.int 2147483587))) (fC (.int 48271))) (fC (.int 2147483647))))
  (sSeq (sSet 2 (fBin gMod (fCall gInt (fCons (fBin gAdd (fBin gAdd (fBin gMul (fVar 2) (fVar 2)) (fBin gMul (fC (.int 69621)) (fBin gIxS (fVar 0) (fC (.int 2))))) (fC (.int 17))) fNil)) (fC (.int 2147483549))))
  (sRet (fBin gMod (fBin gDiv (fBin gMod (fCall gInt (fCons (fBin gMul (fVar 2) (fC (.int 39373))) fNil)) (fC (.int 2147483629))) (fC (.int 64))) (fVar 1))))))))
noncomputable def f_l_draw : FF := fDef 4 b_l_draw
/-- _law_any_marks(_law_deck_here, _law_count) -/
noncomputable def b_l_any_marks : FS :=
  (sSeq (sAsg (fTup (fCons (fCall (callK 2 2 f_l_draw) (fCons (fVar 0) (fCons (fC (.int 6)) fNil))) (fCons (fBin gAdd (fC (.int 1)) (fCall (callK 2 2 f_l_draw) (fCons (fVar 0) (fCons (fC (.int 4)) fNil)))) fNil))) (tgTup 2 (tgsCons (tgName 2) (tgsCons (tgName 3) tgsNil))))
  (sSeq (sIf (fTest (fBin gLt (fVar 2) (fC (.int 2)))) (sRet (fCall gTuple (fCons (fVal (fLc (iRange1 (fCons (fVar 1) fNil)) (tgName 4) fYes (fBin gAdd (fC (.int 1)) (fCall (callK 2 2 f_l_draw) (fCons (fVar 0) (fCons (fVar 3) fNil)))) [4])) fNil))) sSkip)
  (sSeq (sIf (fTest (fBin gEq (fVar 2) (fC (.int 2)))) (sRet (fBin gRepT (fTup (fCons (fVar 3) fNil)) (fVar 1))) sSkip)
  (sSeq (sIf (fTest (fBin gEq (fVar 2) (fC (.int 3)))) (sRet (fCall gTuple (fCons (fVal (fLc (iRange1 (fCons (fVar 1) fNil)) (tgName 4) fYes (fBin gAdd (fC (.int 1)) (fBin gIxS (fVal (fLc (iRange1 (fCons (fC (.int 9)) fNil)) (tgName 5) (fTest (fBin gEq (fBin gMod (fBin gDiv (fBin gAdd (fVar 4) (fC (.int 1))) (fBin gIxS (fVal (fLst (fCons (fC (.int 1)) (fCons (fC (.int 2)) (fCons (fC (.int 4)) (fCons (fC (.int 8)) (fCons (fC (.int 16)) (fCons (fC (.int 32)) (fCons (fC (.int 64)) (fCons (fC (.int 128)) (fCons (fC (.int 256)) fNil))))))))))) (fVar 5))) (fC (.int 2))) (fC (.int 1)))) (fVar 5) [5])) (fC (.int 0)))) [4])) fNil))) sSkip)
  (sSeq (sIf (fTest (fBin gEq (fVar 2) (fC (.int 4)))) (sRet (fCall gTuple (fCons (fVal (fLc (iRange1 (fCons (fVar 1) fNil)) (tgName 4) fYes (fBin gSub (fBin gPow (fC (.int 10)) (fC (.int 9))) (fCall (callK 2 2 f_l_draw) (fCons (fVar 0) (fCons (fVar 3) fNil)))) [4])) fNil))) sSkip)
  (sRet (fCall gTuple (fCons (fVal (fLc (iRange1 (fCons (fVar 1) fNil)) (tgName 4) fYes (fIf (fTest (fBin gGt (fVar 3) (fC (.int 2)))) (fBin gAdd (fVar 4) (fC (.int 1))) (fBin gSub (fVar 1) (fVar 4))) [4])) fNil))))))))
noncomputable def f_l_any_marks : FF := fDef 6 b_l_any_marks
/-- _law_homes(_law_signs) -/
noncomputable def b_l_homes : FS :=
  (sSeq (sSet 1 (fOwn (fLst fNil)))
  (sSeq (sFor (iRange1 (fCons (fCall gLen (fCons (fVar 0) fNil)) fNil)) (tgName 2) (sSeq (sSet 3 (fVal (fLc (iRange1 (fCons (fVar 2) fNil)) (tgName 4) (fTest (fBin gLe (fBin gIxS (fVar 0) (fVar 4)) (fBin gIxS (fVar 0) (fVar 2)))) (fVar 4) [4])))
  (sDrop (fMethL gAppend (fVar 1) (fCons (fIf (fAnd (fTest (fBin gNe (fVar 3) (fVal (fLst fNil)))) (fTest (fBin gEq (fBin gIxS (fVar 0) (fBin gIxS (fVar 3) (fNeg (fC (.int 1))))) (fBin gIxS (fVar 0) (fVar 2))))) (fBin gIxS (fVar 1) (fBin gIxS (fVar 3) (fNeg (fC (.int 1))))) (fBin gAdd (fVar 2) (fC (.int 1)))) fNil)))))
  (sRet (fVar 1))))
noncomputable def f_l_homes : FF := fDef 5 b_l_homes
/-- _law_sets(_law_signs) -/
noncomputable def b_l_sets : FS :=
  (sSeq (sSet 1 (fCall (callW 1 f_l_homes) (fCons (fVar 0) fNil)))
  (sRet (fVal (fLc (iSeq (fVal (fSortSet (fVar 1)))) (tgName 2) fYes (fCall gTuple (fCons (fVal (fLc (iRange1 (fCons (fCall gLen (fCons (fVar 0) fNil)) fNil)) (tgName 3) (fTest (fBin gEq (fBin gIxS (fVar 1) (fVar 3)) (fVar 2))) (fBin gAdd (fVar 3) (fC (.int 1))) [3])) fNil)) [2]))))
noncomputable def f_l_sets : FF := fDef 4 b_l_sets
/-- kin(marks) -/
noncomputable def b_kin : FS :=
  (sSeq (sPar 1 2 (fCons (fOwn (fLst fNil)) (fCons (fOwn (fLst fNil)) fNil)))
  (sSeq (sFor (iEnumS (fVar 0) (fC (.int 1))) (tgTup 2 (tgsCons (tgName 3) (tgsCons (tgName 4) tgsNil))) (sSeq (sWhile (fAnd (fTest (fBin gNe (fVar 2) (fVal (fLst fNil)))) (fTest (fBin gGt (fBin gIxS (fBin gIxS (fVar 2) (fNeg (fC (.int 1)))) (fC (.int 0))) (fVar 4)))) (sDrop (fMethL gAppend (fVar 1) (fCons (fBin gIxS (fMethL0 gPop (fVar 2)) (fC (.int 1))) fNil))))
  (sSeq (sIf (fOr (fTest (fBin gEq (fVar 2) (fVal (fLst fNil)))) (fTest (fBin gLt (fBin gIxS (fBin gIxS (fVar 2) (fNeg (fC (.int 1)))) (fC (.int 0))) (fVar 4)))) (sDrop (fMethL gAppend (fVar 2) (fCons (fTup (fCons (fVar 4) (fCons (fOwn (fLst fNil)) fNil))) fNil))) sSkip)
  (sDrop (fMethL gAppend (fBin gIxS (fBin gIxS (fVar 2) (fNeg (fC (.int 1)))) (fC (.int 1))) (fCons (fVar 3) fNil))))))
  (sSeq (sDrop (fMethL gExtend (fVar 1) (fCons (fVal (fLc (iSeq (fVar 2)) (tgTup 2 (tgsCons (tgName 4) (tgsCons (tgName 5) tgsNil))) fYes (fVar 5) [4, 5])) fNil)))
  (sRet (fCall gTuple (fCons (fVal (fCallL gSortA (fCons (fVal (fLc (iSeq (fVar 1)) (tgName 5) fYes (fCall gTuple (fCons (fVar 5) fNil)) [5])) fNil))) fNil))))))
noncomputable def f_kin : FF := fDef 6 b_kin
/-- _law_are_told(_law_signs) -/
noncomputable def b_l_are_told : FS :=
  (sSeq (sSet 1 (fCall gTuple (fCons (fCall (callK 0 1 f_l_sets) (fCons (fVar 0) fNil)) fNil)))
  (sRet (fBin gEq (fCall gRepr (fCons (fVal (fLst (fCons (fCall (callK 0 1 f_kin) (fCons (fVar 0) fNil)) (fCons (fCallK 0 1 [0] (callK 0 1 f_kin) fNil (fCons (fVar 0) fNil)) (fCons (fCall (callK 0 1 f_kin) (fCons (fVar 0) fNil)) fNil))))) fNil)) (fCall gRepr (fCons (fVal (fLst (fCons (fVar 1) (fCons (fVar 1) (fCons (fVar 1) fNil))))) fNil)))))
noncomputable def f_l_are_told : FF := fDef 2 b_l_are_told
/-- law(_law_script) -/
noncomputable def b_law : FS :=
  (sSeq (sSet 1 (fCall (callW 1 f_l_deck) (fCons (fVar 0) fNil)))
  (sSeq (sFor (iRange1 (fCons (fC (.int 8)) fNil)) (tgName 2) (sSeq (sSet 5 (fCall (callK 2 2 f_l_any_marks) (fCons (fVar 1) (fCons (fCall (callK 2 2 f_l_draw) (fCons (fVar 1) (fCons (fC (.int 61)) fNil))) fNil))))
  (sIf (fOr (fNot (fTest (fCall (callK 0 1 f_l_are_told) (fCons (fVar 5) fNil)))) (fOr (fNot (fTest (fCall (callK 0 1 f_l_are_told) (fCons (fBin gAdd (fVar 5) (fRevT (fVar 5))) fNil)))) (fNot (fTest (fCall (callK 0 1 f_l_are_told) (fCons (fBin gAdd (fBin gAdd (fTup (fCons (fC (.int 7)) fNil)) (fVar 5)) (fTup (fCons (fC (.int 7)) fNil))) fNil)))))) (sRet (fC (.bl false))) sSkip)))
  (sSeq (sSet 3 (fCall (callK 2 2 f_l_any_marks) (fCons (fVar 1) (fCons (fC (.int 299)) fNil))))
  (sSeq (sIf (fOr (fNot (fTest (fCall (callK 0 1 f_l_are_told) (fCons (fVar 3) fNil)))) (fOr (fNot (fTest (fCall (callK 0 1 f_l_are_told) (fCons (fTup fNil) fNil)))) (fNot (fTest (fCall (callK 0 1 f_l_are_told) (fCons (fTup (fCons (fBin gPow (fC (.int 10)) (fC (.int 9))) fNil)) fNil)))))) (sRet (fC (.bl false))) sSkip)
  (sSeq (sSet 4 (fTup (fCons (fTup (fCons (fC (.int 1)) fNil)) (fCons (fTup (fCons (fC (.int 2)) (fCons (fC (.int 6)) fNil))) (fCons (fTup (fCons (fC (.int 3)) (fCons (fC (.int 5)) fNil))) (fCons (fTup (fCons (fC (.int 4)) fNil)) (fCons (fTup (fCons (fC (.int 7)) fNil)) (fCons (fTup (fCons (fC (.int 8)) fNil)) fNil))))))))
  (sRet (fBin gEq (fCall gRepr (fCons (fCall (callK 0 1 f_kin) (fCons (fTup (fCons (fC (.int 3)) (fCons (fC (.int 2)) (fCons (fC (.int 4)) (fCons (fC (.int 5)) (fCons (fC (.int 4)) (fCons (fC (.int 2)) (fCons (fC (.int 1)) (fCons (fC (.int 2)) fNil))))))))) fNil)) fNil)) (fCall gRepr (fCons (fVar 4) fNil)))))))))
noncomputable def f_law : FF := fDef 6 b_law
section
variable {P : Program} {w : World} {K : PySem.W.Frag} {mg : Str → Option Value} {base : Heap}
theorem sc_l_deck : FnScope ["_law_script", "_law_cell", "_law_left", "_law_blend"] ["_law_script"] (defScope (top 3)) := ⟨rfl, rfl, rfl, by decide +kernel, rfl, by decide +kernel, by decide +kernel⟩
theorem ok_l_deck (T : Facts K mg) : FnG P w K mg base 2 T.a_l_deck T.d_l_deck ["_law_script"] (spOf (gx K) 1 f_l_deck) := by
  have h := fng_of (P := P) (w := w) (K := K) (mg := mg) (base := base) (G := gx K) (k := 1) (N := ["_law_script", "_law_cell", "_law_left", "_law_blend"]) (ps := ["_law_script"]) (fb := b_l_deck) T.F_l_deck sc_l_deck fun cdv A outer s H hr hgd => by
    have nd := sc_l_deck.nd
    have hK : K = (gx K).K := rfl
    unfold b_l_deck
    exact (dss_cons (ds_par 2 3 rfl nd (da_cons ((dl_rev hK ((dl_list hK T.g_list (da_cons (de_sl hK (de_var 0) do_no (do_at de_int)) da_nil))).val)).own (da_cons de_int da_nil)))
    (dss_cons (ds_for PassesOwn.never rfl (di_seq hK (de_var 2)) (dg_name 1 nd) (dss_one (ds_set 3 nd (de_mod (de_toInt T.g_int (da_cons (de_add hK (de_add hK (de_mul (de_var 3) de_int) (de_mod (de_toInt T.g_int (da_cons (de_var 1) da_nil)) de_int)) de_int) da_nil)) de_int))))
    (dss_one (ds_ret ((dl_lst (da_cons (de_var 2) (da_cons (de_var 3) (da_cons de_int da_nil))))).own))))
  exact h
theorem sc_l_draw : FnScope ["_law_deck_here", "_law_size", "_law_blend", "_law_cell"] ["_law_deck_here", "_law_size"] (defScope (top 4)) := ⟨rfl, rfl, rfl, by decide +kernel, rfl, by decide +kernel, by decide +kernel⟩
theorem ok_l_draw (T : Facts K mg) : FnG P w K mg base 2 T.a_l_draw T.d_l_draw ["_law_deck_here", "_law_size"] (spOf (gx K) 2 f_l_draw) := by
  have h := fng_of (P := P) (w := w) (K := K) (mg := mg) (base := base) (G := gx K) (k := 1) (N := ["_law_deck_here", "_law_size", "_law_blend", "_law_cell"]) (ps := ["_law_deck_here", "_law_size"]) (fb := b_l_draw) T.F_l_draw sc_l_draw fun cdv A outer s H hr hgd => by
    have nd := sc_l_draw.nd
    have hK : K = (gx K).K := rfl
    unfold b_l_draw
    exact (dss_cons (ds_put (de_add hK (de_ix hK (de_var 0) de_int) de_int) (de_var 0) de_int)
    (dss_cons (ds_set 2 nd (de_add hK (de_ix hK (de_var 0) de_int) (de_mul (de_mul de_int (de_ix hK (de_var 0) de_int)) (de_ix hK (de_var 0) de_int))))
    (dss_cons (ds_if (dt_ne hK hr.units (de_ix hK (de_var 0) de_int) ((dl_lst da_nil)).val) (dss_cons (ds_set 3 nd (de_pop hK (de_ix hK (de_var 0) de_int)))
    (dss_cons (ds_if (dt_ge (de_var 3) (de_pow de_int de_int)) (dss_cons (ds_expr (de_append hK (de_ix hK (de_var 0) de_int) (da_cons (de_div (de_var 3) (de_var 1)) da_nil)))
    (dss_one (ds_ret (de_mod (de_toInt T.g_int (da_cons (de_var 3) da_nil)) (de_var 1))))) dss_nil)
    (dss_one (ds_set 2 nd (de_add hK (de_var 2) (de_var 3)))))) dss_nil)
    (dss_cons (ds_set 2 nd (de_mod (de_mul (de_mod (de_toInt T.g_int (da_cons (de_var 2) da_nil)) de_int) de_int) de_int))
    (dss_cons (ds_set 2 nd (de_mod (de_toInt T.g_int (da_cons (de_add hK (de_add hK (de_mul (de_var 2) (de_var 2)) (de_mul de_int (de_ix hK (de_var 0) de_int))) de_int) da_nil)) de_int))
    (dss_one (ds_ret (de_mod (de_div (de_mod (de_toInt T.g_int (da_cons (de_mul (de_var 2) de_int) da_nil)) de_int) de_int) (de_var 1)))))))))
  exact h
theorem sc_l_any_marks : FnScope ["_law_deck_here", "_law_count", "_law_way", "_law_size", "_law_at", "_law_c"] ["_law_deck_here", "_law_count"] (defScope (top 6)) := ⟨rfl, rfl, rfl, by decide +kernel, rfl, by decide +kernel, by decide +kernel⟩
theorem ok_l_any_marks (T : Facts K mg) : FnG P w K mg base 3 T.a_l_any_marks T.d_l_any_marks ["_law_deck_here", "_law_count"] (spOf (gx K) 2 f_l_any_marks) := by
  have h := fng_of (P := P) (w := w) (K := K) (mg := mg) (base := base) (G := gx K) (k := 2) (N := ["_law_deck_here", "_law_count", "_law_way", "_law_size", "_law_at", "_law_c"]) (ps := ["_law_deck_here", "_law_count"]) (fb := b_l_any_marks) T.F_l_any_marks sc_l_any_marks fun cdv A outer s H hr hgd => by
    have nd := sc_l_any_marks.nd
    have hK : K = (gx K).K := rfl
    unfold b_l_any_marks
    exact (dss_cons (ds_asg (de_tup (da_cons (de_call (ok_l_draw T) sps_K (hr.mono (by decide)) hgd T.m_l_draw T.k_l_draw T.b_l_draw (da_cons (de_var 0) (da_cons de_int da_nil))) (da_cons (de_add hK de_int (de_call (ok_l_draw T) sps_K (hr.mono (by decide)) hgd T.m_l_draw T.k_l_draw T.b_l_draw (da_cons (de_var 0) (da_cons de_int da_nil)))) da_nil))) (dg_tup hK rfl (dgs_cons (dg_name 2 nd) (dgs_cons (dg_name 3 nd) dgs_nil))))
    (dss_cons (ds_if (dt_lt (de_var 2) de_int) (dss_one (ds_ret (de_tuple hK T.g_tuple (da_cons ((dl_lc [("_law_at", 4)] rfl nd (di_range1 T.g_range (da_cons (de_var 1) da_nil)) (fun _ _ _ _ _ => (dg_name 4 nd)) (fun _ _ _ _ _ => dts_nil) (fun _ _ _ _ _ => (de_add hK de_int (de_call (ok_l_draw T) sps_K (hr.mono (by decide)) hgd T.m_l_draw T.k_l_draw T.b_l_draw (da_cons (de_var 0) (da_cons (de_var 3) da_nil))))))).val da_nil)))) dss_nil)
    (dss_cons (ds_if (dt_eq hK hr.units (de_var 2) de_int) (dss_one (ds_ret (de_repT hK (de_tup (da_cons (de_var 3) da_nil)) (de_var 1)))) dss_nil)
    (dss_cons (ds_if (dt_eq hK hr.units (de_var 2) de_int) (dss_one (ds_ret (de_tuple hK T.g_tuple (da_cons ((dl_lc [("_law_at", 4)] rfl nd (di_range1 T.g_range (da_cons (de_var 1) da_nil)) (fun _ _ _ _ _ => (dg_name 4 nd)) (fun _ _ _ _ _ => dts_nil) (fun _ _ _ _ _ => (de_add hK de_int (de_ix hK ((dl_lc [("_law_c", 5)] rfl nd (di_range1 T.g_range (da_cons de_int da_nil)) (fun _ _ _ _ _ => (dg_name 5 nd)) (fun _ _ _ _ _ => (dts_one (dt_eq hK hr.units (de_mod (de_div (de_add hK (de_var 4) de_int) (de_ix hK ((dl_lst (da_cons de_int (da_cons de_int (da_cons de_int (da_cons de_int (da_cons de_int (da_cons de_int (da_cons de_int (da_cons de_int (da_cons de_int da_nil))))))))))).val (de_var 5))) de_int) de_int))) (fun _ _ _ _ _ => (de_var 5)))).val de_int))))).val da_nil)))) dss_nil)
    (dss_cons (ds_if (dt_eq hK hr.units (de_var 2) de_int) (dss_one (ds_ret (de_tuple hK T.g_tuple (da_cons ((dl_lc [("_law_at", 4)] rfl nd (di_range1 T.g_range (da_cons (de_var 1) da_nil)) (fun _ _ _ _ _ => (dg_name 4 nd)) (fun _ _ _ _ _ => dts_nil) (fun _ _ _ _ _ => (de_sub (de_pow de_int de_int) (de_call (ok_l_draw T) sps_K (hr.mono (by decide)) hgd T.m_l_draw T.k_l_draw T.b_l_draw (da_cons (de_var 0) (da_cons (de_var 3) da_nil))))))).val da_nil)))) dss_nil)
    (dss_one (ds_ret (de_tuple hK T.g_tuple (da_cons ((dl_lc [("_law_at", 4)] rfl nd (di_range1 T.g_range (da_cons (de_var 1) da_nil)) (fun _ _ _ _ _ => (dg_name 4 nd)) (fun _ _ _ _ _ => dts_nil) (fun _ _ _ _ _ => (de_if (dt_gt (de_var 3) de_int) (de_add hK (de_var 4) de_int) (de_sub (de_var 1) (de_var 4)))))).val da_nil)))))))))
  exact h
theorem sc_l_homes : FnScope ["_law_signs", "_law_found", "_law_at", "_law_near", "_law_spot"] ["_law_signs"] (defScope (top 7)) := ⟨rfl, rfl, rfl, by decide +kernel, rfl, by decide +kernel, by decide +kernel⟩
theorem ok_l_homes (T : Facts K mg) : FnG P w K mg base 2 T.a_l_homes T.d_l_homes ["_law_signs"] (spOf (gx K) 1 f_l_homes) := by
  have h := fng_of (P := P) (w := w) (K := K) (mg := mg) (base := base) (G := gx K) (k := 1) (N := ["_law_signs", "_law_found", "_law_at", "_law_near", "_law_spot"]) (ps := ["_law_signs"]) (fb := b_l_homes) T.F_l_homes sc_l_homes fun cdv A outer s H hr hgd => by
    have nd := sc_l_homes.nd
    have hK : K = (gx K).K := rfl
    unfold b_l_homes
    exact (dss_cons (ds_set 1 nd ((dl_lst da_nil)).own)
    (dss_cons (ds_for PassesOwn.never rfl (di_range1 T.g_range (da_cons (de_len hK T.g_len (da_cons (de_var 0) da_nil)) da_nil)) (dg_name 2 nd) (dss_cons (ds_lc false 3 [("_law_spot", 4)] rfl nd (di_range1 T.g_range (da_cons (de_var 2) da_nil)) (fun _ _ _ _ _ => (dg_name 4 nd)) (fun _ _ _ _ _ => (dts_one (dt_le (de_ix hK (de_var 0) (de_var 4)) (de_ix hK (de_var 0) (de_var 2))))) (fun _ _ _ _ _ => (de_var 4)))
    (dss_one (ds_expr (de_append hK (de_var 1) (da_cons (de_if ((dw_and (dt_ne hK hr.units (de_var 3) ((dl_lst da_nil)).val) (dw_one (dt_eq hK hr.units (de_ix hK (de_var 0) (de_ix hK (de_var 3) (de_neg de_int))) (de_ix hK (de_var 0) (de_var 2)))))).dt (de_ix hK (de_var 1) (de_ix hK (de_var 3) (de_neg de_int))) (de_add hK (de_var 2) de_int)) da_nil))))))
    (dss_one (ds_ret (de_var 1)))))
  exact h
theorem sc_l_sets : FnScope ["_law_signs", "_law_homes_here", "_law_home", "_law_at"] ["_law_signs"] (defScope (top 8)) := ⟨rfl, rfl, rfl, by decide +kernel, rfl, by decide +kernel, by decide +kernel⟩
theorem ok_l_sets (T : Facts K mg) : FnG P w K mg base 3 T.a_l_sets T.d_l_sets ["_law_signs"] (spOf (gx K) 1 f_l_sets) := by
  have h := fng_of (P := P) (w := w) (K := K) (mg := mg) (base := base) (G := gx K) (k := 2) (N := ["_law_signs", "_law_homes_here", "_law_home", "_law_at"]) (ps := ["_law_signs"]) (fb := b_l_sets) T.F_l_sets sc_l_sets fun cdv A outer s H hr hgd => by
    have nd := sc_l_sets.nd
    have hK : K = (gx K).K := rfl
    unfold b_l_sets
    exact (dss_cons (ds_set 1 nd (de_call (ok_l_homes T) sps_W (hr.mono (by decide)) hgd T.m_l_homes T.k_l_homes T.b_l_homes (da_cons (de_var 0) da_nil)))
    (dss_one (ds_ret ((dl_lc [("_law_home", 2)] rfl nd (di_seq hK ((dl_sortSet hK rfl T.g_sorted T.g_set (de_var 1))).val) (fun _ _ _ _ _ => (dg_name 2 nd)) (fun _ _ _ _ _ => dts_nil) (fun _ _ _ _ _ => (de_tuple hK T.g_tuple (da_cons ((dl_lc [("_law_at", 3)] rfl nd (di_range1 T.g_range (da_cons (de_len hK T.g_len (da_cons (de_var 0) da_nil)) da_nil)) (fun _ _ _ _ _ => (dg_name 3 nd)) (fun _ _ _ _ _ => (dts_one (dt_eq hK hr.units (de_ix hK (de_var 1) (de_var 3)) (de_var 2)))) (fun _ _ _ _ _ => (de_add hK (de_var 3) de_int)))).val da_nil))))).val)))
  exact h
theorem sc_kin : FnScope ["marks", "found", "open_sets", "gap", "mark", "gaps"] ["marks"] (defScope (top 1)) := ⟨rfl, rfl, rfl, by decide +kernel, rfl, by decide +kernel, by decide +kernel⟩
theorem ok_kin (T : Facts K mg) : FnG P w K mg base 2 T.a_kin T.d_kin ["marks"] (spOf (gx K) 1 f_kin) := by
  have h := fng_of (P := P) (w := w) (K := K) (mg := mg) (base := base) (G := gx K) (k := 1) (N := ["marks", "found", "open_sets", "gap", "mark", "gaps"]) (ps := ["marks"]) (fb := b_kin) T.F_kin sc_kin fun cdv A outer s H hr hgd => by
    have nd := sc_kin.nd
    have hK : K = (gx K).K := rfl
    unfold b_kin
    exact (dss_cons (ds_par 1 2 rfl nd (da_cons ((dl_lst da_nil)).own (da_cons ((dl_lst da_nil)).own da_nil)))
    (dss_cons (ds_for PassesOwn.never rfl (di_enumS hK T.g_enumerate (de_var 0) de_int) (dg_tup hK rfl (dgs_cons (dg_name 3 nd) (dgs_cons (dg_name 4 nd) dgs_nil))) (dss_cons (ds_while PassesOwn.never ((dw_and (dt_ne hK hr.units (de_var 2) ((dl_lst da_nil)).val) (dw_one (dt_gt (de_ix hK (de_ix hK (de_var 2) (de_neg de_int)) de_int) (de_var 4))))).dt (dss_one (ds_expr (de_append hK (de_var 1) (da_cons (de_ix hK (de_pop hK (de_var 2)) de_int) da_nil)))))
    (dss_cons (ds_if ((dw_or (dt_eq hK hr.units (de_var 2) ((dl_lst da_nil)).val) (dw_one (dt_lt (de_ix hK (de_ix hK (de_var 2) (de_neg de_int)) de_int) (de_var 4))))).dt (dss_one (ds_expr (de_append hK (de_var 2) (da_cons (de_tup (da_cons (de_var 4) (da_cons ((dl_lst da_nil)).own da_nil))) da_nil)))) dss_nil)
    (dss_one (ds_expr (de_append hK (de_ix hK (de_ix hK (de_var 2) (de_neg de_int)) de_int) (da_cons (de_var 3) da_nil)))))))
    (dss_cons (ds_expr (de_extend hK (de_var 1) (da_cons ((dl_lc [("mark", 4), ("gaps", 5)] rfl nd (di_seq hK (de_var 2)) (fun _ _ _ _ _ => (dg_tup hK rfl (dgs_cons (dg_name 4 nd) (dgs_cons (dg_name 5 nd) dgs_nil)))) (fun _ _ _ _ _ => dts_nil) (fun _ _ _ _ _ => (de_var 5)))).val da_nil)))
    (dss_one (ds_ret (de_tuple hK T.g_tuple (da_cons ((dl_sortA hK T.g_sorted (da_cons ((dl_lc [("gaps", 5)] rfl nd (di_seq hK (de_var 1)) (fun _ _ _ _ _ => (dg_name 5 nd)) (fun _ _ _ _ _ => dts_nil) (fun _ _ _ _ _ => (de_tuple hK T.g_tuple (da_cons (de_var 5) da_nil))))).val da_nil))).val da_nil)))))))
  exact h
theorem sc_l_are_told : FnScope ["_law_signs", "_law_due"] ["_law_signs"] (defScope (top 9)) := ⟨rfl, rfl, rfl, by decide +kernel, rfl, by decide +kernel, by decide +kernel⟩
theorem ok_l_are_told (T : Facts K mg) : FnG P w K mg base 4 T.a_l_are_told T.d_l_are_told ["_law_signs"] (spOf (gx K) 1 f_l_are_told) := by
  have h := fng_of (P := P) (w := w) (K := K) (mg := mg) (base := base) (G := gx K) (k := 3) (N := ["_law_signs", "_law_due"]) (ps := ["_law_signs"]) (fb := b_l_are_told) T.F_l_are_told sc_l_are_told fun cdv A outer s H hr hgd => by
    have nd := sc_l_are_told.nd
    have hK : K = (gx K).K := rfl
    unfold b_l_are_told
    exact (dss_cons (ds_set 1 nd (de_tuple hK T.g_tuple (da_cons (de_call (ok_l_sets T) sps_K (hr.mono (by decide)) hgd T.m_l_sets T.k_l_sets T.b_l_sets (da_cons (de_var 0) da_nil)) da_nil)))
    (dss_one (ds_ret (de_eq hK hr.units (de_repr hK hr.units hgd T.g_repr (da_cons ((dl_lst (da_cons (de_call (ok_kin T) sps_K (hr.mono (by decide)) hgd T.m_kin T.k_kin T.b_kin (da_cons (de_var 0) da_nil)) (da_cons (de_callK0 (ok_kin T) sps_K (hr.mono (by decide)) hgd T.m_kin T.k_kin T.kb_kin_0_marks (dk_cons (de_var 0) dk_nil)) (da_cons (de_call (ok_kin T) sps_K (hr.mono (by decide)) hgd T.m_kin T.k_kin T.b_kin (da_cons (de_var 0) da_nil)) da_nil))))).val da_nil)) (de_repr hK hr.units hgd T.g_repr (da_cons ((dl_lst (da_cons (de_var 1) (da_cons (de_var 1) (da_cons (de_var 1) da_nil))))).val da_nil))))))
  exact h
theorem sc_law : FnScope ["_law_script", "_law_deck_here", "_law_turn", "_law_far", "_law_due", "_law_signs"] ["_law_script"] (defScope (top 10)) := ⟨rfl, rfl, rfl, by decide +kernel, rfl, by decide +kernel, by decide +kernel⟩
theorem ok_law (T : Facts K mg) : FnG P w K mg base 5 T.a_law T.d_law ["_law_script"] (spOf (gx K) 1 f_law) := by
  have h := fng_of (P := P) (w := w) (K := K) (mg := mg) (base := base) (G := gx K) (k := 4) (N := ["_law_script", "_law_deck_here", "_law_turn", "_law_far", "_law_due", "_law_signs"]) (ps := ["_law_script"]) (fb := b_law) T.F_law sc_law fun cdv A outer s H hr hgd => by
    have nd := sc_law.nd
    have hK : K = (gx K).K := rfl
    unfold b_law
    exact (dss_cons (ds_set 1 nd (de_call (ok_l_deck T) sps_W (hr.mono (by decide)) hgd T.m_l_deck T.k_l_deck T.b_l_deck (da_cons (de_var 0) da_nil)))
    (dss_cons (ds_for PassesOwn.never rfl (di_range1 T.g_range (da_cons de_int da_nil)) (dg_name 2 nd) (dss_cons (ds_set 5 nd (de_call (ok_l_any_marks T) sps_K (hr.mono (by decide)) hgd T.m_l_any_marks T.k_l_any_marks T.b_l_any_marks (da_cons (de_var 1) (da_cons (de_call (ok_l_draw T) sps_K (hr.mono (by decide)) hgd T.m_l_draw T.k_l_draw T.b_l_draw (da_cons (de_var 1) (da_cons de_int da_nil))) da_nil))))
    (dss_one (ds_if ((dw_or (dt_not (dt_val (de_call (ok_l_are_told T) sps_K (hr.mono (by decide)) hgd T.m_l_are_told T.k_l_are_told T.b_l_are_told (da_cons (de_var 5) da_nil)))) (dw_or (dt_not (dt_val (de_call (ok_l_are_told T) sps_K (hr.mono (by decide)) hgd T.m_l_are_told T.k_l_are_told T.b_l_are_told (da_cons (de_add hK (de_var 5) (de_revT hK (de_var 5))) da_nil)))) (dw_one (dt_not (dt_val (de_call (ok_l_are_told T) sps_K (hr.mono (by decide)) hgd T.m_l_are_told T.k_l_are_told T.b_l_are_told (da_cons (de_add hK (de_add hK (de_tup (da_cons de_int da_nil)) (de_var 5)) (de_tup (da_cons de_int da_nil))) da_nil)))))))).dt (dss_one (ds_ret de_bl)) dss_nil))))
    (dss_cons (ds_set 3 nd (de_call (ok_l_any_marks T) sps_K (hr.mono (by decide)) hgd T.m_l_any_marks T.k_l_any_marks T.b_l_any_marks (da_cons (de_var 1) (da_cons de_int da_nil))))
    (dss_cons (ds_if ((dw_or (dt_not (dt_val (de_call (ok_l_are_told T) sps_K (hr.mono (by decide)) hgd T.m_l_are_told T.k_l_are_told T.b_l_are_told (da_cons (de_var 3) da_nil)))) (dw_or (dt_not (dt_val (de_call (ok_l_are_told T) sps_K (hr.mono (by decide)) hgd T.m_l_are_told T.k_l_are_told T.b_l_are_told (da_cons (de_tup da_nil) da_nil)))) (dw_one (dt_not (dt_val (de_call (ok_l_are_told T) sps_K (hr.mono (by decide)) hgd T.m_l_are_told T.k_l_are_told T.b_l_are_told (da_cons (de_tup (da_cons (de_pow de_int de_int) da_nil)) da_nil)))))))).dt (dss_one (ds_ret de_bl)) dss_nil)
    (dss_cons (ds_set 4 nd (de_tup (da_cons (de_tup (da_cons de_int da_nil)) (da_cons (de_tup (da_cons de_int (da_cons de_int da_nil))) (da_cons (de_tup (da_cons de_int (da_cons de_int da_nil))) (da_cons (de_tup (da_cons de_int da_nil)) (da_cons (de_tup (da_cons de_int da_nil)) (da_cons (de_tup (da_cons de_int da_nil)) da_nil))))))))
    (dss_one (ds_ret (de_eq hK hr.units (de_repr hK hr.units hgd T.g_repr (da_cons (de_call (ok_kin T) sps_K (hr.mono (by decide)) hgd T.m_kin T.k_kin T.b_kin (da_cons (de_tup (da_cons de_int (da_cons de_int (da_cons de_int (da_cons de_int (da_cons de_int (da_cons de_int (da_cons de_int (da_cons de_int da_nil))))))))) da_nil)) da_nil)) (de_repr hK hr.units hgd T.g_repr (da_cons (de_var 4) da_nil))))))))))
  exact h
end
def dd_l_deck : He.DefD := ⟨("_law_deck", none), "_law_deck", "_law_deck", defArgs (top 3), defBody (top 3), defScope (top 3), [], []⟩
def dd_l_draw : He.DefD := ⟨("_law_draw", none), "_law_draw", "_law_draw", defArgs (top 4), defBody (top 4), defScope (top 4), [], []⟩
def dd_l_any_marks : He.DefD := ⟨("_law_any_marks", none), "_law_any_marks", "_law_any_marks", defArgs (top 6), defBody (top 6), defScope (top 6), [], []⟩
def dd_l_homes : He.DefD := ⟨("_law_homes", none), "_law_homes", "_law_homes", defArgs (top 7), defBody (top 7), defScope (top 7), [], []⟩
def dd_l_sets : He.DefD := ⟨("_law_sets", none), "_law_sets", "_law_sets", defArgs (top 8), defBody (top 8), defScope (top 8), [], []⟩
def dd_kin : He.DefD := ⟨("kin", none), "kin", "kin", defArgs (top 1), defBody (top 1), defScope (top 1), [], []⟩
def dd_l_are_told : He.DefD := ⟨("_law_are_told", none), "_law_are_told", "_law_are_told", defArgs (top 9), defBody (top 9), defScope (top 9), [], []⟩
def dd_law : He.DefD := ⟨("law", none), "law", "law", defArgs (top 10), defBody (top 10), defScope (top 10), [], []⟩
def fn : List He.DefD := [dd_l_deck, dd_l_draw, dd_l_any_marks, dd_l_homes, dd_l_sets, dd_kin, dd_l_are_told, dd_law]
def fa : List He.Fa := [.glo "_law_deck", .glo "_law_draw", .glo "_law_any_marks", .glo "_law_homes", .glo "_law_sets", .glo "kin", .glo "_law_are_told", .glo "law", .free "enumerate", .free "int", .free "len", .free "list", .free "range", .free "repr", .free "set", .free "sorted", .free "tuple"]
abbrev R : PySem.W.OpenRow := PySem.W.OpenLaw.row PySem.Challenge.rw_flatforest_k17_sets_of_kin
abbrev hk : PySem.W.Hook := He.hookD 4 fa fn
def ob (s : PySem.W.SharedT) : He.AlD := He.obsDG 4 fa fn (HandSHeadRun.getT s)
theorem ob_eq (s : PySem.W.SharedT) : ob s = hk.obs s.abs := He.obsDG_eq (HandSHeadRun.getT_eq s)
def loose : List Str := ["kin", "_law_deck", "_law_draw", "_law_pick", "_law_any_marks", "_law_homes", "_law_sets", "_law_are_told"]
theorem run (w : World) : HandSHeadRun.RunEq R (PySem.W.view R.prog [10]) hk ob 4000 loose w := by
  intro os
  kernel_rfl
theorem facts {P : Program} {w : World} {K : PySem.W.Frag} {h : Heap} {mg : Str → Option Value} {f : Addr} (X : K.In h) (G : h.Ns mainGlobals mg) (hfa : mg ("law" : Str) = some (.ref f)) (c : He.SaysD fa fn K) :
    ∃ fd : FuncData, (∀ (s : Shared) (v : Value), BindsTo s fd ⟨[v], []⟩ [("_law_script", v)]) ∧ ∀ base : Heap, K.In base → base.Ns mainGlobals mg → FnG P w K mg base 5 f fd ["_law_script"] (spOf (gx K) 1 f_law) := by
  obtain ⟨e_l_deck, F_l_deck⟩ := c.def_ 0 (d := dd_l_deck) rfl
  have G_l_deck : Fun K "_law_deck" "_law_deck" (top 3) (He.ga K "_law_deck") e_l_deck := funOf F_l_deck
  obtain ⟨e_l_draw, F_l_draw⟩ := c.def_ 1 (d := dd_l_draw) rfl
  have G_l_draw : Fun K "_law_draw" "_law_draw" (top 4) (He.ga K "_law_draw") e_l_draw := funOf F_l_draw
  obtain ⟨e_l_any_marks, F_l_any_marks⟩ := c.def_ 2 (d := dd_l_any_marks) rfl
  have G_l_any_marks : Fun K "_law_any_marks" "_law_any_marks" (top 6) (He.ga K "_law_any_marks") e_l_any_marks := funOf F_l_any_marks
  obtain ⟨e_l_homes, F_l_homes⟩ := c.def_ 3 (d := dd_l_homes) rfl
  have G_l_homes : Fun K "_law_homes" "_law_homes" (top 7) (He.ga K "_law_homes") e_l_homes := funOf F_l_homes
  obtain ⟨e_l_sets, F_l_sets⟩ := c.def_ 4 (d := dd_l_sets) rfl
  have G_l_sets : Fun K "_law_sets" "_law_sets" (top 8) (He.ga K "_law_sets") e_l_sets := funOf F_l_sets
  obtain ⟨e_kin, F_kin⟩ := c.def_ 5 (d := dd_kin) rfl
  have G_kin : Fun K "kin" "kin" (top 1) (He.ga K "kin") e_kin := funOf F_kin
  obtain ⟨e_l_are_told, F_l_are_told⟩ := c.def_ 6 (d := dd_l_are_told) rfl
  have G_l_are_told : Fun K "_law_are_told" "_law_are_told" (top 9) (He.ga K "_law_are_told") e_l_are_told := funOf F_l_are_told
  obtain ⟨e_law, F_law⟩ := c.def_ 7 (d := dd_law) rfl
  have G_law : Fun K "law" "law" (top 10) (He.ga K "law") e_law := funOf F_law
  let T : Facts K mg := {
    a_l_deck := He.ga K "_law_deck",
    d_l_deck := e_l_deck,
    F_l_deck := G_l_deck,
    m_l_deck := He.glo_ok X G (c.fact 0 (f := .glo "_law_deck") rfl),
    k_l_deck := G_l_deck.kp,
    b_l_deck := G_l_deck.binds (ps := ["_law_script"]) fun _ _ _ _ _ _ us hl => match us, hl with | [_], _ => rfl,
    a_l_draw := He.ga K "_law_draw",
    d_l_draw := e_l_draw,
    F_l_draw := G_l_draw,
    m_l_draw := He.glo_ok X G (c.fact 1 (f := .glo "_law_draw") rfl),
    k_l_draw := G_l_draw.kp,
    b_l_draw := G_l_draw.binds (ps := ["_law_deck_here", "_law_size"]) fun _ _ _ _ _ _ us hl => match us, hl with | [_, _], _ => rfl,
    a_l_any_marks := He.ga K "_law_any_marks",
    d_l_any_marks := e_l_any_marks,
    F_l_any_marks := G_l_any_marks,
    m_l_any_marks := He.glo_ok X G (c.fact 2 (f := .glo "_law_any_marks") rfl),
    k_l_any_marks := G_l_any_marks.kp,
    b_l_any_marks := G_l_any_marks.binds (ps := ["_law_deck_here", "_law_count"]) fun _ _ _ _ _ _ us hl => match us, hl with | [_, _], _ => rfl,
    a_l_homes := He.ga K "_law_homes",
    d_l_homes := e_l_homes,
    F_l_homes := G_l_homes,
    m_l_homes := He.glo_ok X G (c.fact 3 (f := .glo "_law_homes") rfl),
    k_l_homes := G_l_homes.kp,
    b_l_homes := G_l_homes.binds (ps := ["_law_signs"]) fun _ _ _ _ _ _ us hl => match us, hl with | [_], _ => rfl,
    a_l_sets := He.ga K "_law_sets",
    d_l_sets := e_l_sets,
    F_l_sets := G_l_sets,
    m_l_sets := He.glo_ok X G (c.fact 4 (f := .glo "_law_sets") rfl),
    k_l_sets := G_l_sets.kp,
    b_l_sets := G_l_sets.binds (ps := ["_law_signs"]) fun _ _ _ _ _ _ us hl => match us, hl with | [_], _ => rfl,
    a_kin := He.ga K "kin",
    d_kin := e_kin,
    F_kin := G_kin,
    m_kin := He.glo_ok X G (c.fact 5 (f := .glo "kin") rfl),
    k_kin := G_kin.kp,
    b_kin := G_kin.binds (ps := ["marks"]) fun _ _ _ _ _ _ us hl => match us, hl with | [_], _ => rfl,
    a_l_are_told := He.ga K "_law_are_told",
    d_l_are_told := e_l_are_told,
    F_l_are_told := G_l_are_told,
    m_l_are_told := He.glo_ok X G (c.fact 6 (f := .glo "_law_are_told") rfl),
    k_l_are_told := G_l_are_told.kp,
    b_l_are_told := G_l_are_told.binds (ps := ["_law_signs"]) fun _ _ _ _ _ _ us hl => match us, hl with | [_], _ => rfl,
    a_law := He.ga K "law",
    d_law := e_law,
    F_law := G_law,
    m_law := He.glo_ok X G (c.fact 7 (f := .glo "law") rfl),
    k_law := G_law.kp,
    b_law := G_law.binds (ps := ["_law_script"]) fun _ _ _ _ _ _ us hl => match us, hl with | [_], _ => rfl,
    kb_kin_0_marks := kb_of G_kin fun _ _ _ _ _ _ us ws h1 h2 => match us, ws, h1, h2 with | [], [_], _, _ => rfl,
    g_enumerate := He.free_ok X G (c.fact 8 (f := .free "enumerate") rfl),
    g_int := He.free_ok X G (c.fact 9 (f := .free "int") rfl),
    g_len := He.free_ok X G (c.fact 10 (f := .free "len") rfl),
    g_list := He.free_ok X G (c.fact 11 (f := .free "list") rfl),
    g_range := He.free_ok X G (c.fact 12 (f := .free "range") rfl),
    g_repr := He.free_ok X G (c.fact 13 (f := .free "repr") rfl),
    g_set := He.free_ok X G (c.fact 14 (f := .free "set") rfl),
    g_sorted := He.free_ok X G (c.fact 15 (f := .free "sorted") rfl),
    g_tuple := He.free_ok X G (c.fact 16 (f := .free "tuple") rfl) }
  have e := hfa.symm.trans T.m_law
  cases e
  exact ⟨e_law, fun s v => FunD.bindsA F_law (ps := ["_law_script"]) (fun _ _ _ _ _ _ us hl => match us, hl with | [_], _ => rfl) s [v] rfl, fun base _ _ => ok_law T⟩
end W

set_option Elab.async false
set_option maxRecDepth 100000
set_option linter.all false
/-! FdP: the plain half: what a reckoned thing comes to, from a small heap (Run), by rules that simp can use. -/
namespace FD
open PySem PySem.Spec L2

/-- m, begun at ph, comes to something, and that and the heap behind are as Q says -/
def Run {α : Type} (m : R α) (ph : PH) (Q : α → PH → Prop) : Prop := ∃ a ph1, m ph = some (a, ph1) ∧ Q a ph1
section
variable {α β : Type} {ph : PH}
theorem Run.mono {m : R α} {Q Q' : α → PH → Prop} (h : Run m ph Q) (w : ∀ a ph1, Q a ph1 → Q' a ph1) : Run m ph Q' := let ⟨a, p, e, q⟩ := h; ⟨a, p, e, w a p q⟩
theorem run_bnd {m : R α} {k : α → R β} {Q : β → PH → Prop} : Run (bnd m k) ph Q ↔ Run m ph fun a ph1 => Run (k a) ph1 Q := by
  constructor
  · rintro ⟨b, p, e, q⟩
    obtain ⟨a, p1, e1, e2⟩ := bnd_some e
    exact ⟨a, p1, e1, b, p, e2, q⟩
  · rintro ⟨a, p1, e1, b, p, e2, q⟩
    exact ⟨b, p, bnd_mk e1 e2, q⟩
theorem run_ret {a : α} {Q : α → PH → Prop} : Run (ret a) ph Q ↔ Q a ph := by
  constructor
  · rintro ⟨b, p, e, q⟩
    obtain ⟨rfl, rfl⟩ := ret_some e
    exact q
  · exact fun q => ⟨a, ph, rfl, q⟩
theorem run_some {a : α} {Q : α → PH → Prop} : Run (lift (some a)) ph Q ↔ Q a ph := run_ret
theorem run_none {Q : α → PH → Prop} : Run (lift none) ph Q ↔ False := ⟨fun ⟨_, _, e, _⟩ => (nomatch (show (none : Option (α × PH)) = some _ from e)), False.elim⟩
theorem run_fail {Q : α → PH → Prop} : Run (fun _ => none) ph Q ↔ False := ⟨fun ⟨_, _, e, _⟩ => (nomatch e), False.elim⟩
theorem run_ite {c : Prop} [Decidable c] {m n : R α} {Q : α → PH → Prop} : Run (if c then m else n) ph Q ↔ (c → Run m ph Q) ∧ (¬ c → Run n ph Q) := by
  by_cases h : c
  · simp [h]
  · simp [h]
theorem run_eq {m : R α} {a : α} {p : PH} {Q : α → PH → Prop} (e : m ph = some (a, p)) : Run m ph Q ↔ Q a p := by
  constructor
  · rintro ⟨b, p', e', q⟩
    rw [e] at e'
    cases e'
    exact q
  · exact fun q => ⟨a, p, e, q⟩
theorem Run.of {m : R α} {a : α} {p : PH} {Q : α → PH → Prop} (e : m ph = some (a, p)) (q : Q a p) : Run m ph Q := ⟨a, p, e, q⟩
end
section
variable {ph : PH} {Q : D → PH → Prop} {i j : Int}
theorem run_addI : Run (gAdd (.int i) (.int j)) ph Q ↔ Q (.int (i + j)) ph := run_ret
theorem run_addT {l m : List D} : Run (gAdd (.tup l) (.tup m)) ph Q ↔ l.length + m.length ≤ sizeLine ∧ Q (.tup (l ++ m)) ph := by
  have e : gAdd (.tup l) (.tup m) ph = if l.length + m.length ≤ sizeLine then some (.tup (l ++ m), ph) else none := rfl
  by_cases h : l.length + m.length ≤ sizeLine
  · rw [if_pos h] at e
    rw [run_eq e]
    exact ⟨fun q => ⟨h, q⟩, fun q => q.2⟩
  · rw [if_neg h] at e
    exact ⟨fun ⟨a, p, e', q⟩ => (by rw [e] at e'; cases e'), fun q => absurd q.1 h⟩
theorem run_sub : Run (gSub (.int i) (.int j)) ph Q ↔ Q (.int (i - j)) ph := run_ret
theorem run_iteO {o : Option D} {c : Prop} [Decidable c] {d : D} : Run (lift (if c then some d else none)) ph Q ↔ c ∧ Q d ph := by
  by_cases h : c
  · simp [h, run_some]
  · simp [h, run_none]
theorem run_mul : Run (gMul (.int i) (.int j)) ph Q ↔ mulOk i j ∧ Q (.int (i * j)) ph := run_iteO (o := none)
theorem run_div : Run (gDiv (.int i) (.int j)) ph Q ↔ divOk j ∧ Q (.int (i / j)) ph := run_iteO (o := none)
theorem run_mod : Run (gMod (.int i) (.int j)) ph Q ↔ 0 < j ∧ Q (.int (i % j)) ph := run_iteO (o := none)
theorem run_pow : Run (gPow (.int i) (.int j)) ph Q ↔ (0 ≤ j ∧ j ≤ 1000000 ∧ i.natAbs < 2 ^ 64) ∧ Q (.int (i ^ j.toNat)) ph := run_iteO (o := none)
theorem run_lt : Run (gLt (.int i) (.int j)) ph Q ↔ Q (.bl (decide (i < j))) ph := run_ret
theorem run_le : Run (gLe (.int i) (.int j)) ph Q ↔ Q (.bl (decide (i ≤ j))) ph := run_ret
theorem run_gt : Run (gGt (.int i) (.int j)) ph Q ↔ Q (.bl (decide (j < i))) ph := run_ret
theorem run_ge : Run (gGe (.int i) (.int j)) ph Q ↔ Q (.bl (decide (j ≤ i))) ph := run_ret
theorem run_neg : Run (lift (gNeg (.int i))) ph Q ↔ Q (.int (-i)) ph := run_ret
theorem run_toInt : Run (gInt [.int i]) ph Q ↔ Q (.int i) ph := run_ret
/-- x[i] of a list or a tuple -/
theorem run_ix {x : D} {l : List D} {d : D} (h : sview x ph = some l) (e : atI l i = some d) : Run (gIxS x (.int i)) ph Q ↔ Q d ph := by
  refine run_eq ?_
  show (match sview x ph with | some l => (match atI l i with | some d => some (d, ph) | none => none) | none => _) = _
  rw [h]
  simp only
  rw [e]
theorem run_len {x : D} {l : List D} (h : sview x ph = some l) : Run (gLen [x]) ph Q ↔ Q (.int l.length) ph := by
  refine run_eq ?_
  show gLen1 x ph = _
  unfold gLen1
  rw [h]
theorem atI_nat' {l : List D} {k : Nat} : atI l (k : Int) = l[k]? := by
  unfold atI ixN
  by_cases h : (k : Int) < (l.length : Int)
  · rw [if_pos (by omega), if_pos h]
    simp
  · rw [if_pos (by omega), if_neg h]
    simp
    omega
theorem atI_last' {l : List D} {d : D} : atI (l ++ [d]) (-1) = some d := L2.atI_last l d
theorem run_append {n : Nat} {y : D} {l : List D} (h : moL ph[n]? = some l) : Run (gAppend (.ref n) [y]) ph Q ↔ l.length < sizeLine ∧ Q .non (ph.set n (.lst (l ++ [y]))) := by
  have e : gAppend (.ref n) [y] ph = if l.length < sizeLine then some (.non, ph.set n (.lst (l ++ [y]))) else none := by
    show (match moL ph[n]? with | some l => if l.length < sizeLine then some (D.non, ph.set n (.lst (l ++ [y]))) else none | none => none) = _
    rw [h]
  by_cases c : l.length < sizeLine
  · rw [if_pos c] at e
    rw [run_eq e]
    exact ⟨fun q => ⟨c, q⟩, fun q => q.2⟩
  · rw [if_neg c] at e
    exact ⟨fun ⟨a, p, e', q⟩ => (by rw [e] at e'; cases e'), fun q => absurd q.1 c⟩
theorem run_pop {n : Nat} {y : D} {l : List D} (h : moL ph[n]? = some (l ++ [y])) : Run (gPop (.ref n)) ph Q ↔ Q y (ph.set n (.lst l)) := by
  refine run_eq ?_
  show (match moL ph[n]? with | some l => (match l[l.length - 1]? with | some y => some (y, ph.set n (.lst l.dropLast)) | none => none) | none => none) = _
  rw [h]
  simp
theorem run_extend {n : Nat} {y : D} {l m : List D} (h : moL ph[n]? = some l) (h2 : lview y ph = some m) : Run (gExtend (.ref n) [y]) ph Q ↔ l.length + m.length ≤ sizeLine ∧ Q .non (ph.set n (.lst (l ++ m))) := by
  have e : gExtend (.ref n) [y] ph = if l.length + m.length ≤ sizeLine then some (.non, ph.set n (.lst (l ++ m))) else none := by
    show (match moL ph[n]?, lview y ph with | some l, some m => if l.length + m.length ≤ sizeLine then some (D.non, ph.set n (.lst (l ++ m))) else none | _, _ => none) = _
    rw [h, h2]
  by_cases c : l.length + m.length ≤ sizeLine
  · rw [if_pos c] at e
    rw [run_eq e]
    exact ⟨fun q => ⟨c, q⟩, fun q => q.2⟩
  · rw [if_neg c] at e
    exact ⟨fun ⟨a, p, e', q⟩ => (by rw [e] at e'; cases e'), fun q => absurd q.1 c⟩
theorem run_put {n j : Nat} {z : D} {l : List D} {Q : Unit → PH → Prop} (h : moL ph[n]? = some l) (e : ixN l.length i = some j) : Run (gPut (.ref n) (.int i) z) ph Q ↔ Q () (ph.set n (.lst (l.set j z))) := by
  refine run_eq ?_
  show (match moL ph[n]? with | some l => (match ixN l.length i with | some j => some ((), ph.set n (.lst (l.set j z))) | none => none) | none => none) = _
  rw [h]
  simp only
  rw [e]
theorem run_own {f : FA} {σ : Sg} : Run (fOwn f σ) ph Q ↔ Run (f σ) ph fun ds ph1 => Q (.ref ph1.length) (ph1 ++ [.lst ds]) := by
  have e : fOwn f σ ph = match f σ ph with | some (ds, ph1) => some (.ref ph1.length, ph1 ++ [.lst ds]) | none => none := rfl
  constructor
  · rintro ⟨d, p, e1, q⟩
    rw [e] at e1
    cases h : f σ ph with
    | none => rw [h] at e1; cases e1
    | some x =>
      rw [h] at e1
      cases e1
      exact ⟨_, _, h, q⟩
  · rintro ⟨ds, p, h, q⟩
    rw [h] at e
    exact ⟨_, _, e, q⟩
theorem run_tuple {x : D} {l : List D} (h : sview x ph = some l) : Run (gTuple [x]) ph Q ↔ Q (.tup l) ph := by
  refine run_eq ?_
  show gTuple1 x ph = _
  unfold gTuple1
  rw [h]
theorem run_list {x : D} {l : List D} {Q : List D → PH → Prop} (h : sview x ph = some l) : Run (gList [x]) ph Q ↔ Q l ph := by
  refine run_eq ?_
  show gList1 x ph = _
  unfold gList1
  rw [h]
theorem run_eqB {x y : D} {p q : PyData} (h1 : pyF eqDeep ph x = some p) (h2 : pyF eqDeep ph y = some q) (s1 : SeqAt.shaped p = true) (s2 : SeqAt.shaped q = true) (ns : ∀ s, x ≠ .str s) : Run (gEq x y) ph Q ↔ Q (.bl (PyData.eqv p q)) ph := by
  refine run_eq ?_
  refine bnd_mk (a := PyData.eqv p q) (ph1 := ph) ?_ rfl
  have : gEqB x y = gEqD x y := by
    unfold gEqB
    split
    · exact absurd rfl (ns _)
    · rfl
  rw [this]
  unfold gEqD
  rw [h1, h2]
  simp only
  rw [if_pos ⟨s1, s2⟩]
theorem run_neB {x y : D} {p q : PyData} (h1 : pyF eqDeep ph x = some p) (h2 : pyF eqDeep ph y = some q) (s1 : SeqAt.shaped p = true) (s2 : SeqAt.shaped q = true) (ns : ∀ s, x ≠ .str s) : Run (gNe x y) ph Q ↔ Q (.bl (!PyData.eqv p q)) ph := by
  refine run_eq ?_
  refine bnd_mk (a := PyData.eqv p q) (ph1 := ph) ?_ rfl
  have : gEqB x y = gEqD x y := by
    unfold gEqB
    split
    · exact absurd rfl (ns _)
    · rfl
  rw [this]
  unfold gEqD
  rw [h1, h2]
  simp only
  rw [if_pos ⟨s1, s2⟩]
theorem run_eqS {s t : Str} : Run (gEq (.str s) (.str t)) ph Q ↔ Q (.bl (decide (s = t))) ph := run_eq (bnd_mk (a := decide (s = t)) (ph1 := ph) rfl rfl)
theorem pyF_int {n : Nat} {i : Int} : pyF n ph (.int i) = some (.int i) := by cases n <;> rfl
theorem run_eqI : Run (gEq (.int i) (.int j)) ph Q ↔ Q (.bl (i == j)) ph := run_eqB (p := .int i) (q := .int j) pyF_int pyF_int rfl rfl (fun _ h => nomatch h)
theorem run_neI : Run (gNe (.int i) (.int j)) ph Q ↔ Q (.bl (!(i == j))) ph := run_neB (p := .int i) (q := .int j) pyF_int pyF_int rfl rfl (fun _ h => nomatch h)
end

/-! ### loops -/
section
open Classical
theorem run_for {gd : Option Nat} {ds0 : List D} {g : D → Sg → Option Sg} {b : FS} {Q : Out → PH → Prop} (I : Nat → Sg → PH → Prop) : ∀ (ds : List D) (i : Nat) (σ : Sg) (ph : PH), I i σ ph →
    (∀ k σ ph, I k σ ph → stands gd ds0 ph) →
    (∀ k d σ ph, ds[k]? = some d → I (i + k) σ ph → ∃ σ1, g d σ = some σ1 ∧ Run (b σ1) ph fun o ph1 => match o with
      | .nx σ2 => I (i + k + 1) σ2 ph1
      | .ct σ2 => I (i + k + 1) σ2 ph1
      | .bk σ2 => Q (.nx σ2) ph1
      | .rt d => Q (.rt d) ph1) →
    (∀ σ ph, I (i + ds.length) σ ph → Q (.nx σ) ph) → Run (forD gd ds0 g b ds σ) ph Q
  | [], i, σ, ph, h, st, _, done => by
    refine Run.of (a := .nx σ) (p := ph) ?_ (done σ ph h)
    show (if stands gd ds0 ph then some (Out.nx σ, ph) else none) = _
    rw [if_pos (st _ _ _ h)]
  | d :: r, i, σ, ph, h, st, step, done => by
    obtain ⟨σ1, e1, o, ph1, e2, q⟩ := step 0 d σ ph rfl h
    have rest : ∀ σ2 ph2, I (i + 1) σ2 ph2 → Run (forD gd ds0 g b r σ2) ph2 Q := fun σ2 ph2 h2 =>
      run_for I r (i + 1) σ2 ph2 h2 st (fun k d' σ' ph' e h' => by
        have := step (k + 1) d' σ' ph' (by simpa using e) (by rw [show i + (k + 1) = i + 1 + k by omega]; exact h')
        rw [show i + (k + 1) + 1 = i + 1 + k + 1 by omega] at this
        exact this) (fun σ' ph' h' => done σ' ph' (by rw [List.length_cons, show i + (r.length + 1) = i + 1 + r.length by omega]; exact h'))
    have key : forD gd ds0 g b (d :: r) σ ph = bnd (lift (g d σ)) (fun σ1 => bnd (b σ1) fun o => match o with
      | .nx σ2 => forD gd ds0 g b r σ2
      | .ct σ2 => forD gd ds0 g b r σ2
      | .bk σ2 => ret (.nx σ2)
      | .rt d => ret (.rt d)) ph := by
      refine (if_pos (st _ _ _ h)).trans ?_
      rfl
    have : Run (bnd (lift (g d σ)) (fun σ1 => bnd (b σ1) fun o => match o with
      | .nx σ2 => forD gd ds0 g b r σ2
      | .ct σ2 => forD gd ds0 g b r σ2
      | .bk σ2 => ret (.nx σ2)
      | .rt d => ret (.rt d))) ph Q := by
      rw [e1, run_bnd, run_some, run_bnd]
      refine ⟨o, ph1, e2, ?_⟩
      cases o with
      | nx σ2 => exact rest σ2 ph1 q
      | ct σ2 => exact rest σ2 ph1 q
      | bk σ2 => exact run_ret.mpr q
      | rt d => exact run_ret.mpr q
    obtain ⟨o', p', e', q'⟩ := this
    exact ⟨o', p', key.trans e', q'⟩
theorem run_lc {gd : Option Nat} {ds0 : List D} {g : D → Sg → Option Sg} {ft : FT} {fe : FE} {σw : Sg} {Q : List D → PH → Prop} (J : Nat → List D → PH → Prop) : ∀ (ds acc : List D) (i : Nat) (ph : PH), J i acc ph →
    (∀ k acc ph, J k acc ph → stands gd ds0 ph ∧ acc.length ≤ k) → i + ds.length ≤ sizeLine →
    (∀ k d acc ph, ds[k]? = some d → J (i + k) acc ph → ∃ σ1, g d σw = some σ1 ∧ Run (ft σ1) ph fun b ph1 => if b = true then Run (fe σ1) ph1 fun y ph2 => J (i + k + 1) (acc ++ [y]) ph2 else J (i + k + 1) acc ph1) →
    (∀ acc ph, J (i + ds.length) acc ph → Q acc ph) → Run (lcD gd ds0 g ft fe σw ds acc) ph Q
  | [], acc, i, ph, h, st, _, _, done => by
    refine Run.of (a := acc) (p := ph) ?_ (done acc ph h)
    show (if stands gd ds0 ph then some (acc, ph) else none) = _
    rw [if_pos (st _ _ _ h).1]
  | d :: r, acc, i, ph, h, st, hz, step, done => by
    obtain ⟨σ1, e1, b, ph1, e2, q⟩ := step 0 d acc ph rfl h
    rw [List.length_cons] at hz
    have rest : ∀ acc2 ph2, J (i + 1) acc2 ph2 → Run (lcD gd ds0 g ft fe σw r acc2) ph2 Q := fun acc2 ph2 h2 =>
      run_lc J r acc2 (i + 1) ph2 h2 st (by omega) (fun k d' acc' ph' e h' => by
        have := step (k + 1) d' acc' ph' (by simpa using e) (by rw [show i + (k + 1) = i + 1 + k by omega]; exact h')
        rw [show i + (k + 1) + 1 = i + 1 + k + 1 by omega] at this
        exact this) (fun acc' ph' h' => done acc' ph' (by rw [List.length_cons, show i + (r.length + 1) = i + 1 + r.length by omega]; exact h'))
    have key : lcD gd ds0 g ft fe σw (d :: r) acc ph = bnd (lift (g d σw)) (fun σ1 => bnd (ft σ1) fun b => if b = true then bnd (fe σ1) fun y => if acc.length < sizeLine then lcD gd ds0 g ft fe σw r (acc ++ [y]) else fun _ => none
      else lcD gd ds0 g ft fe σw r acc) ph := by
      refine (if_pos (st _ _ _ h).1).trans ?_
      rfl
    have : Run (bnd (lift (g d σw)) (fun σ1 => bnd (ft σ1) fun b => if b = true then bnd (fe σ1) fun y => if acc.length < sizeLine then lcD gd ds0 g ft fe σw r (acc ++ [y]) else fun _ => none
      else lcD gd ds0 g ft fe σw r acc)) ph Q := by
      rw [e1, run_bnd, run_some, run_bnd]
      refine ⟨b, ph1, e2, ?_⟩
      dsimp only
      cases b with
      | false =>
        rw [if_neg Bool.false_ne_true] at q ⊢
        exact rest acc ph1 q
      | true =>
        rw [if_pos rfl] at q ⊢
        obtain ⟨y, ph2, e3, q⟩ := q
        rw [run_bnd]
        refine ⟨y, ph2, e3, ?_⟩
        have : acc.length < sizeLine := by have := (st _ _ _ h).2; omega
        dsimp only
        rw [if_pos this]
        exact rest (acc ++ [y]) ph2 q
    obtain ⟨o', p', e', q'⟩ := this
    exact ⟨o', p', key.trans e', q'⟩
/-- a comprehension whose parts change nothing -/
theorem run_lcP {gd : Option Nat} {ds0 : List D} {g : D → Sg → Option Sg} {ft : FT} {fe : FE} {σw : Sg} {Q : List D → PH → Prop} {ph : PH} (p : D → Bool) (v : D → D) (ds : List D) (st : stands gd ds0 ph) (hz : ds.length ≤ sizeLine)
    (h : ∀ (k : Nat) (d : D), ds[k]? = some d → ∃ σ1, g d σw = some σ1 ∧ Run (ft σ1) ph fun b ph1 => b = p d ∧ ph1 = ph ∧ (b = true → Run (fe σ1) ph fun y ph2 => y = v d ∧ ph2 = ph))
    (q : Q ((ds.filter p).map v) ph) : Run (lcD gd ds0 g ft fe σw ds []) ph Q := by
  refine run_lc (fun k acc ph' => ph' = ph ∧ acc = ((ds.take k).filter p).map v ∧ k ≤ ds.length) ds [] 0 ph ⟨rfl, by simp, Nat.zero_le _⟩ (fun k acc ph' ⟨h1, h2, h3⟩ => ⟨h1 ▸ st, ?_⟩) (by omega) (fun k d acc ph' e ⟨h1, h2, h3⟩ => ?_) (fun acc ph' ⟨h1, h2, h3⟩ => ?_)
  · rw [h2, List.length_map]
    exact Nat.le_trans (List.length_filter_le _ _) (by rw [List.length_take]; omega)
  · subst h1
    rw [Nat.zero_add] at h2 h3 ⊢
    have hk := (List.getElem?_eq_some_iff.mp e).1
    have ht : ds.take (k + 1) = ds.take k ++ [d] := by rw [List.take_add_one, e]; rfl
    obtain ⟨σ1, e1, r⟩ := h k d e
    refine ⟨σ1, e1, r.mono fun b ph1 ⟨hb, hp, hr⟩ => ?_⟩
    subst hp
    cases b with
    | false =>
      rw [if_neg Bool.false_ne_true]
      refine ⟨rfl, ?_, hk⟩
      rw [ht, List.filter_append, List.map_append, ← h2]
      simp [← hb]
    | true =>
      rw [if_pos rfl]
      refine (hr rfl).mono fun y ph2 ⟨hy, hp2⟩ => ⟨hp2, ?_, hk⟩
      rw [ht, List.filter_append, List.map_append, ← h2]
      simp [← hb, hy]
  · subst h1
    rw [Nat.zero_add, List.take_length] at h2
    rw [h2]
    exact q
/-- a while: an invariant and a measure -/
theorem run_while {c : FT} {b : FS} {Q : Out → PH → Prop} (W : Nat → Sg → PH → Prop) (step : ∀ m σ ph, W m σ ph → Run (c σ) ph fun t ph1 => if t = true then Run (b σ) ph1 fun o ph2 => match o with
      | .nx σ1 => ∃ m', m' < m ∧ W m' σ1 ph2
      | .ct σ1 => ∃ m', m' < m ∧ W m' σ1 ph2
      | .bk σ1 => Q (.nx σ1) ph2
      | .rt d => Q (.rt d) ph2
    else Q (.nx σ) ph1) (m : Nat) (σ : Sg) (ph : PH) (h : W m σ ph) : Run (sWhile c b σ) ph Q := by
  have key : ∀ (n m : Nat), m ≤ n → ∀ σ ph, W m σ ph → ∃ k, Run (iterW c b k σ) ph Q := by
    intro n
    induction n with
    | zero =>
      intro m hm σ ph h
      obtain ⟨t, ph1, e1, q⟩ := step m σ ph h
      cases t with
      | false => exact ⟨1, run_bnd.mpr ⟨_, _, e1, by dsimp only; rw [if_neg Bool.false_ne_true] at q ⊢; exact run_ret.mpr q⟩⟩
      | true =>
        rw [if_pos rfl] at q
        obtain ⟨o, ph2, e2, q⟩ := q
        have fin : ∀ k, (∀ σ1, (o = .nx σ1 ∨ o = .ct σ1) → False) → Run (iterW c b (k + 1) σ) ph Q := fun k no => run_bnd.mpr ⟨_, _, e1, by
          dsimp only
          rw [if_pos rfl]
          refine run_bnd.mpr ⟨o, ph2, e2, ?_⟩
          cases o with
          | nx σ1 => exact (no σ1 (.inl rfl)).elim
          | ct σ1 => exact (no σ1 (.inr rfl)).elim
          | bk σ1 => exact run_ret.mpr q
          | rt d => exact run_ret.mpr q⟩
        refine ⟨1, fin 0 fun σ1 ho => ?_⟩
        rcases ho with rfl | rfl
        · obtain ⟨m', hm', _⟩ := q; omega
        · obtain ⟨m', hm', _⟩ := q; omega
    | succ n ih =>
      intro m hm σ ph h
      obtain ⟨t, ph1, e1, q⟩ := step m σ ph h
      cases t with
      | false => exact ⟨1, run_bnd.mpr ⟨_, _, e1, by dsimp only; rw [if_neg Bool.false_ne_true] at q ⊢; exact run_ret.mpr q⟩⟩
      | true =>
        rw [if_pos rfl] at q
        obtain ⟨o, ph2, e2, q⟩ := q
        cases o with
        | nx σ1 =>
          obtain ⟨m', hm', w⟩ := q
          obtain ⟨k, r⟩ := ih m' (by omega) σ1 ph2 w
          exact ⟨k + 1, run_bnd.mpr ⟨_, _, e1, by dsimp only; rw [if_pos rfl]; exact run_bnd.mpr ⟨_, _, e2, r⟩⟩⟩
        | ct σ1 =>
          obtain ⟨m', hm', w⟩ := q
          obtain ⟨k, r⟩ := ih m' (by omega) σ1 ph2 w
          exact ⟨k + 1, run_bnd.mpr ⟨_, _, e1, by dsimp only; rw [if_pos rfl]; exact run_bnd.mpr ⟨_, _, e2, r⟩⟩⟩
        | bk σ1 => exact ⟨1, run_bnd.mpr ⟨_, _, e1, by dsimp only; rw [if_pos rfl]; exact run_bnd.mpr ⟨_, _, e2, run_ret.mpr q⟩⟩⟩
        | rt d => exact ⟨1, run_bnd.mpr ⟨_, _, e1, by dsimp only; rw [if_pos rfl]; exact run_bnd.mpr ⟨_, _, e2, run_ret.mpr q⟩⟩⟩
  obtain ⟨k, o, p, e, q⟩ := key m m (Nat.le_refl _) σ ph h
  exact ⟨o, p, sWhile_some.mpr ⟨k, e⟩, q⟩
end

/-! ### the constructs, as simp takes them -/
theorem ex1 {α : Type} {a : α} {ph : PH} {Q : α → PH → Prop} : (∃ b p, some (a, ph) = some (b, p) ∧ Q b p) ↔ Q a ph := ⟨(by rintro ⟨b, p, e, q⟩; cases e; exact q), fun q => ⟨a, ph, rfl, q⟩⟩
theorem ex0 {α : Type} {Q : α → PH → Prop} {c : Prop} (h : c → False) : (∃ b p, (none : Option (α × PH)) = some (b, p) ∧ Q b p) ↔ c := ⟨(by rintro ⟨b, p, e, q⟩; cases e), fun q => (h q).elim⟩
section
variable {ph : PH} {σ : Sg}
theorem run_fVar {Q : D → PH → Prop} {i : Nat} : Run (fVar i σ) ph Q ↔ ∃ d, σ[i]?.getD none = some d ∧ Q d ph := by
  unfold fVar
  cases h : σ[i]?.getD none with
  | none => rw [run_none]; simp
  | some d => rw [run_some]; simp
theorem run_fC {Q : D → PH → Prop} {d : D} : Run (fC d σ) ph Q ↔ Q d ph := run_ret
theorem run_fBin {Q : D → PH → Prop} {g : D → D → R D} {fa fb : FE} : Run (fBin g fa fb σ) ph Q ↔ Run (fa σ) ph fun x ph1 => Run (fb σ) ph1 fun y ph2 => Run (g x y) ph2 Q := by
  unfold fBin; rw [run_bnd]; simp only [run_bnd]
theorem run_fNil {Q : List D → PH → Prop} : Run (fNil σ) ph Q ↔ Q [] ph := run_ret
theorem run_fCons {Q : List D → PH → Prop} {f : FE} {g : FA} : Run (fCons f g σ) ph Q ↔ Run (f σ) ph fun d ph1 => Run (g σ) ph1 fun ds ph2 => Q (d :: ds) ph2 := by
  unfold fCons; simp only [run_bnd, run_ret]
theorem run_fCall {Q : D → PH → Prop} {g : List D → R D} {fa : FA} : Run (fCall g fa σ) ph Q ↔ Run (fa σ) ph fun ds ph1 => Run (g ds) ph1 Q := run_bnd
theorem run_fCallL {Q : List D → PH → Prop} {g : List D → R (List D)} {fa : FA} : Run (fCallL g fa σ) ph Q ↔ Run (fa σ) ph fun ds ph1 => Run (g ds) ph1 Q := run_bnd
theorem run_fCallK {Q : D → PH → Prop} {n1 n2 : Nat} {perm : List Nat} {g : List D → R D} {fa fk : FA} : Run (fCallK n1 n2 perm g fa fk σ) ph Q ↔ Run (fa σ) ph fun ds ph1 => Run (fk σ) ph1 fun es ph2 => (ds.length = n1 ∧ es.length = n2) ∧ Run (g (pick perm (ds ++ es))) ph2 Q := by
  unfold fCallK
  simp only [run_bnd]
  refine Iff.of_eq (congrArg (Run (fa σ) ph) (funext fun ds => funext fun ph1 => congrArg (Run (fk σ) ph1) (funext fun es => funext fun ph2 => propext ?_)))
  by_cases h : ds.length = n1 ∧ es.length = n2
  · simp only [h, and_self, if_true, true_and]
  · rw [if_neg h, run_fail]; simp only [h, false_and]
theorem run_fTest {Q : Bool → PH → Prop} {f : FE} : Run (fTest f σ) ph Q ↔ Run (f σ) ph fun d ph1 => ∃ b, d = .bl b ∧ Q b ph1 := by
  unfold fTest
  rw [run_bnd]
  refine Iff.of_eq (congrArg (Run (f σ) ph) (funext fun d => funext fun ph1 => propext ?_))
  cases d <;> simp [toB, run_none, run_some]
theorem run_fNot {Q : Bool → PH → Prop} {f : FT} : Run (fNot f σ) ph Q ↔ Run (f σ) ph fun b ph1 => Q (!b) ph1 := by
  unfold fNot; simp only [run_bnd, run_ret]
theorem run_fAnd {Q : Bool → PH → Prop} {f g : FT} : Run (fAnd f g σ) ph Q ↔ Run (f σ) ph fun b ph1 => if b = true then Run (g σ) ph1 Q else Q false ph1 := by
  unfold fAnd
  rw [run_bnd]
  refine Iff.of_eq (congrArg (Run (f σ) ph) (funext fun b => funext fun ph1 => propext ?_))
  cases b <;> simp [run_ret]
theorem run_fOr {Q : Bool → PH → Prop} {f g : FT} : Run (fOr f g σ) ph Q ↔ Run (f σ) ph fun b ph1 => if b = true then Q true ph1 else Run (g σ) ph1 Q := by
  unfold fOr
  rw [run_bnd]
  refine Iff.of_eq (congrArg (Run (f σ) ph) (funext fun b => funext fun ph1 => propext ?_))
  cases b <;> simp [run_ret]
theorem run_fIf {Q : D → PH → Prop} {c : FT} {f g : FE} : Run (fIf c f g σ) ph Q ↔ Run (c σ) ph fun b ph1 => if b = true then Run (f σ) ph1 Q else Run (g σ) ph1 Q := by
  unfold fIf
  rw [run_bnd]
  refine Iff.of_eq (congrArg (Run (c σ) ph) (funext fun b => funext fun ph1 => propext ?_))
  cases b <;> simp
theorem run_fTup {Q : D → PH → Prop} {fa : FA} : Run (fTup fa σ) ph Q ↔ Run (fa σ) ph fun ds ph1 => ds.length ≤ sizeLine ∧ Q (.tup ds) ph1 := by
  unfold fTup
  rw [run_bnd]
  refine Iff.of_eq (congrArg (Run (fa σ) ph) (funext fun d => funext fun ph1 => propext ?_))
  by_cases h : d.length ≤ sizeLine
  · simp only [h, if_true, run_ret, true_and]
  · simp only [h, if_false, run_fail, false_and]
theorem run_fLst {Q : List D → PH → Prop} {fa : FA} : Run (fLst fa σ) ph Q ↔ Run (fa σ) ph fun ds ph1 => ds.length ≤ sizeLine ∧ Q ds ph1 := by
  unfold fLst
  rw [run_bnd]
  refine Iff.of_eq (congrArg (Run (fa σ) ph) (funext fun d => funext fun ph1 => propext ?_))
  by_cases h : d.length ≤ sizeLine
  · simp only [h, if_true, run_ret, true_and]
  · simp only [h, if_false, run_fail, false_and]
theorem run_fVal {Q : D → PH → Prop} {fa : FA} : Run (fVal fa σ) ph Q ↔ Run (fa σ) ph fun ds ph1 => Q (.lst ds) ph1 := by
  unfold fVal; simp only [run_bnd, run_ret]
theorem run_fNeg {Q : D → PH → Prop} {f : FE} : Run (fNeg f σ) ph Q ↔ Run (f σ) ph fun d ph1 => ∃ i, d = .int i ∧ Q (.int (-i)) ph1 := by
  unfold fNeg
  rw [run_bnd]
  refine Iff.of_eq (congrArg (Run (f σ) ph) (funext fun d => funext fun ph1 => propext ?_))
  cases d <;> simp [gNeg, run_none, run_some]
theorem run_fMethL {Q : D → PH → Prop} {g : D → List D → R D} {fo : FE} {fa : FA} : Run (fMethL g fo fa σ) ph Q ↔ Run (fo σ) ph fun x ph1 => (lview x ph1).isSome = true ∧ Run (fa σ) ph1 fun ds ph2 => Run (g x ds) ph2 Q := by
  unfold fMethL
  rw [run_bnd]
  refine Iff.of_eq (congrArg (Run (fo σ) ph) (funext fun x => funext fun ph1 => propext ?_))
  by_cases h : (lview x ph1).isSome = true
  · simp only [h, true_and]
    rw [← run_bnd]
    unfold Run
    simp only [h, if_true]
  · unfold Run
    constructor
    · rintro ⟨a, p, e, _⟩
      dsimp only at e
      rw [if_neg h] at e
      cases e
    · exact fun q => absurd q.1 h
theorem run_fMethL0 {Q : D → PH → Prop} {g : D → R D} {fo : FE} : Run (fMethL0 g fo σ) ph Q ↔ Run (fo σ) ph fun x ph1 => Run (g x) ph1 Q := run_bnd
theorem run_fRevL {Q : List D → PH → Prop} {fa : FE} : Run (fRevL fa σ) ph Q ↔ Run (fa σ) ph fun x ph1 => ∃ l, lviewF x ph1 = some l ∧ Q l.reverse ph1 := by
  unfold fRevL
  rw [run_bnd]
  refine Iff.of_eq (congrArg (Run (fa σ) ph) (funext fun x => funext fun ph1 => propext ?_))
  unfold Run
  cases h : lviewF x ph1 with
  | none =>
    dsimp only
    rw [h]
    exact ex0 fun ⟨_, e, _⟩ => nomatch e
  | some l =>
    dsimp only
    rw [h]
    exact ex1.trans ⟨fun q => ⟨l, rfl, q⟩, fun ⟨_, e, q⟩ => by cases e; exact q⟩
theorem run_fRevT {Q : D → PH → Prop} {fa : FE} : Run (fRevT fa σ) ph Q ↔ Run (fa σ) ph fun x ph1 => ∃ l, x = .tup l ∧ Q (.tup l.reverse) ph1 := by
  unfold fRevT
  rw [run_bnd]
  refine Iff.of_eq (congrArg (Run (fa σ) ph) (funext fun x => funext fun ph1 => propext ?_))
  unfold Run
  cases x <;> first | exact ex1.trans (by simp) | exact ex0 fun ⟨_, e, _⟩ => nomatch e
/-- x[i], x a changeable list, a list, a tuple, the script -/
theorem run_ixR {Q : D → PH → Prop} {n : Nat} {i : Int} : Run (gIxS (.ref n) (.int i)) ph Q ↔ ∃ l, moL ph[n]? = some l ∧ ∃ d, atI l i = some d ∧ Q d ph := by
  unfold Run gIxS
  show (∃ a ph1, (match moL ph[n]? with | some l => (match atI l i with | some d => some (d, ph) | none => none) | none => none) = some (a, ph1) ∧ Q a ph1) ↔ _
  cases h : moL ph[n]? with
  | none => simp
  | some l =>
    cases h2 : atI l i with
    | none => simp [h2]
    | some d =>
      dsimp only
      rw [h2]
      exact ex1.trans ⟨fun q => ⟨l, rfl, d, h2, q⟩, fun ⟨_, e, _, e2, q⟩ => by cases e; rw [h2] at e2; cases e2; exact q⟩
theorem run_ixT {Q : D → PH → Prop} {l : List D} {i : Int} : Run (gIxS (.tup l) (.int i)) ph Q ↔ ∃ d, atI l i = some d ∧ Q d ph := by
  unfold Run gIxS
  show (∃ a ph1, (match atI l i with | some d => some (d, ph) | none => none) = some (a, ph1) ∧ Q a ph1) ↔ _
  cases h2 : atI l i with
  | none => exact ex0 fun ⟨_, e, _⟩ => nomatch e
  | some d => exact ex1.trans (by simp)
theorem run_ixL {Q : D → PH → Prop} {l : List D} {i : Int} : Run (gIxS (.lst l) (.int i)) ph Q ↔ ∃ d, atI l i = some d ∧ Q d ph := by
  unfold Run gIxS
  show (∃ a ph1, (match atI l i with | some d => some (d, ph) | none => none) = some (a, ph1) ∧ Q a ph1) ↔ _
  cases h2 : atI l i with
  | none => exact ex0 fun ⟨_, e, _⟩ => nomatch e
  | some d => exact ex1.trans (by simp)
theorem atI0 {l : List D} : atI l 0 = l[0]? := atI_nat' (k := 0)
theorem atI1 {l : List D} : atI l 1 = l[1]? := atI_nat' (k := 1)
theorem atI2 {l : List D} : atI l 2 = l[2]? := atI_nat' (k := 2)
theorem atI3 {l : List D} : atI l 3 = l[3]? := atI_nat' (k := 3)
theorem ixN32 : ixN 3 2 = some 2 := rfl
theorem moL_some {l : List D} : moL (some (.lst l)) = some l := rfl
theorem ixN_nat {n k : Nat} (h : k < n) : ixN n (k : Int) = some k := by
  unfold ixN
  rw [if_pos (by omega), if_pos (by omega)]
  simp
theorem run_appendR {Q : D → PH → Prop} {n : Nat} {y : D} : Run (gAppend (.ref n) [y]) ph Q ↔ ∃ l, moL ph[n]? = some l ∧ l.length < sizeLine ∧ Q .non (ph.set n (.lst (l ++ [y]))) := by
  cases h : moL ph[n]? with
  | none =>
    constructor
    · rintro ⟨a, p, e, _⟩
      have e : (match moL ph[n]? with | some l => if l.length < sizeLine then some (D.non, ph.set n (.lst (l ++ [y]))) else none | none => none) = some (a, p) := e
      rw [h] at e
      cases e
    · rintro ⟨l, e, _⟩; cases e
  | some l => rw [run_append h]; simp
theorem run_putR {Q : Unit → PH → Prop} {n : Nat} {i : Int} {z : D} : Run (gPut (.ref n) (.int i) z) ph Q ↔ ∃ l, moL ph[n]? = some l ∧ ∃ j, ixN l.length i = some j ∧ Q () (ph.set n (.lst (l.set j z))) := by
  have e0 : gPut (.ref n) (.int i) z ph = match moL ph[n]? with | some l => (match ixN l.length i with | some j => some ((), ph.set n (.lst (l.set j z))) | none => none) | none => none := rfl
  unfold Run
  rw [e0]
  cases h : moL ph[n]? with
  | none => simp
  | some l =>
    cases h2 : ixN l.length i with
    | none => simp [h2]
    | some j =>
      dsimp only
      rw [h2]
      exact ex1.trans ⟨fun q => ⟨l, rfl, j, h2, q⟩, fun ⟨_, e, _, e2, q⟩ => by cases e; rw [h2] at e2; cases e2; exact q⟩
theorem run_popR {Q : D → PH → Prop} {n : Nat} : Run (gPop (.ref n)) ph Q ↔ ∃ l, moL ph[n]? = some l ∧ ∃ y, l[l.length - 1]? = some y ∧ Q y (ph.set n (.lst l.dropLast)) := by
  have e0 : gPop (.ref n) ph = match moL ph[n]? with | some l => (match l[l.length - 1]? with | some y => some (y, ph.set n (.lst l.dropLast)) | none => none) | none => none := rfl
  unfold Run
  rw [e0]
  cases h : moL ph[n]? with
  | none => simp
  | some l =>
    cases h2 : l[l.length - 1]? with
    | none => simp [h2]
    | some j =>
      dsimp only
      rw [h2]
      exact ex1.trans ⟨fun q => ⟨l, rfl, j, h2, q⟩, fun ⟨_, e, _, e2, q⟩ => by cases e; rw [h2] at e2; cases e2; exact q⟩
/-- what comes behind a statement -/
def Cont (g : FS) (Q : Out → PH → Prop) : Out → PH → Prop
  | .nx σ1, ph1 => Run (g σ1) ph1 Q
  | o, ph1 => Q o ph1
theorem run_seq {f g : FS} {Q : Out → PH → Prop} : Run (sSeq f g σ) ph Q ↔ Run (f σ) ph (Cont g Q) := by
  unfold sSeq
  rw [run_bnd]
  refine Iff.of_eq (congrArg (Run (f σ) ph) (funext fun o => funext fun ph1 => propext ?_))
  cases o <;> simp [Cont, run_ret]
theorem run_sSet {Q : Out → PH → Prop} {i : Nat} {f : FE} : Run (sSet i f σ) ph Q ↔ Run (f σ) ph fun d ph1 => Q (.nx (σ.set i (some d))) ph1 := by
  unfold sSet; simp only [run_bnd, run_ret]
theorem run_sRet {Q : Out → PH → Prop} {f : FE} : Run (sRet f σ) ph Q ↔ Run (f σ) ph fun d ph1 => Q (.rt d) ph1 := by
  unfold sRet; simp only [run_bnd, run_ret]
theorem run_sDrop {Q : Out → PH → Prop} {f : FE} : Run (sDrop f σ) ph Q ↔ Run (f σ) ph fun _ ph1 => Q (.nx σ) ph1 := by
  unfold sDrop; simp only [run_bnd, run_ret]
theorem run_sSkip {Q : Out → PH → Prop} : Run (sSkip σ) ph Q ↔ Q (.nx σ) ph := run_ret
theorem run_sIf {Q : Out → PH → Prop} {c : FT} {f g : FS} : Run (sIf c f g σ) ph Q ↔ Run (c σ) ph fun b ph1 => (b = true → Run (f σ) ph1 Q) ∧ (b = false → Run (g σ) ph1 Q) := by
  unfold sIf
  rw [run_bnd]
  refine Iff.of_eq (congrArg (Run (c σ) ph) (funext fun b => funext fun ph1 => propext ?_))
  cases b <;> simp
theorem run_sPut {Q : Out → PH → Prop} {fe fo fi : FE} : Run (sPut fe fo fi σ) ph Q ↔ Run (fe σ) ph fun z ph1 => Run (fo σ) ph1 fun x ph2 => Run (fi σ) ph2 fun y ph3 => Run (gPut x y z) ph3 fun _ ph4 => Q (.nx σ) ph4 := by
  unfold sPut; simp only [run_bnd, run_ret]
theorem run_sPar {Q : Out → PH → Prop} {i j : Nat} {fa : FA} : Run (sPar i j fa σ) ph Q ↔ Run (fa σ) ph fun ds ph1 => ∃ d e, ds = [d, e] ∧ Q (.nx ((σ.set i (some d)).set j (some e))) ph1 := by
  unfold sPar
  rw [run_bnd]
  refine Iff.of_eq (congrArg (Run (fa σ) ph) (funext fun ds => funext fun ph1 => propext ?_))
  match ds with
  | [] => simp [run_fail]
  | [a] => simp [run_fail]
  | [a, b] => rw [run_ret]; exact ⟨fun q => ⟨a, b, rfl, q⟩, fun ⟨_, _, e, q⟩ => by cases e; exact q⟩
  | _ :: _ :: _ :: _ => simp [run_fail]
theorem run_sFor {Q : Out → PH → Prop} {f : FI} {g : D → Sg → Option Sg} {b : FS} : Run (sFor f g b σ) ph Q ↔ Run (f σ) ph fun x ph1 => Run (forD x.2 x.1 g b x.1 σ) ph1 Q := run_bnd
theorem run_fLc {Q : List D → PH → Prop} {f : FI} {g : D → Sg → Option Sg} {ft : FT} {fe : FE} {vs : List Nat} : Run (fLc f g ft fe vs σ) ph Q ↔ Run (f σ) ph fun x ph1 => Run (lcD x.2 x.1 g ft fe (wipeD σ vs) x.1 []) ph1 Q := run_bnd
theorem run_fYes {Q : Bool → PH → Prop} : Run (fYes σ) ph Q ↔ Q true ph := run_ret
theorem run_range1 {Q : List D × Option Nat → PH → Prop} {fa : FA} : Run (iRange1 fa σ) ph Q ↔ Run (fa σ) ph fun ds ph1 => ∃ j, ds = [.int j] ∧ rgOk j ∧ Q (upto 0 j.toNat, none) ph1 := by
  unfold iRange1
  rw [run_bnd]
  refine Iff.of_eq (congrArg (Run (fa σ) ph) (funext fun ds => funext fun ph1 => propext ?_))
  match ds with
  | [] => exact ex0 fun ⟨_, e, _⟩ => nomatch e
  | [.int j] =>
    show Run (lift (if _ then _ else _)) ph1 Q ↔ _
    split
    · rename_i c
      rw [run_some]
      exact ⟨fun q => ⟨j, rfl, c, q⟩, fun ⟨_, e, _, q⟩ => by cases e; exact q⟩
    · rename_i c
      rw [run_none]
      exact ⟨False.elim, fun ⟨_, e, c', _⟩ => by cases e; exact c c'⟩
  | [.non] => exact ex0 fun ⟨_, e, _⟩ => nomatch e
  | [.bl _] => exact ex0 fun ⟨_, e, _⟩ => nomatch e
  | [.str _] => exact ex0 fun ⟨_, e, _⟩ => nomatch e
  | [.tup _] => exact ex0 fun ⟨_, e, _⟩ => nomatch e
  | [.lst _] => exact ex0 fun ⟨_, e, _⟩ => nomatch e
  | [.fzl _] => exact ex0 fun ⟨_, e, _⟩ => nomatch e
  | [.obj _ _] => exact ex0 fun ⟨_, e, _⟩ => nomatch e
  | [.ref _] => exact ex0 fun ⟨_, e, _⟩ => nomatch e
  | a :: b :: c =>
    have h : rg1 (a :: b :: c) = none := by cases a <;> rfl
    rw [h, run_none]
    exact ⟨False.elim, fun ⟨_, e, _⟩ => nomatch e⟩
/-- a def: its body from the names -/
theorem run_fDef {Q : D → PH → Prop} {n : Nat} {b : FS} {ds : List D} : Run (fDef n b ds) ph Q ↔ Run (b (ds.map some ++ List.replicate (n - ds.length) none)) ph fun o ph1 => (∃ d, o = .rt d ∧ Q d ph1) ∨ (∃ σ, o = .nx σ ∧ Q .non ph1) := by
  unfold fDef
  rw [run_bnd]
  refine Iff.of_eq (congrArg (Run (b _) ph) (funext fun o => funext fun ph1 => propext ?_))
  cases o <;> simp [outD, run_ret, run_fail]
theorem run_callW {Q : D → PH → Prop} {n : Nat} {f : FF} {ds : List D} : Run (callW n f ds) ph Q ↔ ds.length = n ∧ Run (f ds) ph Q := by
  unfold Run callW
  by_cases h : ds.length = n
  · simp [h]
  · simp [h]
theorem run_callK {Q : D → PH → Prop} {m n : Nat} {f : FF} {ds : List D} : Run (callK m n f ds) ph Q ↔ (m ≤ ph.length ∧ ds.length = n ∧ closeds m ds = true ∧ (ph.take m).all (closedM m) = true) ∧
    Run (f ds) (ph.take m) fun d ph1 => (closed m d = true ∧ (ph1.take m).all (closedM m) = true) ∧ Q d (ph1.take m ++ ph.drop m) := by
  unfold Run callK
  by_cases h : m ≤ ph.length ∧ ds.length = n ∧ closeds m ds = true ∧ (ph.take m).all (closedM m) = true
  · simp only [h, and_self, if_true, true_and]
    cases e : f ds (ph.take m) with
    | none => simp
    | some x =>
      obtain ⟨d, p⟩ := x
      by_cases c : closed m d = true ∧ (p.take m).all (closedM m) = true
      · simp only [if_pos c]
        refine ex1.trans ⟨fun q => ⟨d, p, rfl, c, q⟩, fun ⟨_, _, e, _, q⟩ => by cases e; exact q⟩
      · simp only [if_neg c]
        constructor
        · rintro ⟨_, _, e, _⟩; cases e
        · rintro ⟨_, _, e, q, _⟩
          cases e
          exact absurd q c
  · simp only [if_neg h]
    constructor
    · rintro ⟨_, _, e, _⟩; cases e
    · rintro ⟨q, _⟩; exact absurd q h
end

/-! ### data that can be compared -/
theorem cont_nx {g : FS} {Q : Out → PH → Prop} {σ : Sg} {ph : PH} : Cont g Q (.nx σ) ph ↔ Run (g σ) ph Q := Iff.rfl
theorem cont_rt {g : FS} {Q : Out → PH → Prop} {d : D} {ph : PH} : Cont g Q (.rt d) ph ↔ Q (.rt d) ph := Iff.rfl
def Fine (n : Nat) (ph : PH) (d : D) : Prop := ∃ p, pyF n ph d = some p ∧ p.canLay0 = true ∧ p.depth ≤ n
theorem Fine.int {n : Nat} {ph : PH} (i : Int) : Fine n ph (.int i) := ⟨.int i, pyF_int, rfl, Nat.zero_le _⟩
theorem Fine.bl {n : Nat} {ph : PH} (b : Bool) : Fine n ph (.bl b) := ⟨.bool b, by cases n <;> rfl, rfl, Nat.zero_le _⟩
theorem Fine.non {n : Nat} {ph : PH} : Fine n ph .non := ⟨.none, by cases n <;> rfl, rfl, Nat.zero_le _⟩
theorem fine_all {n : Nat} {ph : PH} : ∀ {l : List D}, (∀ d ∈ l, Fine n ph d) → ∃ ps, l.mapM (pyF n ph) = some ps ∧ PyData.canLayAll0 ps = true ∧ PyData.depthAll ps ≤ n ∧ ps.length = l.length
  | [], _ => ⟨[], by simp, rfl, Nat.zero_le _, rfl⟩
  | d :: l, h => by
    obtain ⟨p, e1, e2, e3⟩ := h d List.mem_cons_self
    obtain ⟨ps, f1, f2, f3, f4⟩ := fine_all fun x hx => h x (List.mem_cons_of_mem _ hx)
    refine ⟨p :: ps, ?_, ?_, ?_, by simp [f4]⟩
    · rw [List.mapM_cons, e1, f1]; rfl
    · show (p.canLay0 && PyData.canLayAll0 ps) = true
      rw [e2, f2]; rfl
    · show max p.depth (PyData.depthAll ps) ≤ n
      omega
theorem Fine.lst {n : Nat} {ph : PH} {l : List D} (h : ∀ d ∈ l, Fine n ph d) : Fine (n + 1) ph (.lst l) := by
  obtain ⟨ps, e, c, d, _⟩ := fine_all h
  exact ⟨.list ps, by show (l.mapM (pyF n ph)).map PyData.list = _; rw [e]; rfl, c, by show PyData.depthAll ps + 1 ≤ n + 1; omega⟩
theorem Fine.tup {n : Nat} {ph : PH} {l : List D} (h : ∀ d ∈ l, Fine n ph d) : Fine (n + 1) ph (.tup l) := by
  obtain ⟨ps, e, c, d, _⟩ := fine_all h
  exact ⟨.tuple ps, by show (l.mapM (pyF n ph)).map PyData.tuple = _; rw [e]; rfl, c, by show PyData.depthAll ps + 1 ≤ n + 1; omega⟩
theorem Fine.ref {n : Nat} {ph : PH} {k : Nat} {l : List D} (h0 : moL ph[k]? = some l) (h : ∀ d ∈ l, Fine n ph d) : Fine (n + 1) ph (.ref k) := by
  obtain ⟨ps, e, c, d, _⟩ := fine_all h
  refine ⟨.list ps, ?_, c, by show PyData.depthAll ps + 1 ≤ n + 1; omega⟩
  show (moL ph[k]?).bind (fun l => (l.mapM (pyF n ph)).map PyData.list) = _
  rw [h0]
  show (l.mapM (pyF n ph)).map PyData.list = _
  rw [e]; rfl
theorem shaped_of {p : PyData} {n : Nat} (h : p.canLay0 = true) (d : p.depth ≤ n) (hn : n ≤ 64) : SeqAt.shaped p = true := by
  show (p.canLay0 && decide (p.depth ≤ 64)) = true
  rw [h, decide_eq_true (Nat.le_trans d hn)]; rfl
/-- is it the empty list -/
theorem pyF_lview {ph : PH} {x : D} {l : List D} (hl : lview x ph = some l) (h : ∀ d ∈ l, Fine 39 ph d) : ∃ ps, pyF eqDeep ph x = some (.list ps) ∧ SeqAt.shaped (.list ps) = true ∧ ps.length = l.length := by
  obtain ⟨ps, e, c, d, f⟩ := fine_all h
  have hs : SeqAt.shaped (.list ps) = true := shaped_of (n := 40) c (by show PyData.depthAll ps + 1 ≤ 40; omega) (by decide)
  cases x with
  | lst l' =>
    cases hl
    exact ⟨ps, by show (l.mapM (pyF 39 ph)).map PyData.list = _; rw [e]; rfl, hs, f⟩
  | ref k =>
    have hl : moL ph[k]? = some l := hl
    refine ⟨ps, ?_, hs, f⟩
    show (moL ph[k]?).bind (fun l => (l.mapM (pyF 39 ph)).map PyData.list) = _
    rw [hl]
    show (l.mapM (pyF 39 ph)).map PyData.list = _
    rw [e]; rfl
  | _ => cases hl
theorem eqv_nil {ps : List PyData} : PyData.eqv (.list ps) (.list []) = ps.isEmpty := by
  cases ps <;> simp [PyData.eqv, PyData.eqvAll]
theorem empty_len {α β : Type} {a : List α} {b : List β} (h : a.length = b.length) : a.isEmpty = b.isEmpty := by
  cases a <;> cases b <;> simp at h <;> rfl
theorem run_neNil {ph : PH} {Q : D → PH → Prop} {x : D} {l : List D} (hl : lview x ph = some l) (h : ∀ d ∈ l, Fine 39 ph d) : Run (gNe x (.lst [])) ph Q ↔ Q (.bl (!l.isEmpty)) ph := by
  obtain ⟨ps, e, s, f⟩ := pyF_lview hl h
  rw [run_neB (q := .list []) e rfl s rfl (fun _ z => by subst z; cases hl), eqv_nil, empty_len f]
theorem run_eqNil {ph : PH} {Q : D → PH → Prop} {x : D} {l : List D} (hl : lview x ph = some l) (h : ∀ d ∈ l, Fine 39 ph d) : Run (gEq x (.lst [])) ph Q ↔ Q (.bl l.isEmpty) ph := by
  obtain ⟨ps, e, s, f⟩ := pyF_lview hl h
  rw [run_eqB (q := .list []) e rfl s rfl (fun _ z => by subst z; cases hl), eqv_nil, empty_len f]
theorem fine_ints {n : Nat} {ph : PH} {ns : List Int} : ∀ d ∈ ns.map D.int, Fine n ph d := fun d hd => by
  obtain ⟨i, _, rfl⟩ := List.mem_map.mp hd
  exact .int i
section
variable {ph : PH} {σ : Sg}
theorem run_oNo {Q : Option Int → PH → Prop} : Run (oNo σ) ph Q ↔ Q none ph := run_ret
theorem run_oAt {Q : Option Int → PH → Prop} {f : FE} : Run (oAt f σ) ph Q ↔ Run (f σ) ph fun d ph1 => ∃ i, d = .int i ∧ Q (some i) ph1 := by
  unfold oAt
  rw [run_bnd]
  refine Iff.of_eq (congrArg (Run (f σ) ph) (funext fun d => funext fun ph1 => propext ?_))
  cases d <;> simp [toI, run_none, run_some]
theorem run_fSl {Q : D → PH → Prop} {fa : FE} {fl fh : Sg → R (Option Int)} : Run (fSl fa fl fh σ) ph Q ↔ Run (fa σ) ph fun x ph1 => Run (fl σ) ph1 fun lo ph2 => Run (fh σ) ph2 fun hi ph3 => Run (gSl x lo hi) ph3 Q := by
  unfold fSl
  simp only [run_bnd]
theorem run_slF {Q : D → PH → Prop} {l : List D} {lo hi : Option Int} : Run (gSl (.fzl l) lo hi) ph Q ↔ Q (.lst (cutD l lo hi)) ph := run_eq rfl
theorem run_slL {Q : D → PH → Prop} {l : List D} {lo hi : Option Int} : Run (gSl (.lst l) lo hi) ph Q ↔ Q (.lst (cutD l lo hi)) ph := run_eq rfl
theorem run_slT {Q : D → PH → Prop} {l : List D} {lo hi : Option Int} : Run (gSl (.tup l) lo hi) ph Q ↔ Q (.tup (cutD l lo hi)) ph := run_eq rfl
theorem run_iSeq {Q : List D × Option Nat → PH → Prop} {f : FE} : Run (iSeq f σ) ph Q ↔ Run (f σ) ph fun d ph1 => Run (itemsOf d) ph1 Q := by
  unfold iSeq
  rw [run_bnd]
theorem run_itemsR {Q : List D × Option Nat → PH → Prop} {n : Nat} : Run (itemsOf (.ref n)) ph Q ↔ ∃ l, moL ph[n]? = some l ∧ Q (l, some n) ph := by
  have e : itemsOf (.ref n) ph = match moL ph[n]? with | some l => some ((l, some n), ph) | none => none := rfl
  unfold Run
  rw [e]
  cases h : moL ph[n]? with
  | none => exact ex0 fun ⟨_, e, _⟩ => nomatch e
  | some l => exact ex1.trans ⟨fun q => ⟨l, rfl, q⟩, fun ⟨_, e, q⟩ => by cases e; exact q⟩
theorem run_itemsL {Q : List D × Option Nat → PH → Prop} {l : List D} : Run (itemsOf (.lst l)) ph Q ↔ Q (l, none) ph := run_eq rfl
theorem run_itemsT {Q : List D × Option Nat → PH → Prop} {l : List D} : Run (itemsOf (.tup l)) ph Q ↔ Q (l, none) ph := run_eq rfl
theorem run_listL {Q : List D → PH → Prop} {l : List D} : Run (gList [.lst l]) ph Q ↔ Q l ph := run_list rfl
theorem run_tupleL {Q : D → PH → Prop} {l : List D} : Run (gTuple [.lst l]) ph Q ↔ Q (.tup l) ph := run_tuple rfl
theorem run_lenT {Q : D → PH → Prop} {l : List D} : Run (gLen [.tup l]) ph Q ↔ Q (.int l.length) ph := run_len rfl
theorem run_lenL {Q : D → PH → Prop} {l : List D} : Run (gLen [.lst l]) ph Q ↔ Q (.int l.length) ph := run_len rfl
theorem lviewF_L {l : List D} : lviewF (.lst l) ph = some l := rfl
theorem stands_none {ds : List D} : stands none ds ph := fun _ h => nomatch h
end
theorem run_sPar2 {Q : Out → PH → Prop} {i j : Nat} {f g : FE} {σ : Sg} {ph : PH} : Run (sPar i j (fCons f (fCons g fNil)) σ) ph Q ↔ Run (f σ) ph fun d ph1 => Run (g σ) ph1 fun e ph2 => Q (.nx ((σ.set i (some d)).set j (some e))) ph2 := by
  rw [run_sPar]
  simp only [run_fCons, run_fNil]
  refine Iff.of_eq (congrArg (Run (f σ) ph) (funext fun d => funext fun ph1 => congrArg (Run (g σ) ph1) (funext fun e => funext fun ph2 => propext ?_)))
  exact ⟨fun ⟨_, _, h, q⟩ => by cases h; exact q, fun q => ⟨d, e, rfl, q⟩⟩
theorem run_sAsg {Q : Out → PH → Prop} {f : FE} {g : D → Sg → Option Sg} {σ : Sg} {ph : PH} : Run (sAsg f g σ) ph Q ↔ Run (f σ) ph fun d ph1 => ∃ σ1, g d σ = some σ1 ∧ Q (.nx σ1) ph1 := by
  unfold sAsg
  rw [run_bnd]
  refine Iff.of_eq (congrArg (Run (f σ) ph) (funext fun d => funext fun ph1 => propext ?_))
  rw [run_bnd]
  cases h : g d σ with
  | none => rw [run_none]; simp
  | some σ1 => rw [run_some, run_ret]; simp
theorem tg_name {i : Nat} {d : D} {σ : Sg} : tgName i d σ = some (σ.set i (some d)) := rfl
theorem tg_nil {σ : Sg} : tgsNil [] σ = some σ := rfl
theorem tg_cons {g : D → Sg → Option Sg} {h : List D → Sg → Option Sg} {d : D} {ds : List D} {σ : Sg} : tgsCons g h (d :: ds) σ = (g d σ).bind (h ds) := rfl
theorem tg_tup {n : Nat} {g : List D → Sg → Option Sg} {ds : List D} {σ : Sg} : tgTup n g (.tup ds) σ = if ds.length = n then g ds σ else none := rfl
theorem run_repT {l : List D} {k : Int} {ph : PH} {Q : D → PH → Prop} (h : -1000 ≤ k ∧ k ≤ 1000 ∧ l.length ≤ 1000) : Run (gRepT (.tup l) (.int k)) ph Q ↔ Q (.tup (List.replicate k.toNat l).flatten) ph := by
  refine run_eq ?_
  show (if -1000 ≤ k ∧ k ≤ 1000 ∧ l.length ≤ 1000 then some (D.tup (List.replicate k.toNat l).flatten, ph) else none) = _
  rw [if_pos h]
theorem upto_length (lo : Int) (n : Nat) : (upto lo n).length = n := by unfold upto; simp
theorem upto_get {lo : Int} {n k : Nat} {d : D} (h : (upto lo n)[k]? = some d) : d = .int (lo + (k : Int)) ∧ k < n := by
  unfold upto at h
  rw [List.getElem?_map] at h
  cases q : (List.range n)[k]? with
  | none => rw [q] at h; cases h
  | some j =>
    rw [q] at h
    have hk : k < n := by have := (List.getElem?_eq_some_iff.mp q).1; simpa using this
    rw [List.getElem?_range hk] at q
    cases q
    cases h
    exact ⟨rfl, hk⟩
end FD

set_option Elab.async false
set_option maxRecDepth 100000
set_option linter.all false
set_option maxHeartbeats 1000000
namespace W
open PySem L2 FD

local macro_rules | `(tactic| walk_at "fd") => `(tactic| simp only [run_fVar, run_fC, run_fBin, run_fNil, run_fCons, run_fCall, run_fCallL, run_fCallK, run_fTest, run_fNot, run_fAnd, run_fOr, run_fIf, run_fTup, run_fLst, run_fVal, run_fNeg, run_fMethL, run_fMethL0, run_fRevL, run_fRevT, run_ixR, run_ixT, run_ixL, run_appendR, run_putR, run_own,
  run_sSet, run_sRet, run_sDrop, run_sSkip, run_sIf, run_sPut, run_sPar2, run_sAsg, tg_name, tg_nil, tg_cons, tg_tup, if_true, Option.bind_some, wipeD, run_sFor, run_fLc, run_fYes, run_range1, run_callW, run_addI, run_sub, run_mul, run_div, run_mod, run_pow, run_lt, run_le, run_gt, run_ge, run_toInt, run_eqI, run_neI, run_eqS,
  List.getElem?_cons_zero, List.getElem?_cons_succ, Option.getD_some, Option.getD_none, List.set_cons_zero, List.set_cons_succ, List.map_cons, List.map_nil, List.length_cons, List.length_nil, List.replicate, List.append_eq, List.cons_append, List.nil_append, Nat.reduceAdd, Nat.reduceSub, Nat.zero_add,
  Option.some.injEq, exists_eq_left', exists_eq_left, D.int.injEq, D.bl.injEq, D.ref.injEq, List.cons.injEq, and_true, true_and, atI0, atI1, atI2, atI3, moL_some, ixN32, run_popR, run_oNo, run_oAt, run_fSl, run_slF, run_slL, run_slT, run_iSeq, run_itemsR, run_itemsL, run_itemsT, run_listL, run_tupleL, run_lenT, run_lenL, lviewF_L])

def Deck (k : Int) (ph : PH) : Prop := ∃ (cells : List Int) (b c : Int), ph = [.lst (cells.map .int), .lst [.ref 0, .int b, .int c]] ∧ 0 ≤ c ∧ c ≤ k ∧ cells.length ≤ 63
theorem Deck.mono {k k' : Int} {ph : PH} (h : Deck k ph) (le : k ≤ k') : Deck k' ph := let ⟨a, b, c, e, h1, h2, h3⟩ := h; ⟨a, b, c, e, h1, by omega, h3⟩
local macro_rules | `(tactic| walk_at "nx") => `(tactic| (refine cont_nx.mpr ?_; (try rw [run_seq]); walk_at "fd"))
theorem draw_ok {k sz : Int} {ph : PH} (h : Deck k ph) (hk : k ≤ 1000000) (h0 : 0 < sz) (h1 : sz ≤ 1000000) : Run (f_l_draw [.ref 1, .int sz]) ph fun d ph1 => (∃ r, d = .int r ∧ 0 ≤ r ∧ r < sz) ∧ Deck (k + 1) ph1 := by
  obtain ⟨cells, b, c, rfl, c0, ck, cl⟩ := h
  unfold f_l_draw
  rw [run_fDef]
  unfold b_l_draw
  rw [run_seq]
  walk_at "fd"
  walk_at "nx"
  refine ⟨.inl (by decide), .inr (by constructor <;> omega), ?_⟩
  refine cont_nx.mpr ?_
  rw [run_seq]
  refine Run.mono (Q := fun o ph1 => (∃ (v : Int) (q : Option D) (cs : List Int), cs.length ≤ 63 ∧ o = .nx [some (.ref 1), some (.int sz), some (.int v), q] ∧ ph1 = [.lst (cs.map .int), .lst [.ref 0, .int b, .int (c + 1)]]) ∨
    (∃ r cs, cs.length ≤ 63 ∧ o = .rt (.int r) ∧ (0 ≤ r ∧ r < sz) ∧ ph1 = [.lst (List.map D.int cs), .lst [.ref 0, .int b, .int (c + 1)]])) ?_ ?_
  · walk_at "fd"
    rw [run_neNil (l := cells.map .int) rfl fine_ints]
    walk_at "fd"
    refine ⟨Nat.zero_le _, fun hne => ?_, fun he => .inl ⟨_, _, cells, cl, rfl, rfl⟩⟩
    obtain ⟨cs, x, rfl⟩ : ∃ cs x, cells = cs ++ [x] := by
      cases h : cells.reverse with
      | nil =>
        have : cells = [] := by simpa using congrArg List.reverse h
        subst this
        simp at hne
      | cons x r => exact ⟨r.reverse, x, by simpa using congrArg List.reverse h⟩
    rw [List.length_append] at cl
    simp only [List.length_cons, List.length_nil] at cl
    rw [run_seq]
    walk_at "fd"
    refine ⟨.int x, by simp, ?_⟩
    rw [show ((cs ++ [x]).map D.int).dropLast = cs.map D.int by simp]
    walk_at "nx"
    refine ⟨by decide, fun hx => ?_, fun hx => ?_⟩
    · rw [run_seq]
      walk_at "fd"
      refine ⟨rfl, ⟨h0, by omega⟩, ?_, ?_⟩
      · rw [List.length_map, sizeLine_eq]; omega
      walk_at "nx"
      exact ⟨h0, .inr ⟨x % sz, cs ++ [x / sz], by simpa using cl, rfl, ⟨Int.emod_nonneg _ (by omega), Int.emod_lt_of_pos _ h0⟩, by simp⟩⟩
    · walk_at "nx"
      exact .inl ⟨_, _, cs, by omega, rfl, rfl⟩
  · rintro o ph1 (⟨v, q, cs, cl, rfl, rfl⟩ | ⟨r, cs, cl, rfl, hr, rfl⟩)
    · walk_at "nx"
      refine ⟨by decide, .inr (by decide), by decide, ?_⟩
      walk_at "nx"
      have hv : ∀ y : Int, 0 ≤ y % 2147483647 ∧ y % 2147483647 < 2147483647 := fun y => ⟨Int.emod_nonneg _ (by decide), Int.emod_lt_of_pos _ (by decide)⟩
      have hw : ∀ y : Int, 0 ≤ y % 2147483549 ∧ y % 2147483549 < 2147483549 := fun y => ⟨Int.emod_nonneg _ (by decide), Int.emod_lt_of_pos _ (by decide)⟩
      refine ⟨.inl ?_, .inl (by decide), by decide, ?_⟩
      · have := hv (v % 2147483587 * 48271)
        omega
      walk_at "nx"
      exact ⟨.inr (by decide), by decide, by decide, h0, .inl ⟨_, rfl, ⟨_, rfl, Int.emod_nonneg _ (by omega), Int.emod_lt_of_pos _ h0⟩, cs, b, c + 1, rfl, by omega, by omega, cl⟩⟩
    · exact .inl ⟨_, rfl, ⟨r, rfl, hr⟩, cs, b, c + 1, rfl, by omega, by omega, cl⟩
theorem deck_ok (ns : List Int) (h : ns.length ≤ 63) : Run (f_l_deck [.fzl (ns.map .int)]) [] fun d ph1 => d = .ref 1 ∧ Deck 0 ph1 := by
  unfold f_l_deck
  rw [run_fDef]
  unfold b_l_deck
  rw [run_seq]
  walk_at "fd"
  have hcut : (cutD (List.map D.int ns) none (some 63)).reverse = ((ns.take 63).reverse).map D.int := by
    unfold cutD
    rw [show HT.sIx (List.map D.int ns).length 0 none = 0 from rfl, show HT.sIx (List.map D.int ns).length (List.map D.int ns).length (some 63) = min 63 ns.length by rw [List.length_map]; exact HT.sIx_nat _ _ 63]
    rw [List.drop_zero, Nat.sub_zero, ← List.map_take, List.map_reverse]
    congr 2
    rw [List.take_of_length_le (by omega), List.take_of_length_le h]
  rw [hcut]
  generalize hL : (ns.take 63).reverse = L
  have hLl : L.length ≤ 63 := by rw [← hL, List.length_reverse, List.length_take]; omega
  walk_at "nx"
  refine run_for (fun _ σ ph => (∃ v b, σ = [some (D.fzl (List.map D.int ns)), v, some (.ref 0), some (.int b)]) ∧ ph = [.lst (L.map D.int)]) _ 0 _ _ ⟨⟨_, _, rfl⟩, rfl⟩ (fun _ _ _ ⟨_, e⟩ n hn => by cases hn; subst e; rfl) (fun k d σ ph e ⟨⟨v, b, e1⟩, e2⟩ => ?_) (fun σ ph ⟨⟨v, b, e1⟩, e2⟩ => ?_)
  · subst e1 e2
    rw [List.getElem?_map] at e
    cases q : L[k]? with
    | none => rw [q] at e; cases e
    | some x =>
      rw [q] at e
      cases e
      refine ⟨_, rfl, ?_⟩
      walk_at "fd"
      exact ⟨.inr (by decide), by decide, by decide, _, _, rfl, rfl⟩
  · subst e1 e2
    walk_at "nx"
    exact ⟨by decide, .inl ⟨_, rfl, rfl, L, b, 0, rfl, by decide, by decide, hLl⟩⟩
theorem closeds_ints {m : Nat} : ∀ ns : List Int, closeds m (ns.map D.int) = true
  | [] => rfl
  | n :: ns => closeds_ints ns
theorem Deck.len {k : Int} {ph : PH} (h : Deck k ph) : ph.length = 2 := by obtain ⟨_, _, _, rfl, _⟩ := h; rfl
theorem Deck.clo {k : Int} {ph : PH} (h : Deck k ph) : ph.all (closedM 2) = true := by
  obtain ⟨cells, b, c, rfl, _⟩ := h
  show (closeds 2 (cells.map D.int) && (closeds 2 [.ref 0, .int b, .int c] && true)) = true
  rw [closeds_ints]
  rfl
/-- a call that may turn the deck -/
theorem deck_call {k k' : Int} {n : Nat} {f : FF} {ds : List D} {ph : PH} {P : D → Prop} (h : Deck k ph) (hn : ds.length = n) (hc : closeds 2 ds = true) (hP : ∀ d, P d → closed 2 d = true) (r : Run (f ds) ph fun d ph1 => P d ∧ Deck k' ph1) :
    Run (callK 2 n f ds) ph fun d ph1 => P d ∧ Deck k' ph1 := by
  have e1 : ph.take 2 = ph := List.take_of_length_le (by rw [h.len]; exact Nat.le_refl _)
  have e2 : ph.drop 2 = [] := List.drop_of_length_le (by rw [h.len]; exact Nat.le_refl _)
  rw [run_callK, e1, e2]
  refine ⟨⟨by rw [h.len]; exact Nat.le_refl _, hn, hc, h.clo⟩, r.mono fun d ph1 ⟨p, h1⟩ => ?_⟩
  have e3 : ph1.take 2 = ph1 := List.take_of_length_le (by rw [h1.len]; exact Nat.le_refl _)
  rw [e3]
  exact ⟨⟨hP d p, h1.clo⟩, p, by simpa using h1⟩
theorem draw_call {k sz : Int} {ph : PH} (h : Deck k ph) (hk : k ≤ 1000000) (h0 : 0 < sz) (h1 : sz ≤ 1000000) : Run (callK 2 2 f_l_draw [.ref 1, .int sz]) ph fun d ph1 => (∃ r, d = .int r ∧ 0 ≤ r ∧ r < sz) ∧ Deck (k + 1) ph1 :=
  deck_call h rfl rfl (fun d ⟨r, e, _⟩ => by subst e; rfl) (draw_ok h hk h0 h1)
def IsInts (n : Int) (d : D) : Prop := ∃ ms : List Int, d = .tup (ms.map .int) ∧ (ms.length : Int) = n
theorem lc_ints {k : Int} {n i : Nat} {ds0 : List D} {fe : FE} {σw : Sg} {ph : PH} (hD : Deck k ph) (hn : n ≤ 1000) (step : ∀ (j : Nat) (ph' : PH), j < n → Deck (k + j) ph' → Run (fe (σw.set i (some (.int (0 + (j : Int)))))) ph' fun d ph1 => (∃ r, d = .int r) ∧ Deck (k + j + 1) ph1) :
    Run (lcD none ds0 (tgName i) fYes fe σw (upto 0 n) []) ph fun acc ph1 => (∃ ms : List Int, acc = ms.map D.int ∧ ms.length = n) ∧ Deck (k + n) ph1 := by
  have hsl : (sizeLine : Nat) = 16777216 := sizeLine_eq
  refine run_lc (fun i acc ph' => (∃ ms : List Int, acc = ms.map D.int ∧ ms.length = i) ∧ Deck (k + i) ph') _ [] 0 ph ⟨⟨[], rfl, rfl⟩, by simpa using hD⟩ (fun i acc ph' ⟨⟨ms, e, el⟩, _⟩ => ⟨stands_none, by rw [e, List.length_map, el]; exact Nat.le_refl _⟩) (by rw [upto_length]; omega) (fun j d acc ph' e ⟨⟨ms, ea, el⟩, hD⟩ => ?_) fun acc ph' ⟨⟨ms, ea, el⟩, hD⟩ => ?_
  · obtain ⟨rfl, hlt⟩ := upto_get e
    rw [Nat.zero_add] at el hD ⊢
    refine ⟨_, rfl, ?_⟩
    rw [run_fYes, if_pos rfl]
    refine (step j ph' hlt hD).mono fun d ph1 ⟨⟨r, e⟩, hD1⟩ => ?_
    subst e ea
    exact ⟨⟨ms ++ [r], by simp, by simp [el]⟩, by rw [show k + ((j + 1 : Nat) : Int) = k + j + 1 by omega]; exact hD1⟩
  · rw [upto_length, Nat.zero_add] at el hD
    exact ⟨⟨ms, ea, el⟩, hD⟩
theorem low_bit : ∀ x : Nat, x < 300 → 0 < x → ∃ c, c < 9 ∧ (x / 2 ^ c) % 2 = 1 := by decide +kernel
def bitP (x : Int) : D → Bool
  | .int c => (x / 2 ^ c.toNat % 2 == 1)
  | _ => false
theorem bit_at (c : Nat) (h : c < 9) : atI [D.int 1, D.int 2, D.int 4, D.int 8, D.int 16, D.int 32, D.int 64, D.int 128, D.int 256] (0 + (c : Int)) = some (.int (2 ^ c)) := by
  rw [show (0 + (c : Int)) = (c : Int) by omega, atI_nat']
  match c, h with
  | 0, _ => rfl
  | 1, _ => rfl
  | 2, _ => rfl
  | 3, _ => rfl
  | 4, _ => rfl
  | 5, _ => rfl
  | 6, _ => rfl
  | 7, _ => rfl
  | 8, _ => rfl
theorem bit_pos (c : Nat) : (0 : Int) < 2 ^ c := Int.pow_pos (by decide)
theorem bit_lt (c : Nat) (h : c < 9) : (2 : Int) ^ c < 2 ^ 512 := by
  match c, h with
  | 0, _ => decide +kernel
  | 1, _ => decide +kernel
  | 2, _ => decide +kernel
  | 3, _ => decide +kernel
  | 4, _ => decide +kernel
  | 5, _ => decide +kernel
  | 6, _ => decide +kernel
  | 7, _ => decide +kernel
  | 8, _ => decide +kernel
theorem any_ok {k cnt : Int} {ph : PH} (h : Deck k ph) (hk : k ≤ 900000) (h0 : 0 ≤ cnt) (h1 : cnt ≤ 299) : Run (f_l_any_marks [.ref 1, .int cnt]) ph fun d ph1 => IsInts cnt d ∧ Deck (k + 302) ph1 := by
  unfold f_l_any_marks
  rw [run_fDef]
  unfold b_l_any_marks
  rw [run_seq]
  walk_at "fd"
  refine (draw_call h (by omega) (by decide) (by decide)).mono fun d ph1 ⟨⟨way, e, hw0, hw1⟩, hD1⟩ => ?_
  subst e
  refine (draw_call hD1 (by omega) (by decide) (by decide)).mono fun d ph2 ⟨⟨sz, e, hs0, hs1⟩, hD2⟩ => ?_
  subst e
  walk_at "fd"
  refine ⟨by decide, ?_⟩
  walk_at "nx"
  have hcz : cnt.toNat ≤ 299 := by omega
  have hrg : rgOk cnt := ⟨by omega, by omega⟩
  have hsl : (sizeLine : Nat) = 16777216 := sizeLine_eq
  have fin : ∀ (acc : List D) (ph' : PH), ((∃ ms : List Int, acc = ms.map D.int ∧ ms.length = cnt.toNat) ∧ Deck (k + 1 + 1 + cnt.toNat) ph') → IsInts cnt (.tup acc) ∧ Deck (k + 302) ph' := fun acc ph' ⟨⟨ms, e, el⟩, hD⟩ => ⟨⟨ms, by rw [e], by omega⟩, hD.mono (by omega)⟩
  refine ⟨fun c => ?_, fun c => ?_⟩
  · refine ⟨hrg, (lc_ints hD2 (by omega) fun j ph' hj hD => ?_).mono fun acc ph' hh => ?_⟩
    · walk_at "fd"
      refine (draw_call hD (by omega) (by omega) (by omega)).mono fun d ph3 ⟨⟨r, e, _, _⟩, hD3⟩ => ?_
      subst e
      walk_at "fd"
      exact ⟨⟨_, rfl⟩, hD3⟩
    · exact .inl ⟨_, rfl, fin acc ph' hh⟩
  walk_at "nx"
  refine ⟨fun c => ?_, fun c => ?_⟩
  · rw [run_repT ⟨by omega, by omega, by simp⟩]
    refine ⟨by decide, .inl ⟨_, rfl, ⟨List.replicate cnt.toNat (1 + sz), ?_, by rw [List.length_replicate]; omega⟩, hD2.mono (by omega)⟩⟩
    rw [List.map_replicate]
    congr 1
    exact List.flatten_replicate_singleton
  walk_at "nx"
  refine ⟨fun c => ?_, fun c => ?_⟩
  · refine ⟨hrg, (lc_ints hD2 (by omega) fun j ph' hj hD => ?_).mono fun acc ph' hh => ?_⟩
    · walk_at "fd"
      refine ⟨by decide, run_lcP (bitP (0 + (j : Int) + 1)) id _ stands_none (by rw [upto_length, hsl]; decide) (fun c d e => ?_) ?_⟩
      · obtain ⟨rfl, hc⟩ := upto_get e
        refine ⟨_, rfl, ?_⟩
        walk_at "fd"
        refine ⟨by decide, .int (2 ^ c), bit_at c hc, ?_⟩
        walk_at "fd"
        refine ⟨⟨bit_pos c, bit_lt c hc⟩, by decide, ?_, fun _ => rfl⟩
        show _ = ((0 + (j : Int) + 1) / 2 ^ (0 + (c : Int)).toNat % 2 == 1)
        rw [show (0 + (c : Int)).toNat = c by omega]
      · obtain ⟨c, hc, hb⟩ := low_bit (j + 1) (by omega) (by omega)
        have hmem : D.int (0 + (c : Int)) ∈ (upto 0 (Int.toNat 9)).filter (bitP (0 + (j : Int) + 1)) := by
          refine List.mem_filter.mpr ⟨?_, ?_⟩
          · unfold upto
            exact List.mem_map.mpr ⟨c, List.mem_range.mpr hc, rfl⟩
          · show ((0 + (j : Int) + 1) / 2 ^ (0 + (c : Int)).toNat % 2 == 1) = true
            rw [show (0 + (c : Int)).toNat = c by omega, beq_iff_eq]
            rw [show (0 + (j : Int) + 1) = ((j + 1 : Nat) : Int) by omega]
            have : (((j + 1) / 2 ^ c % 2 : Nat) : Int) = 1 := by rw [hb]; rfl
            rw [Int.natCast_emod, Int.natCast_ediv, Int.natCast_pow] at this
            exact this
        cases hl : (upto 0 (Int.toNat 9)).filter (bitP (0 + (j : Int) + 1)) with
        | nil => rw [hl] at hmem; cases hmem
        | cons d r =>
          have hd : d ∈ (upto 0 (Int.toNat 9)).filter (bitP (0 + (j : Int) + 1)) := by rw [hl]; exact List.mem_cons_self
          obtain ⟨c', _, rfl⟩ := List.mem_map.mp (List.mem_filter.mp hd).1
          refine ⟨_, rfl, ?_⟩
          show FD.Run (gAdd (.int 1) (.int _)) ph' _
          walk_at "fd"
          exact ⟨⟨_, rfl⟩, hD.mono (by omega)⟩
    · exact .inl ⟨_, rfl, fin acc ph' hh⟩
  walk_at "nx"
  refine ⟨fun c => ?_, fun c => ?_⟩
  · refine ⟨hrg, (lc_ints hD2 (by omega) fun j ph' hj hD => ?_).mono fun acc ph' hh => ?_⟩
    · walk_at "fd"
      refine ⟨by decide, (draw_call hD (by omega) (by omega) (by omega)).mono fun d ph3 ⟨⟨r, e, _, _⟩, hD3⟩ => ?_⟩
      subst e
      walk_at "fd"
      exact ⟨⟨_, rfl⟩, hD3⟩
    · exact .inl ⟨_, rfl, fin acc ph' hh⟩
  walk_at "nx"
  refine ⟨hrg, (lc_ints hD2 (by omega) fun j ph' hj hD => ?_).mono fun acc ph' hh => ?_⟩
  · walk_at "fd"
    split
    · exact ⟨⟨_, rfl⟩, hD.mono (by omega)⟩
    · exact ⟨⟨_, rfl⟩, hD.mono (by omega)⟩
  · exact .inl ⟨_, rfl, fin acc ph' hh⟩
end W

set_option Elab.async false
set_option linter.all false
/-! K17: sets of kin, with no program in sight. -/
namespace K17

def look (ms : List Int) (x : Int) : Nat → Option Nat
  | 0 => none
  | i + 1 => if ms.getD i 0 ≤ x then some i else look ms x i
def home1 (ms : List Int) (i : Nat) (hs : List Int) : Int := match look ms (ms.getD i 0) i with
  | some s => if ms.getD s 0 = ms.getD i 0 then hs.getD s 0 else (i : Int) + 1
  | none => (i : Int) + 1
def homes (ms : List Int) : Nat → List Int
  | 0 => []
  | i + 1 => homes ms i ++ [home1 ms i (homes ms i)]
def cls (hs : List Int) (v : Int) : List Int := ((List.range hs.length).filter fun j => hs.getD j 0 == v).map fun (j : Nat) => (j : Int) + 1
theorem homes_len (ms : List Int) : ∀ i, (homes ms i).length = i
  | 0 => rfl
  | i + 1 => by show (homes ms i ++ [_]).length = _; rw [List.length_append, homes_len ms i]; rfl
theorem cls_snoc (hs : List Int) (h v : Int) : cls (hs ++ [h]) v = cls hs v ++ if h = v then [(hs.length : Int) + 1] else [] := by
  unfold cls
  rw [List.length_append, List.length_singleton, List.range_succ, List.filter_append, List.map_append]
  congr 1
  · congr 1
    apply List.filter_congr
    intro j hj
    have : j < hs.length := List.mem_range.mp hj
    simp [List.getD_eq_getElem?_getD, List.getElem?_append_left this]
  · by_cases e : h = v
    · subst e; simp [List.getD_eq_getElem?_getD]
    · simp [List.getD_eq_getElem?_getD, e]
theorem cls_nil (hs : List Int) (v : Int) (h : v ∉ hs) : cls hs v = [] := by
  unfold cls
  rw [List.map_eq_nil_iff, List.filter_eq_nil_iff]
  intro j hj
  have hj : j < hs.length := List.mem_range.mp hj
  simp only [List.getD_eq_getElem?_getD, List.getElem?_eq_getElem hj, Option.getD_some, beq_iff_eq]
  exact fun e => h (e ▸ List.getElem_mem hj)
theorem home_le (ms : List Int) : ∀ i, ∀ v ∈ homes ms i, v ≤ (i : Int)
  | 0, v, h => by cases h
  | i + 1, v, h => by
    have ih := home_le ms i
    rcases List.mem_append.mp (show v ∈ homes ms i ++ [home1 ms i (homes ms i)] from h) with h | h
    · have := ih v h; omega
    · have h := List.mem_singleton.mp h
      subst h
      unfold home1
      split
      · rename_i s hs
        split
        · by_cases hl : s < (homes ms i).length
          · rw [List.getD_eq_getElem?_getD, List.getElem?_eq_getElem hl, Option.getD_some]
            have := ih _ (List.getElem_mem hl); omega
          · rw [List.getD_eq_getElem?_getD, List.getElem?_eq_none (by omega)]
            show (0 : Int) ≤ _
            omega
        · omega
      · omega

def hd (s : List Int) : Int := s.headD 0
def lastG (sets : List (List Int)) (n : Nat) : Nat := ((sets.getD n []).getLastD 1 - 1).toNat
structure Inv (ms : List Int) (i : Nat) (sets : List (List Int)) (fnd : List Nat) (st : List (Int × Nat)) : Prop where
  perm : (fnd ++ st.map (·.2)).Perm (List.range sets.length)
  cl : ∀ s ∈ sets, s = cls (homes ms i) (hd s) ∧ s ≠ []
  inc : (sets.map hd).Pairwise (· < ·)
  mem : ∀ v, v ∈ sets.map hd ↔ v ∈ homes ms i
  tot : (sets.map List.length).sum = i
  back : ∀ x, look ms x i = (st.reverse.find? fun e => decide (e.1 ≤ x)).map fun e => lastG sets e.2
  stk : ∀ e ∈ st, e.2 < sets.length ∧ lastG sets e.2 < i ∧ ms.getD (lastG sets e.2) 0 = e.1 ∧ (homes ms i).getD (lastG sets e.2) 0 = hd (sets.getD e.2 [])
theorem Inv.start (ms : List Int) : Inv ms 0 [] [] [] where
  perm := List.Perm.refl _
  cl := fun s h => by cases h
  inc := List.Pairwise.nil
  mem := fun v => Iff.rfl
  tot := rfl
  back := fun x => rfl
  stk := fun e h => by cases h

section
variable {ms : List Int} {i : Nat} {sets : List (List Int)} {fnd : List Nat} {st pop : List (Int × Nat)}
theorem find_pos {e : Int × Nat} {r : List (Int × Nat)} {x : Int} (h : e.1 ≤ x) : (e :: r).find? (fun e => decide (e.1 ≤ x)) = some e := List.find?_cons_of_pos (by simpa using h)
theorem find_neg {e : Int × Nat} {r : List (Int × Nat)} {x : Int} (h : ¬ e.1 ≤ x) : (e :: r).find? (fun e => decide (e.1 ≤ x)) = r.find? fun e => decide (e.1 ≤ x) := List.find?_cons_of_neg (by simpa using h)
theorem find_pop {a x : Int} (hp : ∀ e ∈ pop, a < e.1) (hx : x ≤ a) : (st ++ pop).reverse.find? (fun e => decide (e.1 ≤ x)) = st.reverse.find? fun e => decide (e.1 ≤ x) := by
  rw [List.reverse_append, List.find?_append]
  have : pop.reverse.find? (fun e => decide (e.1 ≤ x)) = none := by
    rw [List.find?_eq_none]
    intro e he
    have := hp e (List.mem_reverse.mp he)
    simp only [decide_eq_true_eq]
    omega
  rw [this]
  rfl
/-- from here the stack stands at st, pop taken away: marks in pop are greater than the next one -/
theorem look_top {a : Int} (I : Inv ms i sets fnd (st ++ pop)) (hp : ∀ e ∈ pop, a < e.1) {x : Int} (hx : x ≤ a) : look ms x i = (st.reverse.find? fun e => decide (e.1 ≤ x)).map fun e => lastG sets e.2 := by
  rw [I.back x, find_pop hp hx]
theorem home_of (ms : List Int) (i : Nat) : homes ms (i + 1) = homes ms i ++ [home1 ms i (homes ms i)] := rfl
theorem getD_snoc {α : Type} (l : List α) (x d : α) (n : Nat) (h : n < l.length) : (l ++ [x]).getD n d = l.getD n d := by
  rw [List.getD_eq_getElem?_getD, List.getD_eq_getElem?_getD, List.getElem?_append_left h]
theorem lastG_snoc (sets : List (List Int)) (s : List Int) (n : Nat) (h : n < sets.length) : lastG (sets ++ [s]) n = lastG sets n := by
  unfold lastG
  rw [getD_snoc _ _ _ _ h]
/-- a new set -/
theorem Inv.new (I : Inv ms i sets fnd (st ++ pop)) (hp : ∀ e ∈ pop, ms.getD i 0 < e.1) (hl : ∀ e, st.getLast? = some e → e.1 < ms.getD i 0) :
    Inv ms (i + 1) (sets ++ [[(i : Int) + 1]]) (fnd ++ (pop.reverse.map (·.2))) (st ++ [(ms.getD i 0, sets.length)]) := by
  have hh : home1 ms i (homes ms i) = (i : Int) + 1 := by
    unfold home1
    rw [look_top I hp (Int.le_refl _)]
    cases hr : st.reverse with
    | nil => rfl
    | cons e r =>
      have he : st.getLast? = some e := by rw [List.getLast?_eq_head?_reverse, hr]; rfl
      have h1 := hl e he
      rw [find_pos (by omega)]
      have hm : e ∈ st ++ pop := List.mem_append_left _ (List.mem_of_getLast? he)
      obtain ⟨_, _, h3, _⟩ := I.stk e hm
      show (if ms.getD (lastG sets e.2) 0 = ms.getD i 0 then _ else _) = _
      rw [h3, if_neg (by omega)]
  have hnot : ((i : Int) + 1) ∉ homes ms i := fun h => by have := home_le ms i _ h; omega
  have hhs : homes ms (i + 1) = homes ms i ++ [(i : Int) + 1] := by rw [home_of, hh]
  refine ⟨?_, fun s hs => ?_, ?_, fun v => ?_, ?tot, fun x => ?_, fun e he => ?_⟩
  case tot => rw [List.map_append, List.sum_append, I.tot]; rfl
  · rw [List.length_append, List.length_singleton, List.range_succ, List.map_append, ← List.append_assoc]
    refine List.Perm.append ?_ (List.Perm.refl _)
    refine List.Perm.trans ?_ I.perm
    rw [List.map_append, List.append_assoc]
    refine List.Perm.append (List.Perm.refl _) ?_
    refine List.Perm.trans List.perm_append_comm ?_
    refine List.Perm.append (List.Perm.refl _) ?_
    exact (List.reverse_perm pop).map _
  · rcases List.mem_append.mp hs with h | h
    · obtain ⟨h1, h2⟩ := I.cl s h
      refine ⟨?_, h2⟩
      have hv : hd s ∈ homes ms i := (I.mem _).mp (List.mem_map_of_mem h)
      rw [hhs, cls_snoc, if_neg (fun (e : (i : Int) + 1 = hd s) => hnot (by rw [e]; exact hv)), List.append_nil]
      exact h1
    · have h := List.mem_singleton.mp h
      subst h
      refine ⟨?_, List.cons_ne_nil _ _⟩
      show _ = cls _ ((i : Int) + 1)
      rw [hhs, cls_snoc, if_pos rfl, cls_nil _ _ hnot, homes_len]; rfl
  · rw [List.map_append, List.pairwise_append]
    refine ⟨I.inc, List.pairwise_singleton _ _, fun a ha b hb => ?_⟩
    have hb := List.mem_singleton.mp hb
    subst hb
    have := home_le ms i a ((I.mem a).mp ha)
    show a < (i : Int) + 1
    omega
  · rw [List.map_append, List.mem_append, I.mem v, hhs, List.mem_append]
    exact Iff.rfl
  · rw [List.reverse_append]
    show (if ms.getD i 0 ≤ x then some i else look ms x i) = _
    by_cases hx : ms.getD i 0 ≤ x
    · rw [if_pos hx]
      show _ = (((ms.getD i 0, sets.length) :: st.reverse).find? _).map _
      rw [find_pos hx]
      show some i = some (lastG (sets ++ [[(i : Int) + 1]]) sets.length)
      unfold lastG
      rw [List.getD_eq_getElem?_getD, List.getElem?_append_right (Nat.le_refl _), Nat.sub_self]
      simp
    · rw [if_neg hx, look_top I hp (by omega)]
      show _ = (((ms.getD i 0, sets.length) :: st.reverse).find? _).map _
      rw [find_neg hx]
      cases hf : st.reverse.find? (fun e => decide (e.1 ≤ x)) with
      | none => rfl
      | some e =>
        have hm : e ∈ st ++ pop := List.mem_append_left _ (List.mem_reverse.mp (List.mem_of_find?_eq_some hf))
        show some (lastG sets e.2) = some (lastG (sets ++ [[(i : Int) + 1]]) e.2)
        rw [lastG_snoc _ _ _ (I.stk e hm).1]
  · rcases List.mem_append.mp he with h | h
    · obtain ⟨h1, h2, h3, h4⟩ := I.stk e (List.mem_append_left _ h)
      rw [lastG_snoc _ _ _ h1, getD_snoc _ _ _ _ h1, hhs, getD_snoc _ _ _ _ (by rw [homes_len]; exact h2)]
      exact ⟨by rw [List.length_append]; omega, by omega, h3, h4⟩
    · have h := List.mem_singleton.mp h
      subst h
      have e1 : lastG (sets ++ [[(i : Int) + 1]]) sets.length = i := by
        unfold lastG
        rw [List.getD_eq_getElem?_getD, List.getElem?_append_right (Nat.le_refl _), Nat.sub_self]
        simp
      refine ⟨by simp, by rw [e1]; omega, by rw [e1], ?_⟩
      rw [e1, hhs]
      have : (homes ms i ++ [(i : Int) + 1]).getD i 0 = (i : Int) + 1 := by
        rw [List.getD_eq_getElem?_getD, List.getElem?_append_right (by rw [homes_len]; exact Nat.le_refl _), homes_len, Nat.sub_self]; rfl
      rw [this, List.getD_eq_getElem?_getD, List.getElem?_append_right (Nat.le_refl _), Nat.sub_self]
      rfl
theorem sum_set : ∀ (l : List (List Int)) (n : Nat) (h : n < l.length) (x : Int), ((l.set n (l.getD n [] ++ [x])).map List.length).sum = (l.map List.length).sum + 1
  | a :: l, 0, _, x => by
    show (((a ++ [x]) :: l).map List.length).sum = _
    rw [List.map_cons, List.map_cons, List.sum_cons, List.sum_cons, List.length_append, List.length_singleton]
    omega
  | a :: l, n + 1, h, x => by
    have := sum_set l n (by simpa using h) x
    show ((a :: l.set n (l.getD n [] ++ [x])).map List.length).sum = _
    rw [List.map_cons, List.map_cons, List.sum_cons, List.sum_cons, this]
    omega
/-- the gap joins the set on top -/
theorem Inv.same {n : Nat} (I : Inv ms i sets fnd ((st ++ [(ms.getD i 0, n)]) ++ pop)) (hp : ∀ e ∈ pop, ms.getD i 0 < e.1) :
    n < sets.length ∧ Inv ms (i + 1) (sets.set n (sets.getD n [] ++ [(i : Int) + 1])) (fnd ++ (pop.reverse.map (·.2))) (st ++ [(ms.getD i 0, n)]) := by
  have hmn : (ms.getD i 0, n) ∈ (st ++ [(ms.getD i 0, n)]) ++ pop := List.mem_append_left _ (List.mem_append_right _ (List.mem_singleton.mpr rfl))
  obtain ⟨hn, s2, s3, s4⟩ := I.stk _ hmn
  refine ⟨hn, ?_⟩
  have hset : sets.getD n [] ∈ sets := by
    rw [List.getD_eq_getElem?_getD, List.getElem?_eq_getElem hn]; exact List.getElem_mem hn
  obtain ⟨c1, c2⟩ := I.cl _ hset
  have hk : look ms (ms.getD i 0) i = some (lastG sets n) := by
    rw [look_top I hp (Int.le_refl _), List.reverse_append]
    show (((ms.getD i 0, n) :: st.reverse).find? _).map _ = _
    rw [find_pos (show (ms.getD i 0, n).1 ≤ ms.getD i 0 from Int.le_refl _)]
    rfl
  have hh : home1 ms i (homes ms i) = hd (sets.getD n []) := by
    unfold home1
    rw [hk]
    show (if ms.getD (lastG sets n) 0 = ms.getD i 0 then (homes ms i).getD (lastG sets n) 0 else _) = _
    rw [if_pos s3]
    exact s4
  generalize hB : sets.getD n [] = B at *
  have hhs : homes ms (i + 1) = homes ms i ++ [hd B] := by rw [home_of, hh]
  have hdB : hd (B ++ [(i : Int) + 1]) = hd B := by
    cases B with
    | nil => exact absurd rfl c2
    | cons b r => rfl
  have hnd : (fnd ++ (st ++ [(ms.getD i 0, n)] ++ pop).map (·.2)).Nodup := I.perm.nodup_iff.mpr List.nodup_range
  have hne : ∀ e ∈ st, e.2 ≠ n := fun e he z => by
    have h2 := (List.nodup_append.mp hnd).2.1
    rw [List.map_append, List.map_append] at h2
    have h3 := (List.nodup_append.mp (List.nodup_append.mp h2).1).2.2
    exact h3 e.2 (List.mem_map_of_mem he) n (by simp) z
  have hmap : (sets.set n (B ++ [(i : Int) + 1])).map hd = sets.map hd := by
    apply List.ext_getElem?
    intro j
    rw [List.getElem?_map, List.getElem?_map, List.getElem?_set]
    by_cases hj : n = j
    · subst hj
      rw [if_pos rfl, if_pos hn]
      have : sets[n]? = some B := by
        rw [← hB, List.getD_eq_getElem?_getD, List.getElem?_eq_getElem hn]; rfl
      rw [this]
      show some _ = some _
      rw [hdB]
    · rw [if_neg hj]
  have hl : ∀ m, m ≠ n → lastG (sets.set n (B ++ [(i : Int) + 1])) m = lastG sets m := fun m hm => by
    unfold lastG
    rw [List.getD_eq_getElem?_getD, List.getElem?_set_ne (Ne.symm hm), ← List.getD_eq_getElem?_getD]
  have hln : lastG (sets.set n (B ++ [(i : Int) + 1])) n = i := by
    unfold lastG
    rw [List.getD_eq_getElem?_getD, List.getElem?_set_self hn]
    simp
  refine ⟨?_, fun s hs => ?_, ?_, fun v => ?_, ?tot, fun x => ?_, fun e he => ?_⟩
  case tot =>
    have := sum_set sets n hn ((i : Int) + 1)
    rw [hB, I.tot] at this
    exact this
  · rw [List.length_set]
    refine List.Perm.trans ?_ I.perm
    rw [List.map_append (l₁ := st ++ [(ms.getD i 0, n)]) (l₂ := pop), List.append_assoc]
    refine List.Perm.append (List.Perm.refl _) ?_
    refine List.Perm.trans List.perm_append_comm ?_
    refine List.Perm.append (List.Perm.refl _) ?_
    exact (List.reverse_perm pop).map _
  · obtain ⟨j, hj, rfl⟩ := List.mem_iff_getElem.mp hs
    rw [List.length_set] at hj
    by_cases e : n = j
    · subst e
      rw [List.getElem_set_self]
      refine ⟨?_, by simp⟩
      rw [hdB, hhs, cls_snoc, if_pos rfl, homes_len, ← c1]
    · rw [List.getElem_set_ne e]
      obtain ⟨d1, d2⟩ := I.cl _ (List.getElem_mem hj)
      refine ⟨?_, d2⟩
      rw [hhs, cls_snoc, if_neg, List.append_nil]
      · exact d1
      · intro z
        have hp2 := I.inc
        have gn : (sets.map hd)[n]? = some (hd B) := by
          rw [List.getElem?_map, ← hB, List.getD_eq_getElem?_getD, List.getElem?_eq_getElem hn]; rfl
        have gj : (sets.map hd)[j]? = some (hd B) := by
          rw [List.getElem?_map, List.getElem?_eq_getElem hj, z]; rfl
        rcases Nat.lt_or_gt_of_ne e with q | q
        · have := (List.pairwise_iff_getElem.mp hp2) n j (by simpa using hn) (by simpa using hj) q
          rw [List.getElem?_eq_getElem (by simpa using hn)] at gn
          rw [List.getElem?_eq_getElem (by simpa using hj)] at gj
          rw [Option.some.inj gn, Option.some.inj gj] at this
          omega
        · have := (List.pairwise_iff_getElem.mp hp2) j n (by simpa using hj) (by simpa using hn) q
          rw [List.getElem?_eq_getElem (by simpa using hn)] at gn
          rw [List.getElem?_eq_getElem (by simpa using hj)] at gj
          rw [Option.some.inj gn, Option.some.inj gj] at this
          omega
  · rw [hmap]; exact I.inc
  · rw [hmap, I.mem v, hhs, List.mem_append]
    refine ⟨fun h => .inl h, fun h => h.elim id fun z => ?_⟩
    have z := List.mem_singleton.mp z
    subst z
    exact (I.mem _).mp (List.mem_map_of_mem hset)
  · rw [List.reverse_append]
    show (if ms.getD i 0 ≤ x then some i else look ms x i) = (((ms.getD i 0, n) :: st.reverse).find? _).map _
    by_cases hx : ms.getD i 0 ≤ x
    · rw [if_pos hx, find_pos hx]
      show some i = some (lastG (sets.set n (B ++ [(i : Int) + 1])) n)
      rw [hln]
    · rw [if_neg hx, look_top I hp (by omega), List.reverse_append]
      show (((ms.getD i 0, n) :: st.reverse).find? _).map _ = _
      rw [find_neg hx]
      cases hf : st.reverse.find? (fun e => decide (e.1 ≤ x)) with
      | none => rfl
      | some e =>
        show some (lastG sets e.2) = some (lastG (sets.set n (B ++ [(i : Int) + 1])) e.2)
        rw [hl _ (hne e (List.mem_reverse.mp (List.mem_of_find?_eq_some hf)))]
  · rcases List.mem_append.mp he with h | h
    · have hm : e ∈ (st ++ [(ms.getD i 0, n)]) ++ pop := List.mem_append_left _ (List.mem_append_left _ h)
      obtain ⟨h1, h2, h3, h4⟩ := I.stk e hm
      rw [hl _ (hne e h), List.length_set, hhs, getD_snoc _ _ _ _ (by rw [homes_len]; exact h2)]
      refine ⟨h1, by omega, h3, ?_⟩
      rw [h4]
      congr 1
      rw [List.getD_eq_getElem?_getD, List.getD_eq_getElem?_getD, List.getElem?_set_ne (Ne.symm (hne e h))]
    · have h := List.mem_singleton.mp h
      subst h
      refine ⟨by rw [List.length_set]; exact hn, by rw [hln]; omega, by rw [hln], ?_⟩
      rw [hln, hhs]
      have : (homes ms i ++ [hd B]).getD i 0 = hd B := by
        rw [List.getD_eq_getElem?_getD, List.getElem?_append_right (by rw [homes_len]; exact Nat.le_refl _), homes_len, Nat.sub_self]; rfl
      rw [this, List.getD_eq_getElem?_getD, List.getElem?_set_self hn]
      exact hdB.symm
/-- at the end: the sets, in the order of making, are those of each home -/
theorem Inv.done (I : Inv ms i sets fnd st) : sets = (FD.setL (homes ms i)).map (cls (homes ms i)) := by
  have e : sets.map hd = FD.setL (homes ms i) := FD.setL_unique I.inc fun v => I.mem v
  rw [← e, List.map_map]
  have : ∀ s ∈ sets, (cls (homes ms i) ∘ hd) s = s := fun s hs => (I.cl s hs).1.symm
  rw [List.map_congr_left this, List.map_id'']
  exact fun _ => rfl
theorem lex_heads : ∀ {a b : List Int}, a ≠ [] → b ≠ [] → hd a < hd b → HT.lexLt b a = false
  | [], _, h, _, _ => absurd rfl h
  | _, [], _, h, _ => absurd rfl h
  | x :: a, y :: b, _, _, h => by
    have h : x < y := h
    rw [HT.lexLt_cons, if_neg (by omega)]
    exact decide_eq_false (by omega)
theorem Inv.sorted (I : Inv ms i sets fnd st) : sets.Pairwise fun a b => HT.lexLt b a = false := by
  have := List.pairwise_map.mp I.inc
  exact this.imp_of_mem fun {a b} ha hb h => lex_heads (I.cl a ha).2 (I.cl b hb).2 h
theorem gap_le {v x : Int} {hs : List Int} (h : x ∈ cls hs v) : 1 ≤ x ∧ x ≤ hs.length := by
  unfold cls at h
  obtain ⟨j, hj, rfl⟩ := List.mem_map.mp h
  have := List.mem_range.mp (List.mem_filter.mp hj).1
  omega
end
end K17

set_option Elab.async false
set_option maxRecDepth 100000
set_option linter.all false
set_option maxHeartbeats 1000000
namespace W
open PySem L2 FD
local macro_rules | `(tactic| walk_at "fd") => `(tactic| simp only [run_fVar, run_fC, run_fBin, run_fNil, run_fCons, run_fCall, run_fCallL, run_fCallK, run_fTest, run_fNot, run_fAnd, run_fOr, run_fIf, run_fTup, run_fLst, run_fVal, run_fNeg, run_fMethL, run_fMethL0, run_fRevL, run_fRevT, run_ixR, run_ixT, run_ixL, run_appendR, run_putR, run_own,
  run_sSet, run_sRet, run_sDrop, run_sSkip, run_sIf, run_sPut, run_sPar2, run_sAsg, tg_name, tg_nil, tg_cons, tg_tup, if_true, Option.bind_some, wipeD, run_sFor, run_fLc, run_fYes, run_range1, run_callW, run_addI, run_sub, run_mul, run_div, run_mod, run_pow, run_lt, run_le, run_gt, run_ge, run_toInt, run_eqI, run_neI, run_eqS,
  List.getElem?_cons_zero, List.getElem?_cons_succ, Option.getD_some, Option.getD_none, List.set_cons_zero, List.set_cons_succ, List.map_cons, List.map_nil, List.length_cons, List.length_nil, List.replicate, List.append_eq, List.cons_append, List.nil_append, Nat.reduceAdd, Nat.reduceSub, Nat.zero_add,
  Option.some.injEq, exists_eq_left', exists_eq_left, D.int.injEq, D.bl.injEq, D.ref.injEq, List.cons.injEq, and_true, true_and, atI0, atI1, atI2, atI3, moL_some, ixN32, run_popR, run_oNo, run_oAt, run_fSl, run_slF, run_slL, run_slT, run_iSeq, run_itemsR, run_itemsL, run_itemsT, run_listL, run_tupleL, run_lenT, run_lenL, lviewF_L])

local macro_rules | `(tactic| walk_at "nx") => `(tactic| (refine cont_nx.mpr ?_; (try rw [run_seq]); walk_at "fd"))
theorem get_int {ms : List Int} {j : Nat} (h : j < ms.length) : (ms.map D.int)[j]? = some (.int (ms.getD j 0)) := by
  rw [List.getElem?_map, List.getD_eq_getElem?_getD, List.getElem?_eq_getElem h]; rfl
theorem at_int {ms : List Int} {j : Nat} (h : j < ms.length) : atI (ms.map D.int) (0 + (j : Int)) = some (.int (ms.getD j 0)) := by
  rw [show (0 + (j : Int)) = (j : Int) by omega, atI_nat', get_int h]
def nearP (ms : List Int) (x : Int) : D → Bool
  | .int c => decide (ms.getD c.toNat 0 ≤ x)
  | _ => false
theorem upto_snoc (i : Nat) : upto 0 (i + 1) = upto 0 i ++ [.int (0 + (i : Int))] := by
  unfold upto
  rw [List.range_succ, List.map_append]; rfl
theorem near_look (ms : List Int) (x : Int) : ∀ i, (K17.look ms x i = none → (upto 0 i).filter (nearP ms x) = []) ∧ ∀ s, K17.look ms x i = some s → s < i ∧ ∃ r, (upto 0 i).filter (nearP ms x) = r ++ [.int (0 + (s : Int))]
  | 0 => ⟨fun _ => rfl, fun s h => nomatch h⟩
  | i + 1 => by
    obtain ⟨h1, h2⟩ := near_look ms x i
    have hp : nearP ms x (.int (0 + (i : Int))) = decide (ms.getD i 0 ≤ x) := by
      show decide (ms.getD (0 + (i : Int)).toNat 0 ≤ x) = _
      rw [show (0 + (i : Int)).toNat = i by omega]
    have e : K17.look ms x (i + 1) = if ms.getD i 0 ≤ x then some i else K17.look ms x i := rfl
    rw [e, upto_snoc, List.filter_append]
    by_cases c : ms.getD i 0 ≤ x
    · rw [if_pos c]
      refine ⟨fun z => (by cases z), fun s z => ?_⟩
      cases z
      refine ⟨Nat.lt_succ_self _, (upto 0 i).filter (nearP ms x), ?_⟩
      rw [List.filter_cons_of_pos (by rw [hp]; exact decide_eq_true c)]; rfl
    · rw [if_neg c, List.filter_cons_of_neg (by rw [hp]; simpa using c), List.filter_nil, List.append_nil]
      exact ⟨h1, fun s z => let ⟨a, b⟩ := h2 s z; ⟨Nat.lt_succ_of_lt a, b⟩⟩
theorem homes_ok (ms : List Int) (h : ms.length ≤ 1000) : Run (f_l_homes [.tup (ms.map .int)]) [] fun d ph1 => d = .ref 0 ∧ ph1 = [.lst ((K17.homes ms ms.length).map .int)] := by
  have hsl : (sizeLine : Nat) = 16777216 := sizeLine_eq
  unfold f_l_homes
  rw [run_fDef]
  unfold b_l_homes
  rw [run_seq]
  walk_at "fd"
  refine ⟨Nat.zero_le _, ?_⟩
  walk_at "nx"
  rw [List.length_map]
  refine ⟨⟨by omega, by omega⟩, ?_⟩
  rw [Int.toNat_natCast]
  refine run_for (fun i σ ph => (∃ a b, σ = [some (.tup (ms.map .int)), some (.ref 0), a, b, none]) ∧ ph = [.lst ((K17.homes ms i).map .int)] ∧ i ≤ ms.length) _ 0 _ _ ⟨⟨_, _, rfl⟩, rfl, Nat.zero_le _⟩ (fun _ _ _ _ => stands_none) (fun i d σ ph e ⟨⟨a, b, e1⟩, e2, hi⟩ => ?_) (fun σ ph ⟨⟨a, b, e1⟩, e2, hi⟩ => ?_)
  · obtain ⟨rfl, hlt⟩ := upto_get e
    rw [Nat.zero_add] at e2 hi ⊢
    subst e1 e2
    refine ⟨_, rfl, ?_⟩
    rw [run_seq]
    walk_at "fd"
    refine ⟨⟨by omega, by omega⟩, ?_⟩
    rw [show (0 + (i : Int)).toNat = i by omega]
    refine run_lcP (nearP ms (ms.getD i 0)) id _ stands_none (by rw [upto_length]; omega) (fun s d e => ?_) ?_
    · obtain ⟨rfl, hs⟩ := upto_get e
      refine ⟨_, rfl, ?_⟩
      walk_at "fd"
      refine ⟨_, at_int (by omega), _, at_int hlt, ?_⟩
      walk_at "fd"
      refine ⟨?_, fun _ => rfl⟩
      show _ = decide (ms.getD (0 + (s : Int)).toNat 0 ≤ _)
      rw [show (0 + (s : Int)).toNat = s by omega]
    · rw [List.map_id]
      walk_at "nx"
      have hf : ∀ (ph' : PH), ∀ d ∈ (upto 0 i).filter (nearP ms (ms.getD i 0)), Fine 39 ph' d := fun ph' d hd => by
        obtain ⟨c, _, rfl⟩ := List.mem_map.mp (List.mem_filter.mp hd).1
        exact .int _
      have hls : ((K17.homes ms i).map D.int).length < sizeLine := by rw [List.length_map, K17.homes_len]; omega
      refine ⟨rfl, Nat.zero_le _, ?_⟩
      rw [run_neNil rfl (hf _)]
      obtain ⟨n1, n2⟩ := near_look ms (ms.getD i 0) i
      have hh : K17.homes ms (i + 1) = K17.homes ms i ++ [K17.home1 ms i (K17.homes ms i)] := rfl
      rw [hh, List.map_append]
      cases hk : K17.look ms (ms.getD i 0) i with
      | none =>
        have e1 : K17.home1 ms i (K17.homes ms i) = (i : Int) + 1 := by unfold K17.home1; rw [hk]
        rw [n1 hk, e1]
        refine ⟨false, rfl, ?_⟩
        rw [if_neg Bool.false_ne_true, if_neg Bool.false_ne_true]
        exact ⟨_, rfl, hls, ⟨_, _, rfl, rfl⟩, by rw [show 0 + (i : Int) + 1 = (i : Int) + 1 by omega]; rfl, hlt⟩
      | some s =>
        obtain ⟨hs, r, hr⟩ := n2 s hk
        rw [hr]
        refine ⟨true, by simp, ?_⟩
        rw [if_pos rfl]
        refine ⟨_, atI_last', ?_⟩
        rw [run_ixT]
        refine ⟨_, at_int (by omega), _, at_int hlt, ?_⟩
        rw [run_eqI]
        refine ⟨_, rfl, ?_⟩
        by_cases c : ms.getD s 0 = ms.getD i 0
        · rw [if_pos (by rw [c]; exact beq_self_eq_true _)]
          refine ⟨_, atI_last', ?_⟩
          rw [run_ixR]
          refine ⟨_, rfl, _, at_int (by rw [K17.homes_len]; exact hs), ?_⟩
          have e1 : K17.home1 ms i (K17.homes ms i) = (K17.homes ms i).getD s 0 := by unfold K17.home1; rw [hk]; exact if_pos c
          exact ⟨_, rfl, hls, ⟨_, _, rfl, rfl⟩, by rw [e1]; rfl, hlt⟩
        · rw [if_neg (by simpa using c)]
          have e1 : K17.home1 ms i (K17.homes ms i) = (i : Int) + 1 := by unfold K17.home1; rw [hk]; exact if_neg c
          exact ⟨_, rfl, hls, ⟨_, _, rfl, rfl⟩, by rw [e1, show 0 + (i : Int) + 1 = (i : Int) + 1 by omega]; rfl, hlt⟩
  · subst e1 e2
    rw [upto_length, Nat.zero_add]
    walk_at "nx"
    exact .inl ⟨_, rfl, rfl⟩
end W

set_option Elab.async false
set_option maxRecDepth 100000
set_option linter.all false
set_option maxHeartbeats 1000000
namespace W
open PySem L2 FD

theorem intsOf_map : ∀ ns : List Int, intsOf (ns.map D.int) = some ns
  | [] => rfl
  | n :: ns => by show (intsOf (ns.map D.int)).map (n :: ·) = _; rw [intsOf_map ns]; rfl
theorem run_fSortSet {σ : Sg} {ph : PH} {Q : List D → PH → Prop} {fe : FE} : FD.Run (fSortSet fe σ) ph Q ↔ FD.Run (fe σ) ph fun x ph1 => ∃ ns, intsAt x ph1 = some ns ∧ ns.length ≤ 4000 ∧ Q ((setL ns).map D.int) ph1 := by
  unfold fSortSet
  rw [run_bnd]
  refine Iff.of_eq (congrArg (FD.Run (fe σ) ph) (funext fun x => funext fun ph1 => propext ?_))
  unfold FD.Run
  cases h : intsAt x ph1 with
  | none =>
    dsimp only
    rw [h]
    exact ex0 fun ⟨_, e, _⟩ => nomatch e
  | some ns =>
    dsimp only
    rw [h]
    dsimp only
    by_cases c : ns.length ≤ 4000
    · rw [if_pos c]
      exact ex1.trans ⟨fun q => ⟨ns, rfl, c, q⟩, fun ⟨_, e, _, q⟩ => by cases e; exact q⟩
    · rw [if_neg c]
      exact ex0 fun ⟨_, e, c', _⟩ => by cases e; exact c c'
local macro_rules | `(tactic| walk_at "fd") => `(tactic| simp only [run_fVar, run_fC, run_fBin, run_fNil, run_fCons, run_fCall, run_fCallL, run_fCallK, run_fTest, run_fNot, run_fAnd, run_fOr, run_fIf, run_fTup, run_fLst, run_fVal, run_fNeg, run_fMethL, run_fMethL0, run_fRevL, run_fRevT, run_ixR, run_ixT, run_ixL, run_appendR, run_putR, run_own,
  run_sSet, run_sRet, run_sDrop, run_sSkip, run_sIf, run_sPut, run_sPar2, run_sAsg, tg_name, tg_nil, tg_cons, tg_tup, if_true, Option.bind_some, wipeD, run_sFor, run_fLc, run_fYes, run_range1, run_callW, run_addI, run_sub, run_mul, run_div, run_mod, run_pow, run_lt, run_le, run_gt, run_ge, run_toInt, run_eqI, run_neI, run_eqS,
  List.getElem?_cons_zero, List.getElem?_cons_succ, Option.getD_some, Option.getD_none, List.set_cons_zero, List.set_cons_succ, List.map_cons, List.map_nil, List.length_cons, List.length_nil, List.replicate, List.append_eq, List.cons_append, List.nil_append, Nat.reduceAdd, Nat.reduceSub, Nat.zero_add,
  Option.some.injEq, exists_eq_left', exists_eq_left, D.int.injEq, D.bl.injEq, D.ref.injEq, List.cons.injEq, and_true, true_and, atI0, atI1, atI2, atI3, moL_some, ixN32, run_popR, run_oNo, run_oAt, run_fSl, run_slF, run_slL, run_slT, run_iSeq, run_itemsR, run_itemsL, run_itemsT, run_listL, run_tupleL, run_lenT, run_lenL, lviewF_L, run_fSortSet])

local macro_rules | `(tactic| walk_at "nx") => `(tactic| (refine cont_nx.mpr ?_; (try rw [run_seq]); walk_at "fd"))
def H (ms : List Int) : List Int := K17.homes ms ms.length
def kinL (ms : List Int) : List (List Int) := (setL (H ms)).map (K17.cls (H ms))
def clsP (hs : List Int) (x : Int) : D → Bool
  | .int c => hs.getD c.toNat 0 == x
  | _ => false
def succD : D → D
  | .int c => .int (c + 1)
  | d => d
def clsD (hs : List Int) : D → D
  | .int x => tnD (K17.cls hs x)
  | d => d
theorem cls_eq (hs : List Int) (x : Int) : ((upto 0 hs.length).filter (clsP hs x)).map succD = (K17.cls hs x).map D.int := by
  unfold upto K17.cls
  rw [List.filter_map, List.map_map, List.map_map]
  have e : (clsP hs x ∘ fun (i : Nat) => D.int (0 + (i : Int))) = fun j => hs.getD j 0 == x := by
    funext j
    show (hs.getD (0 + (j : Int)).toNat 0 == x) = _
    rw [show (0 + (j : Int)).toNat = j by omega]
  rw [e]
  apply List.map_congr_left
  intro j _
  show D.int (0 + (j : Int) + 1) = D.int ((j : Int) + 1)
  rw [show 0 + (j : Int) + 1 = (j : Int) + 1 by omega]
theorem sets_ok (ms : List Int) (h : ms.length ≤ 1000) : FD.Run (f_l_sets [.tup (ms.map .int)]) [] fun d ph1 => d = .lst ((kinL ms).map tnD) := by
  have hsl : (sizeLine : Nat) = 16777216 := sizeLine_eq
  have hH : (H ms).length = ms.length := K17.homes_len ms _
  unfold f_l_sets
  rw [run_fDef]
  unfold b_l_sets
  rw [run_seq]
  walk_at "fd"
  refine (homes_ok ms h).mono fun d ph1 ⟨e, e2⟩ => ?_
  subst e e2
  walk_at "nx"
  have hS : intsAt (.ref 0) [.lst ((K17.homes ms ms.length).map .int)] = some (H ms) := intsOf_map _
  refine ⟨_, hS, by omega, ?_⟩
  refine run_lcP (fun _ => true) (clsD (H ms)) _ stands_none (by rw [List.length_map]; have := setL_length (H ms); omega) (fun k d e => ?_) ?_
  · rw [List.getElem?_map] at e
    cases q : (setL (H ms))[k]? with
    | none => rw [q] at e; cases e
    | some x =>
      rw [q] at e
      cases e
      refine ⟨_, rfl, ?_⟩
      walk_at "fd"
      rw [List.length_map]
      refine fun _ => ⟨⟨by omega, by omega⟩, ?_⟩
      rw [Int.toNat_natCast]
      refine run_lcP (clsP (H ms) x) succD _ stands_none (by rw [upto_length]; omega) (fun s d e => ?_) ?_
      · obtain ⟨rfl, hs⟩ := upto_get e
        refine ⟨_, rfl, ?_⟩
        walk_at "fd"
        refine ⟨_, at_int (by rw [K17.homes_len]; exact hs), ?_⟩
        walk_at "fd"
        refine ⟨?_, fun _ => rfl⟩
        show _ = ((H ms).getD (0 + (s : Int)).toNat 0 == x)
        rw [show (0 + (s : Int)).toNat = s by omega]
        rfl
      · rw [← hH, cls_eq]
        exact ⟨rfl, rfl⟩
  · rw [List.filter_eq_self.mpr (fun _ _ => rfl), List.map_map]
    exact .inl ⟨_, rfl, by unfold kinL; rw [List.map_map]; rfl⟩
end W

set_option Elab.async false
set_option maxRecDepth 100000
set_option linter.all false
set_option maxHeartbeats 1000000
namespace W
open PySem L2 FD
local macro_rules | `(tactic| walk_at "fd") => `(tactic| simp only [run_fVar, run_fC, run_fBin, run_fNil, run_fCons, run_fCall, run_fCallL, run_fCallK, run_fTest, run_fNot, run_fAnd, run_fOr, run_fIf, run_fTup, run_fLst, run_fVal, run_fNeg, run_fMethL, run_fMethL0, run_fRevL, run_fRevT, run_ixR, run_ixT, run_ixL, run_appendR, run_putR, run_own,
  run_sSet, run_sRet, run_sDrop, run_sSkip, run_sIf, run_sPut, run_sPar2, run_sAsg, tg_name, tg_nil, tg_cons, tg_tup, if_true, Option.bind_some, wipeD, run_sFor, run_fLc, run_fYes, run_range1, run_callW, run_addI, run_sub, run_mul, run_div, run_mod, run_pow, run_lt, run_le, run_gt, run_ge, run_toInt, run_eqI, run_neI, run_eqS,
  List.getElem?_cons_zero, List.getElem?_cons_succ, Option.getD_some, Option.getD_none, List.set_cons_zero, List.set_cons_succ, List.map_cons, List.map_nil, List.length_cons, List.length_nil, List.replicate, List.append_eq, List.cons_append, List.nil_append, Nat.reduceAdd, Nat.reduceSub, Nat.zero_add,
  Option.some.injEq, exists_eq_left', exists_eq_left, D.int.injEq, D.bl.injEq, D.ref.injEq, List.cons.injEq, and_true, true_and, atI0, atI1, atI2, atI3, moL_some, ixN32, run_popR, run_oNo, run_oAt, run_fSl, run_slF, run_slL, run_slT, run_iSeq, run_itemsR, run_itemsL, run_itemsT, run_listL, run_tupleL, run_lenT, run_lenL, lviewF_L, run_fSortSet])

local macro_rules | `(tactic| walk_at "nx") => `(tactic| (refine cont_nx.mpr ?_; (try rw [run_seq]); walk_at "fd"))

def rf (n : Nat) : D := .ref (n + 2)
def tp (e : Int × Nat) : D := .tup [.int e.1, rf e.2]
def so (s : List Int) : MO := .lst (s.map .int)
def phK (fnd : List Nat) (st : List (Int × Nat)) (sets : List (List Int)) : PH := .lst (fnd.map rf) :: .lst (st.map tp) :: sets.map so
theorem phK_get {fnd : List Nat} {st : List (Int × Nat)} {sets : List (List Int)} {n : Nat} (h : n < sets.length) : moL (phK fnd st sets)[n + 2]? = some ((sets.getD n []).map .int) := by
  show moL (sets.map so)[n]? = _
  rw [List.getElem?_map, List.getD_eq_getElem?_getD, List.getElem?_eq_getElem h]; rfl
theorem fine_st {fnd : List Nat} {st : List (Int × Nat)} {sets : List (List Int)} (h : ∀ e ∈ st, e.2 < sets.length) : ∀ d ∈ st.map tp, Fine 39 (phK fnd st sets) d := fun d hd => by
  obtain ⟨e, he, rfl⟩ := List.mem_map.mp hd
  refine Fine.tup (n := 38) fun x hx => ?_
  rcases List.mem_cons.mp hx with rfl | hx
  · exact .int _
  · have hx := List.mem_singleton.mp hx
    subst hx
    exact Fine.ref (n := 37) (phK_get (h e he)) fine_ints
/-- the loop that takes greater marks from the stack -/
theorem while_ok {ms : List Int} {i : Nat} {sets : List (List Int)} {fnd : List Nat} {st : List (Int × Nat)} {x g : Option D} {a : Int} (I : K17.Inv ms i sets fnd st) (hi : i ≤ 1000) (Q : Out → PH → Prop)
    (k : ∀ (st' pop : List (Int × Nat)), st = st' ++ pop → (∀ e ∈ pop, a < e.1) → (∀ e, st'.getLast? = some e → e.1 ≤ a) → Q (.nx [x, some (.ref 0), some (.ref 1), g, some (.int a), none]) (phK (fnd ++ pop.reverse.map (·.2)) st' sets)) :
    FD.Run (sWhile (fAnd (fTest (fBin gNe (fVar 2) (fVal (fLst fNil)))) (fTest (fBin gGt (fBin gIxS (fBin gIxS (fVar 2) (fNeg (fC (.int 1)))) (fC (.int 0))) (fVar 4)))) (sDrop (fMethL gAppend (fVar 1) (fCons (fBin gIxS (fMethL0 gPop (fVar 2)) (fC (.int 1))) fNil))) [x, some (.ref 0), some (.ref 1), g, some (.int a), none]) (phK fnd st sets) Q := by
  have hsl : (sizeLine : Nat) = 16777216 := sizeLine_eq
  have hsz : sets.length ≤ i := by
    have h1 := I.tot
    have : ∀ l : List (List Int), (∀ s ∈ l, s ≠ []) → l.length ≤ (l.map List.length).sum := by
      intro l
      induction l with
      | nil => intro _; exact Nat.le_refl _
      | cons b l ih =>
        intro hb
        have h2 := ih fun s hs => hb s (List.mem_cons_of_mem _ hs)
        have h3 : b.length ≠ 0 := fun z => hb b List.mem_cons_self (List.eq_nil_of_length_eq_zero z)
        rw [List.map_cons, List.sum_cons, List.length_cons]
        omega
    have := this sets fun s hs => (I.cl s hs).2
    omega
  have hfl : fnd.length + st.length = sets.length := by
    have := I.perm.length_eq
    rw [List.length_append, List.length_map, List.length_range] at this
    exact this
  refine run_while (fun m σ ph => σ = [x, some (.ref 0), some (.ref 1), g, some (.int a), none] ∧ ∃ st' pop, st = st' ++ pop ∧ (∀ e ∈ pop, a < e.1) ∧ m = st'.length ∧ ph = phK (fnd ++ pop.reverse.map (·.2)) st' sets) (fun m σ ph ⟨e1, st', pop, e2, hp, e3, e4⟩ => ?_) st.length _ _ ⟨rfl, st, [], by simp, fun e h => (nomatch h), rfl, by simp⟩
  subst e1 e2 e3 e4
  walk_at "fd"
  refine ⟨Nat.zero_le _, ?_⟩
  rw [run_neNil (l := st'.map tp) rfl (fine_st fun e he => (I.stk e (List.mem_append_left _ he)).1)]
  rcases List.eq_nil_or_concat st' with rfl | ⟨r, e, rfl⟩
  · refine ⟨false, rfl, ?_⟩
    simp only [Bool.false_eq_true, if_false]
    exact k [] pop rfl hp (fun e h => nomatch h)
  · rw [List.concat_eq_append] at *
    refine ⟨true, by simp, ?_⟩
    rw [if_pos rfl]
    have hl0 : moL (phK (fnd ++ pop.reverse.map (·.2)) (r ++ [e]) sets)[1]? = some (r.map tp ++ [tp e]) := by
      show some ((r ++ [e]).map tp) = _
      rw [List.map_append]; rfl
    refine ⟨_, hl0, tp e, atI_last', ?_⟩
    unfold tp
    rw [run_ixT]
    refine ⟨.int e.1, by rw [atI0]; rfl, ?_⟩
    rw [run_gt]
    refine ⟨_, rfl, ?_⟩
    by_cases c : a < e.1
    · rw [if_pos (decide_eq_true c)]
      refine ⟨rfl, _, hl0, tp e, by simp, ?_⟩
      unfold tp
      rw [run_ixT]
      refine ⟨rf e.2, by rw [atI1]; rfl, (fnd ++ pop.reverse.map (·.2)).map rf, rfl, ?_, r.length, by rw [List.length_append, List.length_singleton]; omega, r, e :: pop, by rw [List.append_assoc]; rfl, fun e' he => ?_, rfl, ?_⟩
      · rw [List.length_map, List.length_append, List.length_map, List.length_reverse]
        rw [List.length_append, List.length_append] at hfl
        omega
      · rcases List.mem_cons.mp he with rfl | he
        · exact c
        · exact hp e' he
      · rw [List.dropLast_concat]
        show MO.lst ((fnd ++ pop.reverse.map (·.2)).map rf ++ [rf e.2]) :: MO.lst (r.map tp) :: sets.map so = _
        unfold phK
        rw [List.reverse_cons, List.map_append (l₁ := pop.reverse), ← List.append_assoc, List.map_append (l₁ := fnd ++ _)]
        rfl
    · rw [if_neg (by simpa using c)]
      refine k (r ++ [e]) pop rfl hp fun e' he => ?_
      rw [List.getLast?_concat] at he
      cases he
      omega
end W

set_option Elab.async false
set_option maxRecDepth 100000
set_option linter.all false
set_option maxHeartbeats 1000000
namespace W
open PySem L2 FD
theorem run_enumS {σ : Sg} {ph : PH} {Q : List D × Option Nat → PH → Prop} {f k : FE} : FD.Run (iEnumS f k σ) ph Q ↔ FD.Run (f σ) ph fun d ph1 => FD.Run (k σ) ph1 fun n ph2 => FD.Run (enumI d n) ph2 Q := by
  unfold iEnumS
  simp only [run_bnd]
theorem run_enumT {ph : PH} {Q : List D × Option Nat → PH → Prop} {l : List D} {i : Int} (h : stOk i) : FD.Run (enumI (.tup l) (.int i)) ph Q ↔ Q (enumD i l, none) ph := by
  refine run_eq (bnd_mk (a := (l, none)) (ph1 := ph) rfl ?_)
  show lift (if stOk i then some (enumD i l, none) else none) ph = _
  rw [if_pos h]
  rfl
local macro_rules | `(tactic| walk_at "fd") => `(tactic| simp only [run_fVar, run_fC, run_fBin, run_fNil, run_fCons, run_fCall, run_fCallL, run_fCallK, run_fTest, run_fNot, run_fAnd, run_fOr, run_fIf, run_fTup, run_fLst, run_fVal, run_fNeg, run_fMethL, run_fMethL0, run_fRevL, run_fRevT, run_ixR, run_ixT, run_ixL, run_appendR, run_putR, run_own,
  run_sSet, run_sRet, run_sDrop, run_sSkip, run_sIf, run_sPut, run_sPar2, run_sAsg, tg_name, tg_nil, tg_cons, tg_tup, if_true, Option.bind_some, wipeD, run_sFor, run_fLc, run_fYes, run_range1, run_callW, run_addI, run_sub, run_mul, run_div, run_mod, run_pow, run_lt, run_le, run_gt, run_ge, run_toInt, run_eqI, run_neI, run_eqS,
  List.getElem?_cons_zero, List.getElem?_cons_succ, Option.getD_some, Option.getD_none, List.set_cons_zero, List.set_cons_succ, List.map_cons, List.map_nil, List.length_cons, List.length_nil, List.replicate, List.append_eq, List.cons_append, List.nil_append, Nat.reduceAdd, Nat.reduceSub, Nat.zero_add,
  Option.some.injEq, exists_eq_left', exists_eq_left, D.int.injEq, D.bl.injEq, D.ref.injEq, List.cons.injEq, and_true, true_and, atI0, atI1, atI2, atI3, moL_some, ixN32, run_popR, run_oNo, run_oAt, run_fSl, run_slF, run_slL, run_slT, run_iSeq, run_itemsR, run_itemsL, run_itemsT, run_listL, run_tupleL, run_lenT, run_lenL, lviewF_L, run_fSortSet, run_enumS])

local macro_rules | `(tactic| walk_at "nx") => `(tactic| (refine cont_nx.mpr ?_; (try rw [run_seq]); walk_at "fd"))


theorem push_ok {fnd : List Nat} {r : List (Int × Nat)} {sets : List (List Int)} {a x : Int} {n : Nat} {σ : Sg} {Q : Out → PH → Prop} (h2 : σ[2]? = some (some (.ref 1))) (h3 : σ[3]? = some (some (.int x))) (hn : n < sets.length) (hl : (sets.getD n []).length < sizeLine)
    (k : Q (.nx σ) (phK fnd (r ++ [(a, n)]) (sets.set n (sets.getD n [] ++ [x])))) : FD.Run (sDrop (fMethL gAppend (fBin gIxS (fBin gIxS (fVar 2) (fNeg (fC (.int 1)))) (fC (.int 1))) (fCons (fVar 3) fNil)) σ) (phK fnd (r ++ [(a, n)]) sets) Q := by
  walk_at "fd"
  rw [h2, h3]
  walk_at "fd"
  refine ⟨r.map tp ++ [tp (a, n)], by show some ((r ++ [(a, n)]).map tp) = _; rw [List.map_append]; rfl, tp (a, n), atI_last', ?_⟩
  unfold tp
  rw [run_ixT]
  refine ⟨rf n, by rw [atI1]; rfl, by show (moL (phK fnd (r ++ [(a, n)]) sets)[n + 2]?).isSome = true; rw [phK_get hn]; rfl, ?_⟩
  unfold rf
  rw [run_append (phK_get hn), List.length_map]
  refine ⟨hl, ?_⟩
  have : (phK fnd (r ++ [(a, n)]) sets).set (n + 2) (.lst ((sets.getD n []).map .int ++ [.int x])) = phK fnd (r ++ [(a, n)]) (sets.set n (sets.getD n [] ++ [x])) := by
    show MO.lst _ :: MO.lst _ :: (sets.map so).set n _ = MO.lst _ :: MO.lst _ :: (sets.set n _).map so
    have e : so (sets.getD n [] ++ [x]) = .lst ((sets.getD n []).map .int ++ [.int x]) := by unfold so; rw [List.map_append]; rfl
    rw [List.map_set, e]
  rw [this]
  exact k
theorem len_le {ms : List Int} {i : Nat} {sets : List (List Int)} {fnd : List Nat} {st : List (Int × Nat)} (I : K17.Inv ms i sets fnd st) : (∀ n, (sets.getD n []).length ≤ i) ∧ sets.length ≤ i := by
  have h1 := I.tot
  have key : ∀ l : List (List Int), (∀ s ∈ l, s ≠ []) → (∀ n : Nat, (l.getD n []).length ≤ (l.map List.length).sum) ∧ l.length ≤ (l.map List.length).sum := by
    intro l
    induction l with
    | nil => intro _; exact ⟨fun n => by simp, Nat.le_refl _⟩
    | cons b l ih =>
      intro hb
      obtain ⟨h2, h4⟩ := ih fun s hs => hb s (List.mem_cons_of_mem _ hs)
      have h3 : b.length ≠ 0 := fun z => hb b List.mem_cons_self (List.eq_nil_of_length_eq_zero z)
      rw [List.map_cons, List.sum_cons, List.length_cons]
      refine ⟨fun n => ?_, by omega⟩
      cases n with
      | zero => show b.length ≤ _; omega
      | succ n => have := h2 n; show (l.getD n []).length ≤ _; omega
  obtain ⟨a, b⟩ := key sets fun s hs => (I.cl s hs).2
  exact ⟨fun n => by have := a n; omega, by omega⟩
theorem turn_ok {ms : List Int} {i : Nat} {sets : List (List Int)} {fnd : List Nat} {st : List (Int × Nat)} {x : Option D} (I : K17.Inv ms i sets fnd st) (hi : i < 1000) (Q : Out → PH → Prop)
    (k : ∀ sets' fnd' st', K17.Inv ms (i + 1) sets' fnd' st' → Q (.nx [x, some (.ref 0), some (.ref 1), some (.int (1 + (i : Int))), some (.int (ms.getD i 0)), none]) (phK fnd' st' sets')) :
    FD.Run (sSeq (sWhile (fAnd (fTest (fBin gNe (fVar 2) (fVal (fLst fNil)))) (fTest (fBin gGt (fBin gIxS (fBin gIxS (fVar 2) (fNeg (fC (.int 1)))) (fC (.int 0))) (fVar 4)))) (sDrop (fMethL gAppend (fVar 1) (fCons (fBin gIxS (fMethL0 gPop (fVar 2)) (fC (.int 1))) fNil))))
  (sSeq (sIf (fOr (fTest (fBin gEq (fVar 2) (fVal (fLst fNil)))) (fTest (fBin gLt (fBin gIxS (fBin gIxS (fVar 2) (fNeg (fC (.int 1)))) (fC (.int 0))) (fVar 4)))) (sDrop (fMethL gAppend (fVar 2) (fCons (fTup (fCons (fVar 4) (fCons (fOwn (fLst fNil)) fNil))) fNil))) sSkip)
  (sDrop (fMethL gAppend (fBin gIxS (fBin gIxS (fVar 2) (fNeg (fC (.int 1)))) (fC (.int 1))) (fCons (fVar 3) fNil)))) [x, some (.ref 0), some (.ref 1), some (.int (1 + (i : Int))), some (.int (ms.getD i 0)), none]) (phK fnd st sets) Q := by
  have hsl : (sizeLine : Nat) = 16777216 := sizeLine_eq
  obtain ⟨hls, hlen⟩ := len_le I
  rw [run_seq]
  refine while_ok I (by omega) _ fun st' pop e hp hl => cont_nx.mpr ?_
  subst e
  rw [run_seq]
  have hx : (1 + (i : Int)) = (i : Int) + 1 := by omega
  generalize hfnd : fnd ++ pop.reverse.map (·.2) = fnd'
  have newC : (∀ e, st'.getLast? = some e → e.1 < ms.getD i 0) → Cont (sDrop (fMethL gAppend (fBin gIxS (fBin gIxS (fVar 2) (fNeg (fC (.int 1)))) (fC (.int 1))) (fCons (fVar 3) fNil))) Q (.nx [x, some (.ref 0), some (.ref 1), some (.int (1 + (i : Int))), some (.int (ms.getD i 0)), none]) (phK fnd' (st' ++ [(ms.getD i 0, sets.length)]) (sets ++ [[]])) := fun hlt => by
    refine cont_nx.mpr (push_ok rfl rfl (by simp) (by rw [List.getD_eq_getElem?_getD, List.getElem?_append_right (Nat.le_refl _), Nat.sub_self]; simp [hsl]) ?_)
    have e1 : (sets ++ [[]]).set sets.length ((sets ++ [[]]).getD sets.length [] ++ [1 + (i : Int)]) = sets ++ [[(i : Int) + 1]] := by
      rw [List.getD_eq_getElem?_getD, List.getElem?_append_right (Nat.le_refl _), Nat.sub_self, List.set_append_right _ _ (Nat.le_refl _), Nat.sub_self, hx]
      rfl
    rw [e1]
    exact k _ _ _ (hfnd ▸ I.new hp hlt)
  have hst : ∀ e ∈ st', e.2 < sets.length := fun e he => (I.stk e (List.mem_append_left _ he)).1
  have hpush : (phK fnd' st' sets).length = sets.length + 2 := by show (sets.map so).length + 1 + 1 = _; rw [List.length_map]
  have hset1 : ((phK fnd' st' sets) ++ [MO.lst []]).set 1 (.lst (st'.map tp ++ [.tup [.int (ms.getD i 0), .ref (sets.length + 2)]])) = phK fnd' (st' ++ [(ms.getD i 0, sets.length)]) (sets ++ [[]]) := by
    unfold phK
    rw [List.map_append, List.map_append]
    rfl
  have hsl2 : (st'.map tp).length < sizeLine := by
    have := I.perm.length_eq
    rw [List.length_append, List.length_map, List.length_range, List.length_append] at this
    rw [List.length_map]
    omega
  walk_at "fd"
  refine ⟨Nat.zero_le _, ?_⟩
  rw [run_eqNil (l := st'.map tp) rfl (fine_st hst)]
  rcases List.eq_nil_or_concat st' with rfl | ⟨r, e, rfl⟩
  · refine ⟨true, rfl, ?_⟩
    rw [if_pos rfl]
    refine ⟨fun _ => ⟨rfl, Nat.zero_le _, by omega, [], rfl, hsl2, ?_⟩, fun z => nomatch z⟩
    rw [hpush]
    have g := newC fun e h => nomatch h
    rw [← hset1] at g
    exact g
  · rw [List.concat_eq_append] at *
    refine ⟨false, by simp, ?_⟩
    rw [if_neg Bool.false_ne_true]
    have hl0 : moL (phK fnd' (r ++ [e]) sets)[1]? = some (r.map tp ++ [tp e]) := by
      show some ((r ++ [e]).map tp) = _
      rw [List.map_append]; rfl
    refine ⟨_, hl0, tp e, atI_last', ?_⟩
    unfold tp
    rw [run_ixT]
    refine ⟨.int e.1, by rw [atI0]; rfl, ?_⟩
    rw [run_lt]
    refine ⟨_, rfl, fun z => ?_, fun z => ?_⟩
    · have c := of_decide_eq_true z
      refine ⟨rfl, Nat.zero_le _, by omega, (r ++ [e]).map tp, rfl, hsl2, ?_⟩
      rw [hpush, hset1]
      refine newC fun e' he => ?_
      rw [List.getLast?_concat] at he
      cases he
      exact c
    · have c := of_decide_eq_false z
      have c2 := hl e (by rw [List.getLast?_concat])
      obtain ⟨m, n⟩ := e
      have hm : m = ms.getD i 0 := by
        have c : ¬ m < ms.getD i 0 := c
        have c2 : m ≤ ms.getD i 0 := c2
        omega
      subst hm
      obtain ⟨hn, I2⟩ := I.same hp
      refine cont_nx.mpr (push_ok rfl rfl hn (by have := hls n; omega) ?_)
      rw [show sets.getD n [] ++ [1 + (i : Int)] = sets.getD n [] ++ [(i : Int) + 1] by rw [hx]]
      exact k _ _ _ (hfnd ▸ I2)
end W

set_option Elab.async false
set_option maxRecDepth 100000
set_option linter.all false
set_option maxHeartbeats 1000000
namespace W
open PySem L2 FD
local macro_rules | `(tactic| walk_at "fd") => `(tactic| simp only [run_fVar, run_fC, run_fBin, run_fNil, run_fCons, run_fCall, run_fCallL, run_fCallK, run_fTest, run_fNot, run_fAnd, run_fOr, run_fIf, run_fTup, run_fLst, run_fVal, run_fNeg, run_fMethL, run_fMethL0, run_fRevL, run_fRevT, run_ixR, run_ixT, run_ixL, run_appendR, run_putR, run_own,
  run_sSet, run_sRet, run_sDrop, run_sSkip, run_sIf, run_sPut, run_sPar2, run_sAsg, tg_name, tg_nil, tg_cons, tg_tup, if_true, Option.bind_some, wipeD, run_sFor, run_fLc, run_fYes, run_range1, run_callW, run_addI, run_sub, run_mul, run_div, run_mod, run_pow, run_lt, run_le, run_gt, run_ge, run_toInt, run_eqI, run_neI, run_eqS,
  List.getElem?_cons_zero, List.getElem?_cons_succ, Option.getD_some, Option.getD_none, List.set_cons_zero, List.set_cons_succ, List.map_cons, List.map_nil, List.length_cons, List.length_nil, List.replicate, List.append_eq, List.cons_append, List.nil_append, Nat.reduceAdd, Nat.reduceSub, Nat.zero_add,
  Option.some.injEq, exists_eq_left', exists_eq_left, D.int.injEq, D.bl.injEq, D.ref.injEq, List.cons.injEq, and_true, true_and, atI0, atI1, atI2, atI3, moL_some, ixN32, run_popR, run_oNo, run_oAt, run_fSl, run_slF, run_slL, run_slT, run_iSeq, run_itemsR, run_itemsL, run_itemsT, run_listL, run_tupleL, run_lenT, run_lenL, lviewF_L, run_fSortSet, run_enumS])

local macro_rules | `(tactic| walk_at "nx") => `(tactic| (refine cont_nx.mpr ?_; (try rw [run_seq]); walk_at "fd"))



theorem tnOf_map : ∀ nss : List (List Int), (∀ s ∈ nss, s ≠ []) → tnOf (nss.map tnD) = some nss
  | [], _ => rfl
  | s :: r, h => by
    have ih := tnOf_map r fun x hx => h x (List.mem_cons_of_mem _ hx)
    cases s with
    | nil => exact absurd rfl (h [] List.mem_cons_self)
    | cons i is =>
      show (match intsOf ((i :: is).map D.int) with | some (i :: is) => (tnOf (r.map tnD)).map ((i :: is) :: ·) | _ => none) = _
      rw [intsOf_map, ih]
      rfl
theorem run_sortTn {ph : PH} {Q : List D → PH → Prop} {nss : List (List Int)} (h : ∀ s ∈ nss, s ≠ []) : FD.Run (gSortA [.lst (nss.map tnD)]) ph Q ↔ Q ((sortL nss).map tnD) ph := by
  refine run_eq ?_
  show gSortA1 (.lst (nss.map tnD)) ph = some ((sortL nss).map tnD, ph)
  unfold gSortA1
  show (match intsOf (nss.map tnD) with | some ns => some ((ns.mergeSort (fun a b => decide (a ≤ b))).map D.int, ph) | none => match tnOf (nss.map tnD) with | some nss => some ((sortL nss).map tnD, ph) | none => none) = _
  rw [tnOf_map nss h]
  cases nss with
  | nil =>
    show some (List.map D.int (([] : List Int).mergeSort fun a b => decide (a ≤ b)), ph) = some (List.map tnD (([] : List (List Int)).mergeSort leL), ph)
    rw [List.mergeSort_nil, List.mergeSort_nil]
    rfl
  | cons s r => rfl
def snD (d : D) : D := match d with
  | .tup [_, b] => b
  | d => d
def Tot (ms : List Int) : Prop := ((kinL ms).map List.length).sum = ms.length ∧ (kinL ms).length ≤ ms.length
theorem kin_ok (ms : List Int) (h : ms.length ≤ 999) : FD.Run (f_kin [.tup (ms.map .int)]) [] fun d ph1 => d = .tup ((kinL ms).map tnD) ∧ Tot ms := by
  have hsl : (sizeLine : Nat) = 16777216 := sizeLine_eq
  unfold f_kin
  rw [run_fDef]
  unfold b_kin
  rw [run_seq]
  walk_at "fd"
  refine ⟨Nat.zero_le _, Nat.zero_le _, ?_⟩
  walk_at "nx"
  rw [run_enumT (by decide)]
  refine run_for (fun i σ ph => ∃ sets fnd st g m, K17.Inv ms i sets fnd st ∧ σ = [some (.tup (ms.map .int)), some (.ref 0), some (.ref 1), g, m, none] ∧ ph = phK fnd st sets) _ 0 _ _ ⟨[], [], [], _, _, K17.Inv.start ms, rfl, rfl⟩ (fun _ _ _ _ => stands_none) (fun i d σ ph e ⟨sets, fnd, st, g, m, I, e1, e2⟩ => ?_) (fun σ ph ⟨sets, fnd, st, g, m, I, e1, e2⟩ => ?_)
  · subst e1 e2
    rw [enumD_get] at e
    have hi : i < ms.length := by
      by_cases c : i < ms.length
      · exact c
      · rw [List.getElem?_eq_none (by rw [List.length_map]; omega)] at e; cases e
    rw [get_int hi] at e
    cases e
    rw [Nat.zero_add] at I ⊢
    refine ⟨_, rfl, ?_⟩
    exact turn_ok I (by omega) _ fun sets' fnd' st' I' => ⟨sets', fnd', st', _, _, I', rfl, rfl⟩
  · subst e1 e2
    rw [enumD_length, List.length_map, Nat.zero_add] at I
    obtain ⟨hls, hlen⟩ := len_le I
    have hpl := I.perm.length_eq
    rw [List.length_append, List.length_map, List.length_range] at hpl
    walk_at "nx"
    refine ⟨rfl, _, rfl, ?_⟩
    refine run_lcP (fun _ => true) snD _ (fun n hn => by cases hn; rfl) (by rw [List.length_map]; omega) (fun k d e => ?_) ?_
    · rw [List.getElem?_map] at e
      cases q : st[k]? with
      | none => rw [q] at e; cases e
      | some x =>
        rw [q] at e
        cases e
        refine ⟨_, rfl, ?_⟩
        walk_at "fd"
        exact fun _ => rfl
    · rw [List.filter_eq_self.mpr (fun _ _ => rfl), List.map_map]
      rw [run_extend (l := fnd.map rf) (m := st.map (snD ∘ tp)) rfl rfl]
      refine ⟨by rw [List.length_map, List.length_map]; omega, ?_⟩
      have e1 : (phK fnd st sets).set 0 (.lst (fnd.map rf ++ st.map (snD ∘ tp))) = phK (fnd ++ st.map (·.2)) st sets := by
        show MO.lst _ :: _ = MO.lst _ :: _
        rw [List.map_append, List.map_map]
        rfl
      rw [e1]
      walk_at "nx"
      refine ⟨_, rfl, ?_⟩
      have hin : ∀ n ∈ fnd ++ st.map (·.2), n < sets.length := fun n hn => List.mem_range.mp (I.perm.mem_iff.mp hn)
      refine run_lcP (fun _ => true) (fun d => match d with | .ref n => tnD (sets.getD (n - 2) []) | d => d) _ (fun n hn => by cases hn; rfl) (by rw [List.length_map, List.length_append, List.length_map]; omega) (fun k d e => ?_) ?_
      · rw [List.getElem?_map] at e
        cases q : (fnd ++ st.map (·.2))[k]? with
        | none => rw [q] at e; cases e
        | some n =>
          rw [q] at e
          cases e
          have hn := hin n (List.mem_of_getElem? q)
          refine ⟨_, rfl, ?_⟩
          walk_at "fd"
          refine fun _ => ?_
          have hv : sview (rf n) (phK (fnd ++ st.map (·.2)) st sets) = some ((sets.getD n []).map .int) := phK_get hn
          rw [run_tuple hv]
          exact ⟨rfl, rfl⟩
      · rw [List.filter_eq_self.mpr (fun _ _ => rfl), List.map_map]
        have e2 : List.map ((fun d => match d with | .ref n => tnD (sets.getD (n - 2) []) | d => d) ∘ rf) (fnd ++ st.map (·.2)) = ((fnd ++ st.map (·.2)).map fun n => sets.getD n []).map tnD := by
          rw [List.map_map]
          rfl
        rw [e2]
        have hperm : (((fnd ++ st.map (·.2)).map fun n => sets.getD n [])).Perm sets := by
          have := I.perm.map fun n => sets.getD n []
          refine this.trans ?_
          have : (List.range sets.length).map (fun n => sets.getD n []) = sets := by
            apply List.ext_getElem
            · simp
            · intro j h1 h2
              simp [List.getD_eq_getElem?_getD, List.getElem?_eq_getElem h2]
          rw [this]
        rw [run_sortTn (fun s hs => (I.cl s (hperm.mem_iff.mp hs)).2)]
        rw [← sortL_unique hperm.symm I.sorted]
        have hd : sets = kinL ms := I.done
        refine .inl ⟨_, rfl, by rw [hd], ?_⟩
        rw [hd] at hlen
        exact ⟨hd ▸ I.tot, hlen⟩
end W

set_option Elab.async false
set_option maxRecDepth 100000
set_option linter.all false
set_option maxHeartbeats 1000000
namespace W
open PySem L2 FD
local macro_rules | `(tactic| walk_at "fd") => `(tactic| simp only [run_fVar, run_fC, run_fBin, run_fNil, run_fCons, run_fCall, run_fCallL, run_fCallK, run_fTest, run_fNot, run_fAnd, run_fOr, run_fIf, run_fTup, run_fLst, run_fVal, run_fNeg, run_fMethL, run_fMethL0, run_fRevL, run_fRevT, run_ixR, run_ixT, run_ixL, run_appendR, run_putR, run_own,
  run_sSet, run_sRet, run_sDrop, run_sSkip, run_sIf, run_sPut, run_sPar2, run_sAsg, tg_name, tg_nil, tg_cons, tg_tup, if_true, Option.bind_some, wipeD, run_sFor, run_fLc, run_fYes, run_range1, run_callW, run_addI, run_sub, run_mul, run_div, run_mod, run_pow, run_lt, run_le, run_gt, run_ge, run_toInt, run_eqI, run_neI, run_eqS,
  List.getElem?_cons_zero, List.getElem?_cons_succ, Option.getD_some, Option.getD_none, List.set_cons_zero, List.set_cons_succ, List.map_cons, List.map_nil, List.length_cons, List.length_nil, List.replicate, List.append_eq, List.cons_append, List.nil_append, Nat.reduceAdd, Nat.reduceSub, Nat.zero_add,
  Option.some.injEq, exists_eq_left', exists_eq_left, D.int.injEq, D.bl.injEq, D.ref.injEq, List.cons.injEq, and_true, true_and, atI0, atI1, atI2, atI3, moL_some, ixN32, run_popR, run_oNo, run_oAt, run_fSl, run_slF, run_slL, run_slT, run_iSeq, run_itemsR, run_itemsL, run_itemsT, run_listL, run_tupleL, run_lenT, run_lenL, lviewF_L, run_fSortSet, run_enumS])

local macro_rules | `(tactic| walk_at "nx") => `(tactic| (refine cont_nx.mpr ?_; (try rw [run_seq]); walk_at "fd"))




/-! ### small data: its text fits -/
def Sm (n w : Nat) (ph : PH) (d : D) : Prop := ∃ p, pyF n ph d = some p ∧ p.canLay0 = true ∧ p.depth ≤ n ∧ p.weight ≤ w ∧ p.intsShort 13 = true ∧ p.showable = true
theorem Sm.int {n : Nat} {ph : PH} {i : Int} (h0 : 0 ≤ i) (h1 : i ≤ 1000) : Sm n 10 ph (.int i) := by
  have hb : i.natAbs < 2 ^ 10 := by omega
  have hl : i.natAbs.log2 ≤ 9 := by
    by_cases z : i.natAbs = 0
    · rw [z]; decide
    · exact Nat.le_of_lt_succ ((Nat.log2_lt z).mpr hb)
  refine ⟨.int i, pyF_int, rfl, Nat.zero_le _, ?_, ?_, ?_⟩
  · show (if i == 0 then 0 else i.natAbs.log2 + 1) ≤ 10
    split <;> omega
  · show decide ((PyData.shown (.int i)).length ≤ 13) = true
    refine decide_eq_true ?_
    exact Nat.le_trans (PyProof.Rows.toString_length_le h0 (k := 4) (by decide) (by omega)) (by decide)
  · show decide (i.natAbs.log2 < 1920) = true
    exact decide_eq_true (by omega)
theorem sm_all {n : Nat} {ph : PH} (f : D → Nat) : ∀ {l : List D}, (∀ d ∈ l, Sm n (f d) ph d) → ∃ ps, l.mapM (pyF n ph) = some ps ∧ PyData.canLayAll0 ps = true ∧ PyData.depthAll ps ≤ n ∧ PyData.weightAll ps ≤ (l.map fun d => f d + 1).sum ∧ PyData.intsShortAll 13 ps = true ∧ PyData.showableAll ps = true
  | [], _ => ⟨[], by simp, rfl, Nat.zero_le _, Nat.zero_le _, rfl, rfl⟩
  | d :: l, h => by
    obtain ⟨p, a1, a2, a3, a4, a5, a6⟩ := h d List.mem_cons_self
    obtain ⟨ps, b1, b2, b3, b4, b5, b6⟩ := sm_all f fun x hx => h x (List.mem_cons_of_mem _ hx)
    refine ⟨p :: ps, ?_, ?_, ?_, ?_, ?_, ?_⟩
    · rw [List.mapM_cons, a1, b1]; rfl
    · show (p.canLay0 && PyData.canLayAll0 ps) = true
      rw [a2, b2]; rfl
    · show max p.depth (PyData.depthAll ps) ≤ n
      omega
    · show p.weight + 1 + PyData.weightAll ps ≤ _
      rw [List.map_cons, List.sum_cons]
      omega
    · show (p.intsShort 13 && PyData.intsShortAll 13 ps) = true
      rw [a5, b5]; rfl
    · show (p.showable && PyData.showableAll ps) = true
      rw [a6, b6]; rfl
theorem Sm.tup {n w : Nat} {ph : PH} {l : List D} (f : D → Nat) (h : ∀ d ∈ l, Sm n (f d) ph d) (hw : (l.map fun d => f d + 1).sum ≤ w) : Sm (n + 1) w ph (.tup l) := by
  obtain ⟨ps, e, c, d, g, a, b⟩ := sm_all f h
  exact ⟨.tuple ps, by show (l.mapM (pyF n ph)).map PyData.tuple = _; rw [e]; rfl, c, by show PyData.depthAll ps + 1 ≤ n + 1; omega, Nat.le_trans g hw, a, b⟩
theorem Sm.lst {n w : Nat} {ph : PH} {l : List D} (f : D → Nat) (h : ∀ d ∈ l, Sm n (f d) ph d) (hw : (l.map fun d => f d + 1).sum ≤ w) : Sm (n + 1) w ph (.lst l) := by
  obtain ⟨ps, e, c, d, g, a, b⟩ := sm_all f h
  exact ⟨.list ps, by show (l.mapM (pyF n ph)).map PyData.list = _; rw [e]; rfl, c, by show PyData.depthAll ps + 1 ≤ n + 1; omega, Nat.le_trans g hw, a, b⟩
theorem repr_ok {ph : PH} {d : D} (h : Sm 40 1048576 ph d) : ∃ s, gRepr [d] ph = some (.str s, ph) := by
  obtain ⟨p, e, c, dp, w, a, b⟩ := h
  have hl : PyData.layable0 p = true := by
    show (p.canLay0 && decide (p.depth ≤ 64) && decide (p.weight ≤ 2 ^ 20)) = true
    rw [c, decide_eq_true (by omega : p.depth ≤ 64), decide_eq_true (show p.weight ≤ 2 ^ 20 from w)]; rfl
  have ok : reprOk p := ⟨b, PyData.hasDict_of_canLay p c, by omega, by have := PyProof.Rows.shown_le13 hl a; rw [sizeLine_eq]; omega⟩
  refine ⟨p.shown, ?_⟩
  show gRepr1 d ph = some (.str p.shown, ph)
  unfold gRepr1
  have e' : pyF eqDeep ph d = some p := e
  rw [e']
  simp only
  rw [if_pos ok]
theorem sum_le (l : List (List Int)) : ((l.map tnD).map fun d => (match d with | .tup x => 11 * x.length | _ => 0) + 1).sum ≤ 11 * (l.map List.length).sum + l.length := by
  induction l with
  | nil => exact Nat.zero_le _
  | cons a l ih =>
    rw [List.map_cons, List.map_cons, List.sum_cons, List.map_cons, List.sum_cons, List.length_cons]
    have : (match tnD a with | .tup x => 11 * x.length | _ => 0) = 11 * a.length := by
      show 11 * (a.map D.int).length = _
      rw [List.length_map]
    omega
theorem kin_small {n : Nat} {ms : List Int} {ph : PH} (h : ms.length ≤ 999) (t : Tot ms) : Sm (n + 2) 12000 ph (.tup ((kinL ms).map tnD)) := by
  refine Sm.tup (n := n + 1) (fun d => match d with | .tup x => 11 * x.length | _ => 0) (fun d hd => ?_) ?_
  · obtain ⟨s, hs, rfl⟩ := List.mem_map.mp hd
    refine Sm.tup (n := n) (fun _ => 10) (fun x hx => ?_) ?_
    · obtain ⟨g, hg, rfl⟩ := List.mem_map.mp hx
      obtain ⟨v, _, rfl⟩ := List.mem_map.mp hs
      obtain ⟨g1, g2⟩ := K17.gap_le hg
      have : (H ms).length = ms.length := K17.homes_len ms _
      exact .int (by omega) (by omega)
    · rw [List.map_const', List.sum_replicate_nat]
      show (s.map D.int).length * (10 + 1) ≤ 11 * (s.map D.int).length
      omega
  · refine Nat.le_trans (sum_le _) ?_
    obtain ⟨t1, t2⟩ := t
    omega
theorem closeds_tn : ∀ nss : List (List Int), closeds 0 (nss.map tnD) = true
  | [] => rfl
  | s :: r => by
    show (closeds 0 (s.map D.int) && closeds 0 (r.map tnD)) = true
    rw [closeds_ints, closeds_tn r]; rfl
theorem call0 {n : Nat} {f : FF} {ds : List D} {ph : PH} {P : D → Prop} (hn : ds.length = n) (hc : closeds 0 ds = true) (hP : ∀ d, P d → closed 0 d = true) (r : FD.Run (f ds) [] fun d _ => P d) : FD.Run (callK 0 n f ds) ph fun d ph1 => P d ∧ ph1 = ph := by
  rw [run_callK]
  refine ⟨⟨Nat.zero_le _, hn, hc, rfl⟩, r.mono fun d ph1 p => ⟨⟨hP d p, rfl⟩, p, rfl⟩⟩
theorem kin_call (ms : List Int) (h : ms.length ≤ 999) {ph : PH} : FD.Run (callK 0 1 f_kin [.tup (ms.map .int)]) ph fun d ph1 => (d = .tup ((kinL ms).map tnD) ∧ Tot ms) ∧ ph1 = ph :=
  call0 rfl (by show (closeds 0 (ms.map D.int) && true) = true; rw [closeds_ints]; rfl) (fun d ⟨e, _⟩ => by subst e; exact closeds_tn _) (kin_ok ms h)
theorem told_ok (ms : List Int) (h : ms.length ≤ 999) : FD.Run (f_l_are_told [.tup (ms.map .int)]) [] fun d _ => d = .bl true := by
  unfold f_l_are_told
  rw [run_fDef]
  unfold b_l_are_told
  rw [run_seq]
  walk_at "fd"
  refine (call0 rfl (by show (closeds 0 (ms.map D.int) && true) = true; rw [closeds_ints]; rfl) (fun d e => by subst e; exact closeds_tn _) (sets_ok ms (by omega))).mono fun d ph1 ⟨e, e2⟩ => ?_
  subst e e2
  walk_at "fd"
  walk_at "nx"
  refine (kin_call ms h).mono fun d ph1 ⟨⟨e, t⟩, e2⟩ => ?_
  subst e e2
  rw [show pick [0] [D.tup (ms.map D.int)] = [D.tup (ms.map D.int)] from rfl]
  refine (kin_call ms h).mono fun d ph1 ⟨⟨e, _⟩, e2⟩ => ?_
  subst e e2
  refine (kin_call ms h).mono fun d ph1 ⟨⟨e, _⟩, e2⟩ => ?_
  subst e e2
  have hsm : Sm 40 1048576 [] (D.lst [D.tup ((kinL ms).map tnD), D.tup ((kinL ms).map tnD), D.tup ((kinL ms).map tnD)]) := by
    have hk := kin_small (n := 37) (ph := []) h t
    refine Sm.lst (n := 39) (fun _ => 12000) (fun d hd => ?_) ?_
    · simp only [List.mem_cons, List.not_mem_nil, or_false, or_self] at hd
      subst hd
      exact hk
    · show 12000 + 1 + (12000 + 1 + (12000 + 1 + 0)) ≤ 1048576
      omega
  obtain ⟨s, hs⟩ := repr_ok hsm
  refine ⟨by rw [sizeLine_eq]; decide, (run_eq hs).mpr ⟨by rw [sizeLine_eq]; decide, (run_eq hs).mpr ?_⟩⟩
  rw [run_eqS]
  exact .inl ⟨_, rfl, by rw [decide_eq_true rfl]⟩
theorem told_call (ms : List Int) (h : ms.length ≤ 999) {ph : PH} : FD.Run (callK 0 1 f_l_are_told [.tup (ms.map .int)]) ph fun d ph1 => d = .bl true ∧ ph1 = ph :=
  call0 rfl (by show (closeds 0 (ms.map D.int) && true) = true; rw [closeds_ints]; rfl) (fun d e => by subst e; rfl) (told_ok ms h)
end W

set_option Elab.async false
set_option maxRecDepth 100000
set_option linter.all false
set_option maxHeartbeats 1000000
namespace W
open PySem L2 FD
local macro_rules | `(tactic| walk_at "fd") => `(tactic| simp only [run_fVar, run_fC, run_fBin, run_fNil, run_fCons, run_fCall, run_fCallL, run_fCallK, run_fTest, run_fNot, run_fAnd, run_fOr, run_fIf, run_fTup, run_fLst, run_fVal, run_fNeg, run_fMethL, run_fMethL0, run_fRevL, run_fRevT, run_ixR, run_ixT, run_ixL, run_appendR, run_putR, run_own,
  run_sSet, run_sRet, run_sDrop, run_sSkip, run_sIf, run_sPut, run_sPar2, run_sAsg, tg_name, tg_nil, tg_cons, tg_tup, if_true, Option.bind_some, wipeD, run_sFor, run_fLc, run_fYes, run_range1, run_callW, run_addI, run_sub, run_mul, run_div, run_mod, run_pow, run_lt, run_le, run_gt, run_ge, run_toInt, run_eqI, run_neI, run_eqS,
  List.getElem?_cons_zero, List.getElem?_cons_succ, Option.getD_some, Option.getD_none, List.set_cons_zero, List.set_cons_succ, List.map_cons, List.map_nil, List.length_cons, List.length_nil, List.replicate, List.append_eq, List.cons_append, List.nil_append, Nat.reduceAdd, Nat.reduceSub, Nat.zero_add,
  Option.some.injEq, exists_eq_left', exists_eq_left, D.int.injEq, D.bl.injEq, D.ref.injEq, List.cons.injEq, and_true, true_and, atI0, atI1, atI2, atI3, moL_some, ixN32, run_popR, run_oNo, run_oAt, run_fSl, run_slF, run_slL, run_slT, run_iSeq, run_itemsR, run_itemsL, run_itemsT, run_listL, run_tupleL, run_lenT, run_lenL, lviewF_L, run_fSortSet, run_enumS])

local macro_rules | `(tactic| walk_at "nx") => `(tactic| (refine cont_nx.mpr ?_; (try rw [run_seq]); walk_at "fd"))





theorem Sm.mono {n w w' : Nat} {ph : PH} {d : D} (h : Sm n w ph d) (le : w ≤ w') : Sm n w' ph d := let ⟨p, a, b, c, e, f, g⟩ := h; ⟨p, a, b, c, Nat.le_trans e le, f, g⟩
theorem any_call {k cnt : Int} {ph : PH} (h : Deck k ph) (hk : k ≤ 900000) (h0 : 0 ≤ cnt) (h1 : cnt ≤ 299) : FD.Run (callK 2 2 f_l_any_marks [.ref 1, .int cnt]) ph fun d ph1 => IsInts cnt d ∧ Deck (k + 302) ph1 :=
  deck_call h rfl rfl (fun d ⟨ms, e, _⟩ => by subst e; exact closeds_ints _) (any_ok h hk h0 h1)
theorem law_run (ns : List Int) (h : ns.length ≤ 63) : FD.Run (f_law [.fzl (ns.map .int)]) [] fun d _ => d = .bl true := by
  have hsl : (sizeLine : Nat) = 16777216 := sizeLine_eq
  unfold f_law
  rw [run_fDef]
  unfold b_law
  rw [run_seq]
  walk_at "fd"
  refine (deck_ok ns h).mono fun d ph1 ⟨e, hD⟩ => ?_
  subst e
  walk_at "nx"
  refine ⟨by decide, run_for (fun i σ ph => (∃ a b c e, σ = [some (.fzl (ns.map .int)), some (.ref 1), a, b, c, e]) ∧ Deck (400 * (i : Int)) ph ∧ i ≤ 8) _ 0 _ _ ⟨⟨_, _, _, _, rfl⟩, hD.mono (by decide), Nat.zero_le _⟩ (fun _ _ _ _ => stands_none) (fun i d σ ph e ⟨⟨a, b, c, e0, e1⟩, hD, hi⟩ => ?_) (fun σ ph ⟨⟨a, b, c, e0, e1⟩, hD, hi⟩ => ?_)⟩
  · obtain ⟨rfl, hlt⟩ := upto_get e
    rw [Nat.zero_add] at hD hi ⊢
    have hlt : i < 8 := hlt
    subst e1
    refine ⟨_, rfl, ?_⟩
    rw [run_seq]
    walk_at "fd"
    refine (draw_call hD (by omega) (by decide) (by decide)).mono fun d ph1 ⟨⟨cnt, e, hc0, hc1⟩, hD1⟩ => ?_
    subst e
    refine (any_call hD1 (by omega) hc0 (by omega)).mono fun d ph2 ⟨⟨ms, e, hm⟩, hD2⟩ => ?_
    subst e
    have hD3 : Deck (400 * ((i + 1 : Nat) : Int)) ph2 := hD2.mono (by omega)
    walk_at "nx"
    refine (told_call ms (by omega)).mono fun d ph3 ⟨e, e2⟩ => ?_
    subst e e2
    refine ⟨true, rfl, ?_⟩
    rw [if_neg (by decide)]
    refine ⟨_, rfl, ?_⟩
    rw [run_addT, show List.map D.int ms ++ (List.map D.int ms).reverse = (ms ++ ms.reverse).map D.int by rw [List.map_append, List.map_reverse]]
    refine ⟨by rw [List.length_reverse, List.length_map]; omega, ?_⟩
    refine (told_call (ms ++ ms.reverse) (by rw [List.length_append, List.length_reverse]; omega)).mono fun d ph3 ⟨e, e2⟩ => ?_
    subst e e2
    refine ⟨true, rfl, ?_⟩
    rw [if_neg (by decide)]
    refine ⟨by omega, ?_⟩
    rw [run_addT]
    refine ⟨by rw [List.length_map]; show 1 + ms.length ≤ _; omega, by omega, ?_⟩
    rw [run_addT, show [D.int 7] ++ List.map D.int ms ++ [D.int 7] = ([7] ++ ms ++ [7]).map D.int by rw [List.map_append, List.map_append]; rfl]
    refine ⟨by rw [List.length_append, List.length_map]; show 1 + ms.length + 1 ≤ _; omega, ?_⟩
    refine (told_call ([7] ++ ms ++ [7]) (by rw [List.length_append, List.length_append]; show 1 + ms.length + 1 ≤ _; omega)).mono fun d ph3 ⟨e, e2⟩ => ?_
    subst e e2
    exact ⟨true, rfl, fun z => (nomatch z), fun _ => ⟨⟨_, _, _, _, rfl, rfl, rfl, rfl⟩, hD3, by omega⟩⟩
  · subst e1
    have hD : Deck 3200 ph := hD.mono (by rw [upto_length]; decide)
    walk_at "nx"
    refine (any_call hD (by decide) (by decide) (by decide)).mono fun d ph2 ⟨⟨ms, e, hm⟩, hD2⟩ => ?_
    subst e
    walk_at "nx"
    refine (told_call ms (by omega)).mono fun d ph3 ⟨e, e2⟩ => ?_
    subst e e2
    refine ⟨true, rfl, ?_⟩
    rw [if_neg (by decide)]
    refine ⟨by omega, (told_call [] (by decide)).mono fun d ph3 ⟨e, e2⟩ => ?_⟩
    subst e e2
    refine ⟨true, rfl, ?_⟩
    rw [if_neg (by decide)]
    refine ⟨by decide, by omega, (told_call [10 ^ 9] (by decide)).mono fun d ph3 ⟨e, e2⟩ => ?_⟩
    subst e e2
    refine ⟨true, rfl, fun z => (nomatch z), fun _ => ?_⟩
    walk_at "nx"
    refine ⟨by omega, by omega, by omega, by omega, by omega, by omega, by omega, ?_⟩
    walk_at "nx"
    refine ⟨by omega, (kin_call [3, 2, 4, 5, 4, 2, 1, 2] (by decide)).mono fun d ph4 ⟨⟨e, t⟩, e2⟩ => ?_⟩
    subst e2
    have hk : kinL [3, 2, 4, 5, 4, 2, 1, 2] = [[1], [2, 6], [3, 5], [4], [7], [8]] := by decide +kernel
    have hs := repr_ok (((kin_small (n := 38) (ph := ph4) (by decide) t)).mono (by decide))
    obtain ⟨z, hz⟩ := hs
    subst e
    refine (run_eq hz).mpr ?_
    rw [hk] at hz
    refine (run_eq hz).mpr ?_
    rw [run_eqS]
    exact .inl ⟨_, rfl, by rw [decide_eq_true rfl]⟩
theorem law_true (ns : List Int) (h : ns.length ≤ 63) : ∃ ph1, f_law [.fzl (ns.map .int)] [] = some (.bl true, ph1) := by
  obtain ⟨d, ph1, e, rfl⟩ := law_run ns h
  exact ⟨ph1, e⟩
end W

open PySem PySem.W PySem.Calls
theorem PySem.Challenge.cw_flatforest_k17_sets_of_kin_holds : PySem.Challenge.rw_flatforest_k17_sets_of_kin.Holds := by
  w_on; o_law
  refine HandSHeadRun.head_any (r := OpenLaw.row PySem.Challenge.rw_flatforest_k17_sets_of_kin) (q := view (OpenLaw.row PySem.Challenge.rw_flatforest_k17_sets_of_kin).prog [10]) (H := W.hk) (ob := W.ob) (M := 4000) (loose := W.loose) (d := HandSHeadRun.topDef (OpenLaw.row PySem.Challenge.rw_flatforest_k17_sets_of_kin).prog 10) (kwd := []) W.ob_eq
    (by kernel_rfl) (fun s => by kernel_rfl) W.run (by kernel_rfl) (by kernel_rfl) (by kernel_rfl) (by rfl) (by first | assumption | decide +kernel) (by decide +kernel) ⟨rfl, rfl, rfl, rfl, rfl, by decide +kernel⟩ ?hw ?hc
  case hw => w_witness2
  case hc =>
    refine FD.walkE (l := PySem.Challenge.rw_flatforest_k17_sets_of_kin) (n := 63) (k := 5) (x := "_law_script") (ff := W.f_law) rfl (by decide) (by kernel_rfl) ⟨rfl, by decide, by decide⟩ ?F W.law_true
    intro w mg fa h Y G hmg0
    obtain ⟨K, KX, c⟩ := Y
    have hmg : mg ("law" : PySem.Str) = some (.ref fa) := by
      have e : (HandSHeadRun.topDef (OpenLaw.row PySem.Challenge.rw_flatforest_k17_sets_of_kin).prog 10).name = ("law" : PySem.Str) := by kernel_rfl
      rw [← e]
      exact hmg0
    obtain ⟨fd, hb, hF⟩ := W.facts (P := (PySem.Challenge.rw_flatforest_k17_sets_of_kin).prog) (w := w) KX G hmg c
    exact ⟨K, fd, W.gx K, KX, rfl, hb, hF⟩

