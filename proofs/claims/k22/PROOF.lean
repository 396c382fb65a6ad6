import PyProof.Rows.All
import Wide.All
import OpenK.AllK
import Wide.FinOn
import HandS.ForMost
import KE.KDictKeyed
import KE.KeyNested
import KE.KDictLaw
import HandS.ForExc
import HandS.ExcIs
import HandS.More
import HandS.IsInst
import HandS.SortInts
import PyProof.StrBlock2
import KE.LtData
import HandS.Wide
import HandS.Replace
import HandS.TupAny
import HandS.Deep
import KE.KDictDisplayH
import KE.KDictWalk
import HandS.Conv
import HandS.SortRule
import HandS.DictComp
import HandS.Rev
import HandS.DictTup
import KE.DataCmp
import HandS.Style
import KE.GoesEnum
import HandS.Zip
import HandS.Iter
import HandS.Strs
import HandS.SetFor
import KE.KDictPairs
import KE.KSortTupAny
import PySem.Challenge.RW_guessrests_k22_told_kinds_of_variables
set_option Elab.async false
set_option linter.all false
set_option maxRecDepth 100000
set_option maxHeartbeats 4000000
/-! A layer over the hand layer: what a def does, said of data (D) and a small store of changeable lists. -/
namespace G9
open PySem PySem.Spec PyProof.Rows L2

/-- a text by its codes -/
abbrev S (l : List Nat) : Str := ⟨l.toArray⟩
theorem S_cps (z : Str) : S z.cps.toList = z := by
  obtain ⟨a⟩ := z
  simp [S]
inductive D where
  | non | bl (b : Bool) | int (i : Int) | str (s : List Nat) | tup (ds : List D) | lst (ds : List D) | ob (j : Nat) | ty (n : String)
/-- dicts: keys that are ints and texts; tuples; the latter, locked -/
inductive Kd where
  | a | t | l (u : HO)
/-- an object of another kind: what its place in the heap must be, for the values that it holds -/
structure OX where
  ψ : Hp → Addr → HO → List V → Prop
  mono : ∀ F F' a ho vs, Same F F' → ψ F a ho vs → ψ F' a ho vs
inductive Ob where
  | lst (ds : List D) | dead | dct (t : Kd) (kvs : List (D × D)) | ext (x : OX) (ds : List D)
structure Sta where
  r : List (Option D)
  o : List Ob

mutual
inductive Rp (K : PySem.W.Frag) (F : Hp) (os : List Addr) : V → D → Prop
  | non : Rp K F os .non .non
  | bl (b : Bool) : Rp K F os (.bl b) (.bl b)
  | int (i : Int) : Rp K F os (.int i) (.int i)
  | str (l : List Nat) : Rp K F os (.str (S l)) (.str l)
  | tup {a : Addr} {vs : List V} {ds : List D} : SqT K F a vs → RpL K F os vs ds → Rp K F os (.ref a) (.tup ds)
  | lst {a : Addr} {vs : List V} {ds : List D} : SqL K F a vs → RpL K F os vs ds → Rp K F os (.ref a) (.lst ds)
  | ob {j : Nat} {a : Addr} : os[j]? = some a → Rp K F os (.ref a) (.ob j)
  | ty (n : String) : Rp K F os (.ty n) (.ty n)
inductive RpL (K : PySem.W.Frag) (F : Hp) (os : List Addr) : List V → List D → Prop
  | nil : RpL K F os [] []
  | cons {v : V} {vs : List V} {d : D} {ds : List D} : Rp K F os v d → RpL K F os vs ds → RpL K F os (v :: vs) (d :: ds)
end

theorem sq_l {K : PySem.W.Frag} {F F' : Hp} {a : Addr} {vs : List V} (e : Same F F') (h : SqL K F a vs) : SqL K F' a vs := e.seq h
theorem sq_t {K : PySem.W.Frag} {F F' : Hp} {a : Addr} {vs : List V} (e : Same F F') (h : SqT K F a vs) : SqT K F' a vs := by
  rcases h with (h | ⟨o, h⟩) | h
  · exact .inl (.inl (e _ _ h))
  · exact .inl (.inr ⟨o, e _ _ h⟩)
  · exact .inr h
section
variable {K : PySem.W.Frag} {F F' : Hp} {os os' : List Addr}
theorem pre_get {os os' : List Addr} {j : Nat} {a : Addr} (p : ∃ t, os' = os ++ t) (h : os[j]? = some a) : os'[j]? = some a := by
  obtain ⟨t, rfl⟩ := p
  have hl : j < os.length := by
    rcases Nat.lt_or_ge j os.length with q | q
    · exact q
    · rw [List.getElem?_eq_none q] at h
      cases h
  rw [List.getElem?_append_left hl]
  exact h
mutual
theorem Rp.mono (e : Same F F') (p : ∃ t, os' = os ++ t) : ∀ {v : V} {d : D}, Rp K F os v d → Rp K F' os' v d
  | _, _, .non => .non
  | _, _, .bl b => .bl b
  | _, _, .int i => .int i
  | _, _, .str l => .str l
  | _, _, .tup h r => .tup (sq_t e h) (RpL.mono e p r)
  | _, _, .lst h r => .lst (sq_l e h) (RpL.mono e p r)
  | _, _, .ob h => .ob (pre_get p h)
  | _, _, .ty n => .ty n
theorem RpL.mono (e : Same F F') (p : ∃ t, os' = os ++ t) : ∀ {vs : List V} {ds : List D}, RpL K F os vs ds → RpL K F' os' vs ds
  | _, _, .nil => .nil
  | _, _, .cons h r => .cons (Rp.mono e p h) (RpL.mono e p r)
end
theorem RpL.length : ∀ {vs : List V} {ds : List D}, RpL K F os vs ds → vs.length = ds.length
  | _, _, .nil => rfl
  | _, _, .cons _ r => congrArg (· + 1) (RpL.length r)
theorem RpL.append : ∀ {vs ws : List V} {ds es : List D}, RpL K F os vs ds → RpL K F os ws es → RpL K F os (vs ++ ws) (ds ++ es)
  | _, _, _, _, .nil, h => h
  | _, _, _, _, .cons a r, h => .cons a (RpL.append r h)
theorem RpL.split : ∀ {vs ws : List V} {ds es : List D}, vs.length = ds.length → RpL K F os (vs ++ ws) (ds ++ es) → RpL K F os vs ds ∧ RpL K F os ws es
  | [], _, [], _, _, h => ⟨.nil, h⟩
  | _ :: _, _, _ :: _, _, l, .cons a r => by
    have := RpL.split (Nat.succ.inj l) r
    exact ⟨.cons a this.1, this.2⟩
theorem RpL.get : ∀ {vs : List V} {ds : List D} {i : Nat} {d : D}, RpL K F os vs ds → ds[i]? = some d → ∃ v, vs[i]? = some v ∧ Rp K F os v d
  | _, _, _, _, .nil, h => by simp at h
  | _, _, 0, d, .cons a r, h => by
    simp at h
    subst h
    exact ⟨_, rfl, a⟩
  | _, _, i + 1, d, .cons a r, h => by
    simp only [List.getElem?_cons_succ] at h ⊢
    exact RpL.get r h
theorem RpL.getv : ∀ {vs : List V} {ds : List D} {i : Nat} {v : V}, RpL K F os vs ds → vs[i]? = some v → ∃ d, ds[i]? = some d ∧ Rp K F os v d
  | _, _, _, _, .nil, h => by simp at h
  | _, _, 0, d, .cons a r, h => by
    simp at h
    subst h
    exact ⟨_, rfl, a⟩
  | _, _, i + 1, d, .cons a r, h => by
    simp only [List.getElem?_cons_succ] at h ⊢
    exact RpL.getv r h
theorem RpL.take : ∀ {vs : List V} {ds : List D} (n : Nat), RpL K F os vs ds → RpL K F os (vs.take n) (ds.take n)
  | _, _, 0, _ => by simpa using RpL.nil
  | _, _, _ + 1, .nil => by simpa using RpL.nil
  | _, _, n + 1, .cons a r => by simpa using RpL.cons a (RpL.take n r)
theorem RpL.drop : ∀ {vs : List V} {ds : List D} (n : Nat), RpL K F os vs ds → RpL K F os (vs.drop n) (ds.drop n)
  | _, _, 0, h => by simpa using h
  | _, _, _ + 1, .nil => by simpa using RpL.nil
  | _, _, n + 1, .cons a r => by simpa using RpL.drop n r
theorem RpL.set {x : V} {y : D} (q : Rp K F os x y) : ∀ {vs : List V} {ds : List D} (i : Nat), RpL K F os vs ds → RpL K F os (vs.set i x) (ds.set i y)
  | _, _, _, .nil => by simpa using RpL.nil
  | _, _, 0, .cons a r => by simpa using RpL.cons q r
  | _, _, i + 1, .cons a r => by simpa using RpL.cons a (RpL.set q i r)
theorem RpL.reverse {vs : List V} {ds : List D} : RpL K F os vs ds → RpL K F os vs.reverse ds.reverse := by
  intro h
  induction vs generalizing ds with
  | nil =>
    cases h
    exact .nil
  | cons v vs ih =>
    cases h with
    | cons a r =>
      rw [List.reverse_cons, List.reverse_cons]
      exact (ih r).append (.cons a .nil)
end

theorem ix_inj {N : List Addr} (hN : N.Nodup) {i j : Nat} {x : Addr} (a : N[i]? = some x) (b : N[j]? = some x) : i = j := by
  obtain ⟨h1, e1⟩ := List.getElem?_eq_some_iff.mp a
  obtain ⟨h2, e2⟩ := List.getElem?_eq_some_iff.mp b
  exact (List.getElem_inj hN).mp (e1.trans e2.symm)

/-! ### the abstract store and the heap -/
mutual
/-- data as a key of a dict -/
def nkD : D → Option NestedKey
  | .non => some .none
  | .bl b => some (.num (if b = true then 1 else 0))
  | .int i => some (.num i)
  | .str l => some (.text (S l))
  | .tup ds => match nkDs ds with | some x => some (.tup x) | none => none
  | .lst _ => none
  | .ob _ => none
  | .ty _ => none
def nkDs : List D → Option (List NestedKey)
  | [] => some []
  | d :: ds => match nkD d, nkDs ds with | some x, some y => some (x :: y) | _, _ => none
end
abbrev KN : List (NestedKey × Addr × V) → List (NestedKey × Addr × Value) → Prop := Paired fun p q => p.1 = q.1 ∧ p.2.1 = q.2.1 ∧ RelV p.2.2 q.2.2
/-- a dict whose keys are tuples -/
def dN (w : World) (a : Addr) (nk : List (NestedKey × Addr × V)) : HO := .ext fun h => (a == sysModules) = false ∧ ∃ xs, KN nk xs ∧ ∃ o es ep, h.get? a = some o ∧ o.ExactDict ∧ o.data = .dict es ep ∧ es.toList = xs.map (fun x => (⟨NestedKey.hash w x.1, .ref x.2.1, x.2.2⟩ : DictEntry)) ∧ (xs.map (·.1)).Nodup
/-- the dict at a, its keys and values; the keys as data -/
def DRep (tb : Kd) (w : World) (H : Hp) (a : Addr) (vks : List (V × V)) (dks : List D) : Prop :=
  (tb = .a ∧ ∃ kk : List (Key × V), H a = some (.dK kk) ∧ vks = kk.map fun p => (kV p.1, p.2)) ∨
  (∃ nk : List (NestedKey × Addr × V), ((tb = .t ∧ H a = some (dN w a nk)) ∨ ∃ od, tb = .l (.frz od (dN w a nk)) ∧ H a = some (.frz od (dN w a nk))) ∧ nk.length ≤ sizeLine ∧ vks = nk.map (fun p => (.ref p.2.1, p.2.2)) ∧ dks.map nkD = nk.map (fun p => some p.1) ∧ ∀ p ∈ nk, p.1.depth ≤ 8)
theorem DRep.keep {tb : Kd} {w : World} {H H' : Hp} {a : Addr} {vks : List (V × V)} {dks : List D} (h : DRep tb w H a vks dks) (e : ∀ o, H a = some o → H' a = some o) : DRep tb w H' a vks dks := by
  rcases h with ⟨t0, kk, h1, h2⟩ | ⟨nk, h1, h2⟩
  · exact .inl ⟨t0, kk, e _ h1, h2⟩
  · refine .inr ⟨nk, ?_, h2⟩
    rcases h1 with ⟨t0, h1⟩ | ⟨od, t0, h1⟩
    · exact .inl ⟨t0, e _ h1⟩
    · exact .inr ⟨od, t0, e _ h1⟩
theorem DRep.at {tb : Kd} {w : World} {H H' : Hp} {a : Addr} {vks : List (V × V)} {dks : List D} (h : DRep tb w H a vks dks) (e : H' a = H a) : DRep tb w H' a vks dks := h.keep fun o q => e.trans q
def ObOk (w : World) (K : PySem.W.Frag) (F : Hp) (os : List Addr) (H : Hp) (a : Addr) : Ob → Prop
  | .lst ds => ∃ vs, H a = some (.lst vs) ∧ RpL K F os vs ds
  | .dead => True
  | .ext x ds => ∃ (ho : HO) (vs : List V), H a = some ho ∧ x.ψ F a ho vs ∧ RpL K F os vs ds
  | .dct tb kvs => ∃ vks : List (V × V), DRep tb w H a vks (kvs.map (·.1)) ∧ RpL K F os (vks.map (·.1) ++ vks.map (·.2)) (kvs.map (·.1) ++ kvs.map (·.2))
structure Ent (w : World) (K : PySem.W.Frag) (F H : Hp) (os : List Addr) (O : List Ob) : Prop where
  ex : Same F H
  len : os.length = O.length
  nd : os.Nodup
  al : ∀ a ∈ os, H a ≠ none
  obj : ∀ (j : Nat) (a : Addr) (ob : Ob), os[j]? = some a → O[j]? = some ob → ObOk w K F os H a ob
  nf : ∀ (j : Nat) (a : Addr) (ob : Ob), os[j]? = some a → O[j]? = some ob → ob ≠ .dead → F a = none
structure Ext (F H : Hp) (os : List Addr) (F' H' : Hp) (os' : List Addr) : Prop where
  ff : Same F F'
  old : ∀ b, H b ≠ none → b ∉ os → F' b = F b
  kept : ∀ b o, H b = some o → b ∉ os → H' b = some o
  pre : ∃ t, os' = os ++ t
  fresh : ∀ a ∈ os', a ∈ os ∨ H a = none
theorem Ext.refl {F H : Hp} {os : List Addr} : Ext F H os F H os := ⟨Same.refl _, fun _ _ _ => rfl, fun _ _ h _ => h, ⟨[], by simp⟩, fun _ h => .inl h⟩
theorem pre_mem {os os' : List Addr} {a : Addr} (p : ∃ t, os' = os ++ t) (h : a ∈ os) : a ∈ os' := by
  obtain ⟨t, rfl⟩ := p
  exact List.mem_append_left _ h
theorem Ext.trans {w : World} {K : PySem.W.Frag} {F H F1 H1 F2 H2 : Hp} {os os1 os2 : List Addr} {O1 : List Ob} (a : Ext F H os F1 H1 os1) (e : Ent w K F1 H1 os1 O1) (b : Ext F1 H1 os1 F2 H2 os2) : Ext F H os F2 H2 os2 := by
  have nin : ∀ x, H x ≠ none → x ∉ os → x ∉ os1 := fun x hx hn hm => by
    rcases a.fresh x hm with q | q
    · exact hn q
    · exact hx q
  have keep : ∀ x, H x ≠ none → x ∉ os → H1 x ≠ none := fun x hx hn q => by
    cases h : H x with
    | none => exact hx h
    | some o =>
      rw [a.kept x o h hn] at q
      cases q
  refine ⟨a.ff.trans b.ff, fun x hx hn => ?_, fun x o hx hn => ?_, ?_, fun x hx => ?_⟩
  · rw [b.old x (keep x hx hn) (nin x hx hn), a.old x hx hn]
  · exact b.kept x o (a.kept x o hx hn) (nin x (by rw [hx]; simp) hn)
  · obtain ⟨t, e1⟩ := a.pre
    obtain ⟨u, e2⟩ := b.pre
    exact ⟨t ++ u, by rw [e2, e1, List.append_assoc]⟩
  · rcases b.fresh x hx with q | q
    · exact a.fresh x q
    · by_cases hm : x ∈ os
      · exact .inl hm
      · refine .inr ?_
        cases h : H x with
        | none => rfl
        | some o =>
          rw [a.kept x o h hm] at q
          cases q

structure Slots (K : PySem.W.Frag) (F : Hp) (os : List Addr) (σ : L2.St) (r : List (Option D)) : Prop where
  len : σ.length = r.length
  get : ∀ (i : Nat) (d : D), r[i]? = some (some d) → ∃ v, σ[i]? = some (some v) ∧ Rp K F os v d
theorem Slots.mono {K : PySem.W.Frag} {F F' : Hp} {os os' : List Addr} {σ : L2.St} {r : List (Option D)} (e : Same F F') (p : ∃ t, os' = os ++ t) (h : Slots K F os σ r) : Slots K F' os' σ r :=
  ⟨h.len, fun i d q => let ⟨v, a, b⟩ := h.get i d q; ⟨v, a, b.mono e p⟩⟩

/-- what is fixed in a body -/
structure SC where
  prog : Program
  w : World
  K : PySem.W.Frag
  mg : Str → Option Value
  base : Heap
  N : List Str
  sc : Scope
  k : Nat
  all : Bool
  F0 : Hp
  H0 : Hp
  os0 : List Addr
  /-- what is wished of an exception: its class, its own fields, the state -/
  err : Value → D → Sta → Prop
def Rep (c : SC) (s : Sta) (σ : L2.St) (τ : List D) (τv : List V) (H : Hp) : Prop :=
  ∃ (F : Hp) (os : List Addr), Ent c.w c.K F H os s.o ∧ Ext c.F0 c.H0 c.os0 F H os ∧ Slots c.K F os σ s.r ∧ RpL c.K F os τv τ

/-- an exception's own fields -/
def PayOk (p : D) (d : Option Addr) (H : Hp) : Prop := (p = .non ∧ d = none) ∨ ∃ (l a : Int) (da : Addr), p = .tup [.int l, .int a] ∧ d = some da ∧ H da = some (.xd [("line", .int l), ("at", .int a)])
def Wish (c : SC) : WX := fun cls d σ H => ∃ p s, c.err cls p s ∧ PayOk p d H ∧ Rep c s σ [] [] H
def nox : Value → D → Sta → Prop := fun _ _ _ => False
theorem wish_nox {c : SC} {X : Cx} (h : c.err = nox) : Takes X (Wish c) := fun _ _ x => by
  obtain ⟨_, _, _, _, _, _, _, _, _, _, _, _, _, _, _, _, z⟩ := x
  obtain ⟨_, _, q, _⟩ := z
  rw [h] at q
  exact q.elim
structure XC (c : SC) (X : Cx) : Prop where
  prog : X.prog = c.prog
  w : X.w = c.w
  K : X.K = c.K
  mg : X.mg = c.mg
  base : X.base = c.base
  N : X.N = c.N
  sc : X.env.scope = c.sc
  nd : c.N.Nodup
  calm : X.calm = true
  pass : PassesOwn (model X.prog X.w) X.A X.env X.xe
  tk : Takes X (Wish c)
  room : Room c.k X.A
  fn : c.all = true → ∀ x, X.fn x = true
  top : c.all = true → X.stack = X.env :: X.outer ∧ X.env.frame = some X.env.locals
section
variable {c : SC} {s : Sta} {σ : L2.St} {τ : List D} {τv : List V} {H : Hp}
theorem Rep.len (R : Rep c s σ τ τv H) : τv.length = τ.length := let ⟨_, _, _, _, _, r⟩ := R; r.length
theorem Rep.pop {d : D} {v : V} (R : Rep c s σ (d :: τ) (v :: τv) H) : Rep c s σ τ τv H := by
  obtain ⟨F, os, a, b, e, r⟩ := R
  cases r with
  | cons h r => exact ⟨F, os, a, b, e, r⟩
theorem Rep.pop2 {d d' : D} {v v' : V} (R : Rep c s σ (d :: d' :: τ) (v :: v' :: τv) H) : Rep c s σ (d :: τ) (v :: τv) H := by
  obtain ⟨F, os, a, b, e, r⟩ := R
  cases r with
  | cons h r =>
    cases r with
    | cons h' r => exact ⟨F, os, a, b, e, .cons h r⟩
theorem Rep.pops {ds : List D} {vs : List V} (l : vs.length = ds.length) (R : Rep c s σ (ds ++ τ) (vs ++ τv) H) : Rep c s σ τ τv H := by
  obtain ⟨F, os, a, b, e, r⟩ := R
  exact ⟨F, os, a, b, e, (RpL.split l r).2⟩
theorem Rep.slot {i : Nat} {d : D} (R : Rep c s σ τ τv H) (h : s.r[i]? = some (some d)) : ∃ v, σ[i]? = some (some v) ∧ Rep c s σ (d :: τ) (v :: τv) H := by
  obtain ⟨F, os, a, b, e, r⟩ := R
  obtain ⟨v, h1, h2⟩ := e.get i d h
  exact ⟨v, h1, F, os, a, b, e, .cons h2 r⟩
/-- a plain value -/
theorem Rep.push {d : D} {v : V} (R : Rep c s σ τ τv H) (h : ∀ F os, Rp c.K F os v d) : Rep c s σ (d :: τ) (v :: τv) H := by
  obtain ⟨F, os, a, b, e, r⟩ := R
  exact ⟨F, os, a, b, e, .cons (h F os) r⟩
theorem Rep.set {i : Nat} {d : D} {v : V} (R : Rep c s σ (d :: τ) (v :: τv) H) : Rep c ⟨s.r.set i (some d), s.o⟩ (σ.set i (some v)) τ τv H := by
  obtain ⟨F, os, a, b, e, r⟩ := R
  cases r with
  | cons h r =>
    refine ⟨F, os, a, b, ⟨by simpa using e.len, fun j d' q => ?_⟩, r⟩
    simp only [List.getElem?_set] at q ⊢
    by_cases hj : i = j
    · subst hj
      simp only [if_true] at q ⊢
      split at q
      · rename_i hl
        have : d = d' := Option.some.inj (Option.some.inj q)
        subst this
        rw [e.len, if_pos hl]
        exact ⟨v, rfl, h⟩
      · cases q
    · rw [if_neg hj] at q ⊢
      exact e.get j d' q
/-- a new object that is never changed again -/
theorem Rep.lay {o : HO} {d : D} {p : Addr} (R : Rep c s σ τ τv H) (hp : H p = none) (h : ∀ F os, RpL c.K F os τv τ → F p = some o → Rp c.K F os (.ref p) d) : Rep c s σ (d :: τ) (.ref p :: τv) (upd H p o) := by
  obtain ⟨F, os, a, b, e, r⟩ := R
  have fp : F p = none := a.ex.free hp
  have sF : Same F (upd F p o) := fun x u q => by
    rw [upd_ne (ne_of_none q fp)]
    exact q
  have p0 : ∃ t, os = os ++ t := ⟨[], by simp⟩
  have nos : p ∉ os := fun q => a.al p q hp
  refine ⟨upd F p o, os, ⟨fun x u q => ?_, a.len, a.nd, fun x hx q => ?_, fun j x ob h1 h2 => ?_, fun j x ob h1 h2 h3 => ?_⟩, ⟨b.ff.trans sF, fun x hx hn => ?_, fun x u hx hn => ?_, b.pre, b.fresh⟩, e.mono sF p0, .cons ?_ (r.mono sF p0)⟩
  · by_cases hx : x = p
    · subst hx
      rw [upd_same] at q ⊢
      exact q
    · rw [upd_ne hx] at q ⊢
      exact a.ex x u q
  · have : x ≠ p := fun z => nos (z ▸ hx)
    rw [upd_ne this] at q
    exact a.al x hx q
  · have hx : x ≠ p := fun z => nos (z ▸ List.mem_of_getElem? h1)
    have q := a.obj j x ob h1 h2
    cases ob with
    | dead => trivial
    | lst ds =>
      obtain ⟨vs, q1, q2⟩ := q
      exact ⟨vs, by rw [upd_ne hx]; exact q1, q2.mono sF p0⟩
    | dct tb ds =>
      obtain ⟨vs, q1, q2⟩ := q
      exact ⟨vs, q1.at (upd_ne hx), q2.mono sF p0⟩
    | ext x ds =>
      obtain ⟨ho, vs, q1, q0, q2⟩ := q
      exact ⟨ho, vs, by rw [upd_ne hx]; exact q1, x.mono _ _ _ _ _ sF q0, q2.mono sF p0⟩
  · have hx : x ≠ p := fun z => nos (z ▸ List.mem_of_getElem? h1)
    rw [upd_ne hx]
    exact a.nf j x ob h1 h2 h3
  · have hx' : x ≠ p := fun z => by
      subst z
      cases q : c.H0 x with
      | none => exact hx q
      | some u =>
        rw [b.kept x u q hn] at hp
        cases hp
    rw [upd_ne hx']
    exact b.old x hx hn
  · have hx' : x ≠ p := fun z => by
      subst z
      rw [b.kept x u hx hn] at hp
      cases hp
    rw [upd_ne hx']
    exact b.kept x u hx hn
  · exact h _ _ (r.mono sF p0) upd_same
/-- a new list that may be changed -/
theorem Rep.own {vs : List V} {ds : List D} {p : Addr} (R : Rep c s σ τ τv H) (hp : H p = none) (h : ∀ F os, RpL c.K F os τv τ → RpL c.K F os vs ds) : Rep c ⟨s.r, s.o ++ [.lst ds]⟩ σ (.ob s.o.length :: τ) (.ref p :: τv) (upd H p (.lst vs)) := by
  obtain ⟨F, os, a, b, e, r⟩ := R
  have fp : F p = none := a.ex.free hp
  have nos : p ∉ os := fun q => a.al p q hp
  have p1 : ∃ t, os ++ [p] = os ++ t := ⟨[p], rfl⟩
  have at1 : ∀ {j : Nat} {x : Addr}, (os ++ [p])[j]? = some x → os[j]? = some x ∨ (j = os.length ∧ x = p) := fun {j x} q => by
    rcases Nat.lt_or_ge j os.length with hl | hl
    · rw [List.getElem?_append_left hl] at q
      exact .inl q
    · rw [List.getElem?_append_right hl] at q
      rcases Nat.eq_or_lt_of_le hl with z | z
      · rw [← z, Nat.sub_self] at q
        exact .inr ⟨z.symm, (Option.some.inj q).symm⟩
      · rw [List.getElem?_eq_none (by simp; omega)] at q
        cases q
  have ol : ∀ {j : Nat} {x : Addr} {ob : Ob}, os[j]? = some x → (s.o ++ [Ob.lst ds])[j]? = some ob → s.o[j]? = some ob := fun {j x ob} h1 h2 => by
    have hl : j < os.length := by
      rcases Nat.lt_or_ge j os.length with q | q
      · exact q
      · rw [List.getElem?_eq_none q] at h1
        cases h1
    rw [List.getElem?_append_left (a.len ▸ hl)] at h2
    exact h2
  refine ⟨F, os ++ [p], ⟨fun x u q => ?_, by simp [a.len], ?_, fun x hx q => ?_, fun j x ob h1 h2 => ?_, fun j x ob h1 h2 h3 => ?_⟩, ⟨b.ff, b.old, fun x u hx hn => ?_, ?_, fun x hx => ?_⟩, e.mono (Same.refl _) p1, .cons (.ob ?_) (r.mono (Same.refl _) p1)⟩
  · rw [upd_ne (ne_of_none q fp)]
    exact a.ex x u q
  · refine List.nodup_append.mpr ⟨a.nd, by simp, fun x hx y hy => ?_⟩
    simp at hy
    subst hy
    exact fun z => nos (z ▸ hx)
  · rcases List.mem_append.mp hx with hx | hx
    · have : x ≠ p := fun z => nos (z ▸ hx)
      rw [upd_ne this] at q
      exact a.al x hx q
    · simp at hx
      subst hx
      rw [upd_same] at q
      cases q
  · rcases at1 h1 with h1 | ⟨rfl, rfl⟩
    · have hx : x ≠ p := fun z => nos (z ▸ List.mem_of_getElem? h1)
      have q := a.obj j x ob h1 (ol h1 h2)
      cases ob with
      | dead => trivial
      | lst es =>
        obtain ⟨ws, q1, q2⟩ := q
        exact ⟨ws, by rw [upd_ne hx]; exact q1, q2.mono (Same.refl _) p1⟩
      | dct tb es =>
        obtain ⟨ws, q1, q2⟩ := q
        exact ⟨ws, q1.at (upd_ne hx), q2.mono (Same.refl _) p1⟩
      | ext x ds =>
        obtain ⟨ho, ws, q1, q0, q2⟩ := q
        exact ⟨ho, ws, by rw [upd_ne hx]; exact q1, q0, q2.mono (Same.refl _) p1⟩
    · rw [a.len, List.getElem?_append_right (Nat.le_refl _), Nat.sub_self] at h2
      cases h2
      exact ⟨vs, upd_same, (h F os r).mono (Same.refl _) p1⟩
  · rcases at1 h1 with h1 | ⟨rfl, rfl⟩
    · exact a.nf j x ob h1 (ol h1 h2) h3
    · exact fp
  · have hx' : x ≠ p := fun z => by
      subst z
      rw [b.kept x u hx hn] at hp
      cases hp
    rw [upd_ne hx']
    exact b.kept x u hx hn
  · obtain ⟨t, e1⟩ := b.pre
    exact ⟨t ++ [p], by rw [e1, List.append_assoc]⟩
  · rcases List.mem_append.mp hx with hx | hx
    · exact b.fresh x hx
    · simp at hx
      subst hx
      by_cases hm : x ∈ c.os0
      · exact .inl hm
      · refine .inr ?_
        cases q : c.H0 x with
        | none => rfl
        | some u =>
          rw [b.kept x u q hm] at hp
          cases hp
  · rw [← a.len, List.getElem?_append_right (Nat.le_refl _), Nat.sub_self]
    rfl
/-- a changeable list: where it stands -/
theorem Rep.obj {j : Nat} {ds : List D} {v : V} (R : Rep c s σ (.ob j :: τ) (v :: τv) H) (h : s.o[j]? = some (.lst ds)) : ∃ a vs, v = .ref a ∧ H a = some (.lst vs) ∧ (∃ F os, Same F H ∧ F a = none ∧ RpL c.K F os (vs ++ τv) (ds ++ τ)) := by
  obtain ⟨F, os, a, b, e, r⟩ := R
  cases r with
  | cons q r =>
    cases q with
    | ob q =>
      obtain ⟨vs, q1, q2⟩ := a.obj j _ _ q h
      exact ⟨_, vs, rfl, q1, F, os, a.ex, a.nf j _ _ q h (by simp), q2.append r⟩
/-- .. it changes -/
theorem Rep.mut {j : Nat} {ds ds' : List D} {p : Addr} {vs : List V} (R : Rep c s σ (.ob j :: τ) (.ref p :: τv) H) (h : s.o[j]? = some (.lst ds)) (hv : ∀ F os ws, RpL c.K F os ws ds → H p = some (.lst ws) → RpL c.K F os τv τ → RpL c.K F os vs ds') :
    Rep c ⟨s.r, s.o.set j (.lst ds')⟩ σ (.ob j :: τ) (.ref p :: τv) (upd H p (.lst vs)) := by
  obtain ⟨F, os, a, b, e, r⟩ := R
  cases r with
  | cons q r =>
    cases q with
    | ob q =>
      obtain ⟨ws, q1, q2⟩ := a.obj j _ _ q h
      have fp : F p = none := a.nf j _ _ q h (by simp)
      have hm : p ∈ os := List.mem_of_getElem? q
      have hjl : j < os.length := by
        rcases Nat.lt_or_ge j os.length with z | z
        · exact z
        · rw [List.getElem?_eq_none z] at q
          cases q
      have nn : ∀ {i : Nat} {x : Addr}, os[i]? = some x → i ≠ j → x ≠ p := fun {i x} h1 h2 z => by
        subst z
        exact h2 (ix_inj a.nd h1 q)
      refine ⟨F, os, ⟨fun x u z => ?_, by simp [a.len], a.nd, fun x hx z => ?_, fun i x ob h1 h2 => ?_, fun i x ob h1 h2 h3 => ?_⟩, ⟨b.ff, b.old, fun x u hx hn => ?_, b.pre, b.fresh⟩, e, .cons (.ob q) r⟩
      · rw [upd_ne (ne_of_none z fp)]
        exact a.ex x u z
      · by_cases hxp : x = p
        · subst hxp
          rw [upd_same] at z
          cases z
        · rw [upd_ne hxp] at z
          exact a.al x hx z
      · by_cases hij : i = j
        · subst hij
          rw [List.getElem?_set_self (a.len ▸ hjl)] at h2
          cases h2
          rw [q] at h1
          cases h1
          exact ⟨vs, upd_same, hv F os ws q2 q1 r⟩
        · rw [List.getElem?_set_ne (Ne.symm hij)] at h2
          have z := a.obj i x ob h1 h2
          cases ob with
          | dead => trivial
          | lst es =>
            obtain ⟨us, z1, z2⟩ := z
            exact ⟨us, by rw [upd_ne (nn h1 hij)]; exact z1, z2⟩
          | dct tb es =>
            obtain ⟨us, z1, z2⟩ := z
            exact ⟨us, z1.at (upd_ne (nn h1 hij)), z2⟩
          | ext x es =>
            obtain ⟨ho, us, z1, z0, z2⟩ := z
            exact ⟨ho, us, by rw [upd_ne (nn h1 hij)]; exact z1, z0, z2⟩
      · by_cases hij : i = j
        · subst hij
          rw [q] at h1
          cases h1
          exact fp
        · rw [List.getElem?_set_ne (Ne.symm hij)] at h2
          exact a.nf i x ob h1 h2 h3
      · have hx' : x ≠ p := fun z => by
          subst z
          rcases b.fresh x hm with z | z
          · exact hn z
          · rw [hx] at z
            cases z
        rw [upd_ne hx']
        exact b.kept x u hx hn
/-- .. it is never changed again -/
theorem Rep.freeze {j : Nat} {ds : List D} {v : V} (R : Rep c s σ (.ob j :: τ) (v :: τv) H) (h : s.o[j]? = some (.lst ds)) : Rep c ⟨s.r, s.o.set j .dead⟩ σ (.lst ds :: τ) (v :: τv) H := by
  obtain ⟨F, os, a, b, e, r⟩ := R
  cases r with
  | cons q r =>
    cases q with
    | @ob _ p q =>
      obtain ⟨ws, q1, q2⟩ := a.obj j _ _ q h
      have fp : F p = none := a.nf j _ _ q h (by simp)
      have hm : p ∈ os := List.mem_of_getElem? q
      have hjl : j < os.length := by
        rcases Nat.lt_or_ge j os.length with z | z
        · exact z
        · rw [List.getElem?_eq_none z] at q
          cases q
      have sF : Same F (upd F p (.lst ws)) := fun x u z => by
        rw [upd_ne (ne_of_none z fp)]
        exact z
      have p0 : ∃ t, os = os ++ t := ⟨[], by simp⟩
      have nn : ∀ {i : Nat} {x : Addr}, os[i]? = some x → i ≠ j → x ≠ p := fun {i x} h1 h2 z => by
        subst z
        exact h2 (ix_inj a.nd h1 q)
      refine ⟨upd F p (.lst ws), os, ⟨fun x u z => ?_, by simp [a.len], a.nd, a.al, fun i x ob h1 h2 => ?_, fun i x ob h1 h2 h3 => ?_⟩, ⟨b.ff.trans sF, fun x hx hn => ?_, b.kept, b.pre, b.fresh⟩, e.mono sF p0, .cons (.lst (.inl (.inl upd_same)) (q2.mono sF p0)) (r.mono sF p0)⟩
      · by_cases hxp : x = p
        · subst hxp
          rw [upd_same] at z
          rw [q1]
          exact z
        · rw [upd_ne hxp] at z
          exact a.ex x u z
      · by_cases hij : i = j
        · subst hij
          rw [List.getElem?_set_self (a.len ▸ hjl)] at h2
          cases h2
          trivial
        · rw [List.getElem?_set_ne (Ne.symm hij)] at h2
          have z := a.obj i x ob h1 h2
          cases ob with
          | dead => trivial
          | lst es =>
            obtain ⟨us, z1, z2⟩ := z
            exact ⟨us, z1, z2.mono sF p0⟩
          | dct tb es =>
            obtain ⟨us, z1, z2⟩ := z
            exact ⟨us, z1, z2.mono sF p0⟩
          | ext x es =>
            obtain ⟨ho, us, z1, z0, z2⟩ := z
            exact ⟨ho, us, z1, x.mono _ _ _ _ _ sF z0, z2.mono sF p0⟩
      · by_cases hij : i = j
        · subst hij
          rw [List.getElem?_set_self (a.len ▸ hjl)] at h2
          cases h2
          exact absurd rfl h3
        · rw [List.getElem?_set_ne (Ne.symm hij)] at h2
          rw [upd_ne (nn h1 hij)]
          exact a.nf i x ob h1 h2 h3
      · have hx' : x ≠ p := fun z => by
          subst z
          rcases b.fresh x hm with z | z
          · exact hn z
          · exact hx z
        rw [upd_ne hx']
        exact b.old x hx hn
end
end G9

namespace G9
open PySem PySem.Spec PyProof.Rows L2

/-! ### texts -/
theorem S_inj {l m : List Nat} : S l = S m ↔ l = m := ⟨fun h => by simpa [S] using h, fun h => by rw [h]⟩
theorem S_len (l : List Nat) : (S l).length = l.length := by simp [S, Str.length]
theorem S_app (l m : List Nat) : S l ++ S m = S (l ++ m) := by
  show Str.append (S l) (S m) = S (l ++ m)
  simp [S, Str.append]
theorem S_list (l : List Nat) : (S l).cps.toList = l := by simp [S]

/-! ### judgements -/
variable {c : SC}
def WE (X : Cx) (e : Expr) : TE := fun σ H Q => ∀ (pins : List (Addr × Obj)) (s : Shared), Inv X pins σ H s → wpAny (model X.prog X.w) X.A (eval e X.env) (EP X pins σ Q) X.xe s
def WT (X : Cx) (e : Expr) : TT := fun σ H Q => ∀ (pins : List (Addr × Obj)) (s : Shared), Inv X pins σ H s → wpAny (model X.prog X.w) X.A (isTrue e X.env (eval e X.env)) (TP X pins σ Q) X.xe s
def WW (X : Cx) (e : Expr) : TT := fun σ H Q => ∀ (whole : Sem Value) (pins : List (Addr × Obj)) (s : Shared), Inv X pins σ H s → wpAny (model X.prog X.w) X.A (isTrue e X.env whole) (TP X pins σ Q) X.xe s
def WA (X : Cx) (es : List Expr) : TA := fun σ H Q => ∀ (pos : Pos) (pins : List (Addr × Obj)) (s : Shared), Inv X pins σ H s → wpAny (model X.prog X.w) X.A (spliced (backTo pos (starEach es X.env))) (AP X pins σ Q) X.xe s
def WS (X : Cx) (st : Stmt) : TS := fun D σ H => ∀ (pins : List (Addr × Obj)) (s : Shared), Inv X pins σ H s → wpAny (model X.prog X.w) X.A (exec st X.env) (SP X pins D) X.xe s
def WSs (X : Cx) (st : List Stmt) : TS := fun D σ H => ∀ (pins : List (Addr × Obj)) (s : Shared), Inv X pins σ H s → wpAny (model X.prog X.w) X.A (execs st X.env) (SP X pins D) X.xe s
def WO (X : Cx) (e : Option Expr) : TO := fun σ H Q => ∀ (pins : List (Addr × Obj)) (s : Shared), Inv X pins σ H s →
    wpAny (model X.prog X.w) X.A (evalPart e X.env) (fun u s' => ∃ o H', Inv X pins σ H' s' ∧ IsPart u o ∧ Q o H') X.xe s
def WG (X : Cx) (tg : Expr) : TG := fun v σ H Q => ∀ (pins : List (Addr × Obj)) (s : Shared) (u : Value), Inv X pins σ H s → RelV v u →
    wpAny (model X.prog X.w) X.A (assign tg X.env u) (fun _ s' => ∃ σ' H', Inv X pins σ' H' s' ∧ Q σ' H') X.xe s
def WC (X : Cx) (cop : CmpOp) (a b : Expr) : TE := fun σ H Q => ∀ (pins : List (Addr × Obj)) (s : Shared), Inv X pins σ H s →
    wpAny (model X.prog X.w) X.A (eval a X.env) (fun v s₁ => wpAny (model X.prog X.w) X.A (eval b X.env) (fun u s₂ => wpAny (model X.prog X.w) X.A (compareOp cop v u) (EP X pins σ Q) X.xe s₂) X.xe s₁) X.xe s
section
variable {X : Cx} {e : Expr} {es : List Expr} {st : Stmt} {sts : List Stmt} {eo : Option Expr}
theorem pe_w : PE X e (WE X e) := ⟨fun p s σ H Q I h => h p s I⟩
theorem pt_w : PT X e (WT X e) := ⟨fun p s σ H Q I h => h p s I⟩
theorem pw_w : PW X e (WW X e) := ⟨fun wh p s σ H Q I h => h wh p s I⟩
theorem pa_w : PA X es (WA X es) := ⟨fun pos p s σ H Q I h => h pos p s I⟩
theorem ps_w : PS X st (WS X st) := ⟨fun p s σ H D I h => h p s I⟩
theorem pss_w : PSs X sts (WSs X sts) := ⟨fun p s σ H D I h => h p s I⟩
theorem po_w : PO X eo (WO X eo) := ⟨fun p s σ H Q I h => h p s I⟩
theorem pg_w : PG X e (WG X e) := ⟨fun p s σ H v u Q I r h => h p s u I r⟩
theorem WE.of {t : TE} {σ : L2.St} {H : Hp} {Q : VK} (h : PE X e t) (q : t σ H Q) : WE X e σ H Q := fun p s I => h.run p s σ H Q I q
theorem WT.of {t : TT} {σ : L2.St} {H : Hp} {Q : Bool → Hp → Prop} (h : PT X e t) (q : t σ H Q) : WT X e σ H Q := fun p s I => h.run p s σ H Q I q
theorem WW.of {t : TT} {σ : L2.St} {H : Hp} {Q : Bool → Hp → Prop} (h : PW X e t) (q : t σ H Q) : WW X e σ H Q := fun wh p s I => h.run wh p s σ H Q I q
theorem WA.of {t : TA} {σ : L2.St} {H : Hp} {Q : List V → Hp → Prop} (h : PA X es t) (q : t σ H Q) : WA X es σ H Q := fun pos p s I => h.run pos p s σ H Q I q
theorem WS.of {t : TS} {σ : L2.St} {H : Hp} {D : Ends} (h : PS X st t) (q : t D σ H) : WS X st D σ H := fun p s I => h.run p s σ H D I q
theorem WSs.of {t : TS} {σ : L2.St} {H : Hp} {D : Ends} (h : PSs X sts t) (q : t D σ H) : WSs X sts D σ H := fun p s I => h.run p s σ H D I q
theorem WO.of {t : TO} {σ : L2.St} {H : Hp} {Q : Option Int → Hp → Prop} (h : PO X eo t) (q : t σ H Q) : WO X eo σ H Q := fun p s I => h.run p s σ H Q I q
theorem WG.of {t : TG} {v : V} {σ : L2.St} {H : Hp} {Q : L2.St → Hp → Prop} (h : PG X e t) (q : t v σ H Q) : WG X e v σ H Q := fun p s u I r => h.run p s σ H v u Q I r q
end

/-- what is wanted of a value's end -/
def FinE (c : SC) (P : D → Sta → Prop) (σ : L2.St) (τ : List D) (τv : List V) (Q : VK) : Prop := ∀ d s' v H', P d s' → Rep c s' σ (d :: τ) (v :: τv) H' → Q v H'
def FinT (c : SC) (P : Bool → Sta → Prop) (σ : L2.St) (τ : List D) (τv : List V) (Q : Bool → Hp → Prop) : Prop := ∀ b s' H', P b s' → Rep c s' σ τ τv H' → Q b H'
def FinA (c : SC) (P : List D → Sta → Prop) (σ : L2.St) (τ : List D) (τv : List V) (Q : List V → Hp → Prop) : Prop := ∀ ds s' vs H', P ds s' → vs.length = ds.length → Rep c s' σ (ds ++ τ) (vs ++ τv) H' → Q vs H'
inductive Out where
  | nx (s : Sta) | rt (d : D) (s : Sta) | bk (s : Sta) | ct (s : Sta)
structure FinS (c : SC) (P : Out → Prop) (τ : List D) (τv : List V) (E : Ends) : Prop where
  nx : ∀ s' σ' H', P (.nx s') → Rep c s' σ' τ τv H' → E.nx σ' H'
  rt : ∀ d s' σ' v H', P (.rt d s') → Rep c s' σ' (d :: τ) (v :: τv) H' → E.rt v H'
  bk : ∀ s' σ' H', P (.bk s') → Rep c s' σ' τ τv H' → E.bk σ' H'
  ct : ∀ s' σ' H', P (.ct s') → Rep c s' σ' τ τv H' → E.ct σ' H'
structure AE (c : SC) (e : Expr) (s : Sta) (P : D → Sta → Prop) : Prop where
  run : ∀ X, XC c X → ∀ σ τ τv H, Rep c s σ τ τv H → ∀ Q, FinE c P σ τ τv Q → WE X e σ H Q
instance {c : SC} {e : Expr} {s : Sta} {P : D → Sta → Prop} : CoeFun (AE c e s P) (fun _ => ∀ X, XC c X → ∀ σ τ τv H, Rep c s σ τ τv H → ∀ Q, FinE c P σ τ τv Q → WE X e σ H Q) := ⟨AE.run⟩
structure AT (c : SC) (e : Expr) (s : Sta) (P : Bool → Sta → Prop) : Prop where
  run : ∀ X, XC c X → ∀ σ τ τv H, Rep c s σ τ τv H → ∀ Q, FinT c P σ τ τv Q → WT X e σ H Q
instance {c : SC} {e : Expr} {s : Sta} {P : Bool → Sta → Prop} : CoeFun (AT c e s P) (fun _ => ∀ X, XC c X → ∀ σ τ τv H, Rep c s σ τ τv H → ∀ Q, FinT c P σ τ τv Q → WT X e σ H Q) := ⟨AT.run⟩
structure AW (c : SC) (e : Expr) (s : Sta) (P : Bool → Sta → Prop) : Prop where
  run : ∀ X, XC c X → ∀ σ τ τv H, Rep c s σ τ τv H → ∀ Q, FinT c P σ τ τv Q → WW X e σ H Q
instance {c : SC} {e : Expr} {s : Sta} {P : Bool → Sta → Prop} : CoeFun (AW c e s P) (fun _ => ∀ X, XC c X → ∀ σ τ τv H, Rep c s σ τ τv H → ∀ Q, FinT c P σ τ τv Q → WW X e σ H Q) := ⟨AW.run⟩
structure AA (c : SC) (es : List Expr) (s : Sta) (P : List D → Sta → Prop) : Prop where
  run : ∀ X, XC c X → ∀ σ τ τv H, Rep c s σ τ τv H → ∀ Q, FinA c P σ τ τv Q → WA X es σ H Q
instance {c : SC} {es : List Expr} {s : Sta} {P : List D → Sta → Prop} : CoeFun (AA c es s P) (fun _ => ∀ X, XC c X → ∀ σ τ τv H, Rep c s σ τ τv H → ∀ Q, FinA c P σ τ τv Q → WA X es σ H Q) := ⟨AA.run⟩
structure AS (c : SC) (st : Stmt) (s : Sta) (P : Out → Prop) : Prop where
  run : ∀ X, XC c X → ∀ σ τ τv H, Rep c s σ τ τv H → ∀ E, FinS c P τ τv E → WS X st E σ H
instance {c : SC} {st : Stmt} {s : Sta} {P : Out → Prop} : CoeFun (AS c st s P) (fun _ => ∀ X, XC c X → ∀ σ τ τv H, Rep c s σ τ τv H → ∀ E, FinS c P τ τv E → WS X st E σ H) := ⟨AS.run⟩
structure ASs (c : SC) (st : List Stmt) (s : Sta) (P : Out → Prop) : Prop where
  run : ∀ X, XC c X → ∀ σ τ τv H, Rep c s σ τ τv H → ∀ E, FinS c P τ τv E → WSs X st E σ H
instance {c : SC} {st : List Stmt} {s : Sta} {P : Out → Prop} : CoeFun (ASs c st s P) (fun _ => ∀ X, XC c X → ∀ σ τ τv H, Rep c s σ τ τv H → ∀ E, FinS c P τ τv E → WSs X st E σ H) := ⟨ASs.run⟩
/-- a target takes d -/
structure AG (c : SC) (tg : Expr) (d : D) (s : Sta) (P : Sta → Prop) : Prop where
  run : ∀ X, XC c X → ∀ σ τ τv v H, Rep c s σ (d :: τ) (v :: τv) H → ∀ Q : L2.St → Hp → Prop, (∀ s' σ' H', P s' → Rep c s' σ' τ τv H' → Q σ' H') → WG X tg v σ H Q
instance {c : SC} {tg : Expr} {d : D} {s : Sta} {P : Sta → Prop} : CoeFun (AG c tg d s P) (fun _ => ∀ X, XC c X → ∀ σ τ τv v H, Rep c s σ (d :: τ) (v :: τv) H → ∀ Q : L2.St → Hp → Prop, (∀ s' σ' H', P s' → Rep c s' σ' τ τv H' → Q σ' H') → WG X tg v σ H Q) := ⟨AG.run⟩

def isI (d : D) (k : Int → Prop) : Prop := ∃ i, d = .int i ∧ k i
def isS (d : D) (k : List Nat → Prop) : Prop := ∃ l, d = .str l ∧ k l
def isB (d : D) (k : Bool → Prop) : Prop := ∃ b, d = .bl b ∧ k b
def isT (d : D) (k : List D → Prop) : Prop := ∃ ds, d = .tup ds ∧ k ds
def RdL (s : Sta) (d : D) (ds : List D) : Prop := d = .lst ds ∨ ∃ j, d = .ob j ∧ s.o[j]? = some (.lst ds)
def isL (s : Sta) (d : D) (k : List D → Prop) : Prop := ∃ ds, RdL s d ds ∧ k ds
theorem is_i {i : Int} {k : Int → Prop} (h : k i) : isI (.int i) k := ⟨i, rfl, h⟩
theorem is_s {l : List Nat} {k : List Nat → Prop} (h : k l) : isS (.str l) k := ⟨l, rfl, h⟩
theorem is_b {b : Bool} {k : Bool → Prop} (h : k b) : isB (.bl b) k := ⟨b, rfl, h⟩
theorem is_t {l : List D} {k : List D → Prop} (h : k l) : isT (.tup l) k := ⟨l, rfl, h⟩
theorem is_l {s : Sta} {l : List D} {k : List D → Prop} (h : k l) : isL s (.lst l) k := ⟨l, .inl rfl, h⟩
theorem is_o {s : Sta} {j : Nat} {l : List D} {k : List D → Prop} (e : s.o[j]? = some (.lst l)) (h : k l) : isL s (.ob j) k := ⟨l, .inr ⟨j, rfl, e⟩, h⟩

section
variable {s : Sta} {σ : L2.St} {τ : List D} {τv : List V} {H : Hp}
theorem Rep.temps {τ' : List D} {τv' : List V} (R : Rep c s σ τ τv H) (h : ∀ F os, RpL c.K F os τv τ → RpL c.K F os τv' τ') : Rep c s σ τ' τv' H := by
  obtain ⟨F, os, a, b, e, r⟩ := R
  exact ⟨F, os, a, b, e, h F os r⟩
theorem Rep.top {d : D} {v : V} (R : Rep c s σ (d :: τ) (v :: τv) H) : ∃ F os, Rp c.K F os v d := by
  obtain ⟨F, os, a, b, e, r⟩ := R
  cases r with
  | cons h r => exact ⟨F, os, h⟩
theorem Rep.int {i : Int} {v : V} (R : Rep c s σ (.int i :: τ) (v :: τv) H) : v = .int i := by
  obtain ⟨F, os, h⟩ := R.top
  cases h
  rfl
theorem Rep.str {l : List Nat} {v : V} (R : Rep c s σ (.str l :: τ) (v :: τv) H) : v = .str (S l) := by
  obtain ⟨F, os, h⟩ := R.top
  cases h
  rfl
theorem Rep.bl {b : Bool} {v : V} (R : Rep c s σ (.bl b :: τ) (v :: τv) H) : v = .bl b := by
  obtain ⟨F, os, h⟩ := R.top
  cases h
  rfl
theorem Rep.non {v : V} (R : Rep c s σ (.non :: τ) (v :: τv) H) : v = .non := by
  obtain ⟨F, os, h⟩ := R.top
  cases h
  rfl
theorem Rep.rdl {d : D} {v : V} {ds : List D} (R : Rep c s σ (d :: τ) (v :: τv) H) (h : RdL s d ds) : ∃ a vs, v = .ref a ∧ SqL c.K H a vs ∧ vs.length = ds.length ∧ Rep c s σ (ds ++ d :: τ) (vs ++ v :: τv) H := by
  obtain ⟨F, os, a, b, e, r⟩ := R
  rcases h with rfl | ⟨j, rfl, h⟩
  · cases r with
    | cons q r =>
      cases id q with
      | lst q1 q2 => exact ⟨_, _, rfl, a.ex.seq q1, q2.length, F, os, a, b, e, q2.append (.cons q r)⟩
  · cases r with
    | cons q r =>
      cases id q with
      | ob q0 =>
        obtain ⟨vs, q1, q2⟩ := a.obj j _ _ q0 h
        exact ⟨_, vs, rfl, .inl (.inl q1), q2.length, F, os, a, b, e, q2.append (.cons q r)⟩
theorem Rep.rdt {v : V} {ds : List D} (R : Rep c s σ (.tup ds :: τ) (v :: τv) H) : ∃ a vs, v = .ref a ∧ SqT c.K H a vs ∧ vs.length = ds.length ∧ Rep c s σ (ds ++ .tup ds :: τ) (vs ++ v :: τv) H := by
  obtain ⟨F, os, a, b, e, r⟩ := R
  cases r with
  | cons q r =>
    cases id q with
    | tup q1 q2 => exact ⟨_, _, rfl, sq_t a.ex q1, q2.length, F, os, a, b, e, q2.append (.cons q r)⟩
end

/-! ### names and constants -/
section
variable {s : Sta} {P : D → Sta → Prop}
theorem ae_name {i : Nat} {x : Str} {pos : Pos} {d : D} (hi : c.N[i]? = some x) (hd : s.r[i]? = some (some d)) (h : P d s) (hv : Vis c.sc x := by first | exact Or.inl rfl | exact Or.inr (Or.inl rfl) | exact Or.inr (Or.inr rfl))
    (h1 : (x == ("__debug__" : Str)) = false := by decide) (h2 : (x == ("__classdict__" : Str)) = false := by decide) : AE c (.Name x pos) s P := by
  refine ⟨?_⟩
  intro X hX σ τ τv H R Q hq
  obtain ⟨v, e, R1⟩ := R.slot hd
  exact WE.of (pe_var (X := X) (by rw [hX.N]; exact hi) (by rw [hX.sc]; exact hv) h1 h2) ⟨v, e, hq d s v H h R1⟩
theorem ae_int {i : Int} {j pos} (h : P (.int i) s) : AE c (.Constant (.int i) j pos) s P := .mk fun X hX σ τ τv H R Q hq => WE.of pe_int (hq _ _ _ _ h (R.push fun _ _ => .int i))
theorem ae_bl {b : Bool} {j pos} (h : P (.bl b) s) : AE c (.Constant (.bool b) j pos) s P := .mk fun X hX σ τ τv H R Q hq => WE.of pe_bl (hq _ _ _ _ h (R.push fun _ _ => .bl b))
theorem ae_non {j pos} (h : P .non s) : AE c (.Constant .none j pos) s P := .mk fun X hX σ τ τv H R Q hq => WE.of pe_non (hq _ _ _ _ h (R.push fun _ _ => .non))
theorem ae_str {x : Str} {j pos} {l : List Nat} (e : x = S l) (h : P (.str l) s) : AE c (.Constant (.str x) j pos) s P := .mk fun X hX σ τ τv H R Q hq => by
  subst e
  exact WE.of pe_str (hq _ _ _ _ h (R.push fun _ _ => .str l))
def IsG (c : SC) (x : Str) : Prop := c.sc.names.lookup x = some .globalImplicit
theorem gl_of {X : Cx} (hX : XC c X) {x : Str} (h : IsG c x) : Gl X x := by
  unfold Gl Env.kindOf
  rw [hX.sc]
  exact h
/-- a constant of the module -/
theorem ae_glob {x : Str} {pos : Pos} {d : D} {v : V} {u : Value} (hm : c.mg x = some u) (r : RelV v u) (hd : ∀ F os, Rp c.K F os v d) (h : P d s) (hg : IsG c x := by rfl) (h1 : (x == ("__debug__" : Str)) = false := by decide) : AE c (.Name x pos) s P :=
  .mk fun X hX σ τ τv H R Q hq => WE.of (pe_glob (gl_of hX hg) (by rw [hX.mg]; exact hm) r h1) (hq _ _ _ _ h (R.push hd))

/-! ### operators -/
/-- the values' rule rV serves the data's rule r -/
def ROp (c : SC) (rV : V → V → Hp → VK → Prop) (r : D → D → Sta → (D → Sta → Prop) → Prop) : Prop :=
  ∀ σ τ τv H s v1 v2 d1 d2 P Q, Rep c s σ (d2 :: d1 :: τ) (v2 :: v1 :: τv) H → r d1 d2 s P → FinE c P σ τ τv Q → rV v1 v2 H Q
variable {a b : Expr} {pos : Pos} {op : Operator} {cop : CmpOp} {X' : Cx}
theorem ae_bin {rV : Cx → R2} {r : D → D → Sta → (D → Sta → Prop) → Prop} (ho : ∀ X, XC c X → OpR X (binaryOp op) (rV X)) (hr : ∀ X, XC c X → ROp c (rV X) r) (h : AE c a s fun d1 s1 => AE c b s1 fun d2 s2 => r d1 d2 s2 P) : AE c (.BinOp a op b pos) s P := by
  refine ⟨?_⟩
  intro X hX σ τ τv H R Q hq
  refine WE.of (pe_op (ho X hX) pe_w pe_w) (h X hX σ τ τv H R _ fun d1 s1 v1 H1 h1 R1 => h1 X hX σ _ _ H1 R1 _ fun d2 s2 v2 H2 h2 R2 => ?_)
  exact hr X hX _ _ _ _ _ _ _ _ _ _ _ R2 h2 hq
theorem pc_w : PC X' cop a b (WC X' cop a b) := ⟨fun p s σ H Q I h => h p s I⟩
theorem WC.of {t : TE} {σ : L2.St} {H : Hp} {Q : VK} (h : PC X' cop a b t) (q : t σ H Q) : WC X' cop a b σ H Q := fun p s I => h.run p s σ H Q I q
/-- a comparison -/
structure AC (c : SC) (cop : CmpOp) (a b : Expr) (s : Sta) (P : D → Sta → Prop) : Prop where
  run : ∀ X, XC c X → ∀ σ τ τv H, Rep c s σ τ τv H → ∀ Q, FinE c P σ τ τv Q → WC X cop a b σ H Q
instance {c : SC} {cop : CmpOp} {a b : Expr} {s : Sta} {P : D → Sta → Prop} : CoeFun (AC c cop a b s P) (fun _ => ∀ X, XC c X → ∀ σ τ τv H, Rep c s σ τ τv H → ∀ Q, FinE c P σ τ τv Q → WC X cop a b σ H Q) := ⟨AC.run⟩
theorem ac_op {rV : Cx → R2} {r : D → D → Sta → (D → Sta → Prop) → Prop} (ho : ∀ X, XC c X → OpR X (compareOp cop) (rV X)) (hr : ∀ X, XC c X → ROp c (rV X) r) (h : AE c a s fun d1 s1 => AE c b s1 fun d2 s2 => r d1 d2 s2 P) : AC c cop a b s P := by
  refine ⟨?_⟩
  intro X hX σ τ τv H R Q hq
  have q : tOp (rV X) (WE X a) (WE X b) σ H Q := h X hX σ τ τv H R _ fun d1 s1 v1 H1 h1 R1 => h1 X hX σ _ _ H1 R1 _ fun d2 s2 v2 H2 h2 R2 => hr X hX _ _ _ _ _ _ _ _ _ _ _ R2 h2 hq
  intro pins st I
  refine bin (R := fun x y H2 => rV X x y H2 Q) pe_w pe_w I q fun v u s2 x y H2 I2 rx ry q2 => ?_
  exact ho X hX pins s2 σ H2 x y v u Q I2 rx ry q2
theorem ae_cmp (h : AC c cop a b s P) (hm : behindInMarks cop b = false := by first | exact nobehind _ (by decide) (by decide) | rfl) : AE c (.Compare a [cop] [b] pos) s P :=
  .mk fun X hX σ τ τv H R Q hq => WE.of (pe_cmp pc_w hm) (h X hX σ τ τv H R Q hq)
theorem at_cmp {PB : Bool → Sta → Prop} (h : AC c cop a b s fun d s1 => isB d fun k => PB k s1) (hm : behindInMarks cop b = false := by first | exact nobehind _ (by decide) (by decide) | rfl) : AT c (.Compare a [cop] [b] pos) s PB := by
  refine ⟨?_⟩
  intro X hX σ τ τv H R Q hq
  refine WT.of (pt_cmp pc_w hm) (h X hX σ τ τv H R _ fun d1 s1 v1 H1 h1 R1 => ?_)
  obtain ⟨k, rfl, h1⟩ := h1
  have e1 := R1.bl
  subst e1
  exact ⟨k, rfl, hq _ _ _ h1 R1.pop⟩
/-- two ints -/
def r2I (C : Int → Int → Prop) (g : Int → Int → D) : D → D → Sta → (D → Sta → Prop) → Prop := fun d1 d2 s P => isI d1 fun i => isI d2 fun j => C i j ∧ P (g i j) s
theorem rop_I {C : Int → Int → Prop} {gV : Int → Int → V} {g : Int → Int → D} (hg : ∀ i j F os, Rp c.K F os (gV i j) (g i j)) : ROp c (rI C gV) (r2I C g) := by
  intro σ τ τv H s v1 v2 d1 d2 P Q R h hq
  obtain ⟨i, rfl, j, rfl, hc, h⟩ := h
  have e2 := R.int
  have e1 := R.pop.int
  subst e1 e2
  exact ⟨i, j, rfl, rfl, hc, hq _ _ _ _ h (R.pop.pop.push (hg i j))⟩
theorem rop_I0 {gV : Int → Int → V} {g : Int → Int → D} (hg : ∀ i j F os, Rp c.K F os (gV i j) (g i j)) : ROp c (rI0 gV) (r2I (fun _ _ => True) g) := by
  intro σ τ τv H s v1 v2 d1 d2 P Q R h hq
  obtain ⟨i, rfl, j, rfl, _, h⟩ := h
  have e2 := R.int
  have e1 := R.pop.int
  subst e1 e2
  exact ⟨i, j, rfl, rfl, hq _ _ _ _ h (R.pop.pop.push (hg i j))⟩
abbrev K2 (c : SC) (a b : Expr) (s : Sta) (k : D → D → Sta → Prop) : Prop := AE c a s fun d1 s1 => AE c b s1 fun d2 s2 => k d1 d2 s2
theorem ae_add (h : AE c a s fun d1 s1 => AE c b s1 fun d2 s2 => isI d1 fun i => isI d2 fun j => P (.int (i + j)) s2) : AE c (.BinOp a .Add b pos) s P :=
  ae_bin (fun X _ => op_add) (fun X _ => rop_I0 fun i j _ _ => .int (i + j)) <| .mk fun X hX σ τ τv H R Q hq => h X hX σ τ τv H R Q fun d1 s1 v1 H1 h1 R1 => hq d1 s1 v1 H1 (.mk fun X hX σ τ τv H R Q hq => h1 X hX σ τ τv H R Q fun d2 s2 v2 H2 ⟨i, e1, j, e2, h2⟩ R2 => hq d2 s2 v2 H2 ⟨i, e1, j, e2, trivial, h2⟩ R2) R1
end
/-- weaken what follows -/
theorem AE.mono {e : Expr} {s : Sta} {P P' : D → Sta → Prop} (h : AE c e s P) (q : ∀ d s, P d s → P' d s) : AE c e s P' := .mk fun X hX σ τ τv H R Q hq => h X hX σ τ τv H R Q fun d s v H hp R => hq d s v H (q d s hp) R
theorem AT.mono {e : Expr} {s : Sta} {P P' : Bool → Sta → Prop} (h : AT c e s P) (q : ∀ d s, P d s → P' d s) : AT c e s P' := .mk fun X hX σ τ τv H R Q hq => h X hX σ τ τv H R Q fun d s H hp R => hq d s H (q d s hp) R
section
variable {s : Sta} {P : D → Sta → Prop} {a b : Expr} {pos : Pos}
theorem r0 {C : Prop} {g : Int → Int → D} {P : D → Sta → Prop} {d1 d2 : D} {s : Sta} (h : isI d1 fun i => isI d2 fun j => P (g i j) s) : r2I (fun _ _ => True) g d1 d2 s P := by
  obtain ⟨i, e1, j, e2, h2⟩ := h
  exact ⟨i, e1, j, e2, trivial, h2⟩
theorem ae_sub (h : AE c a s fun d1 s1 => AE c b s1 fun d2 s2 => isI d1 fun i => isI d2 fun j => P (.int (i - j)) s2) : AE c (.BinOp a .Sub b pos) s P :=
  ae_bin (fun X _ => op_sub) (fun X _ => rop_I0 fun i j _ _ => .int (i - j)) (h.mono fun _ _ q => q.mono fun _ _ q => r0 (C := True) q)
theorem ae_mod (h : AE c a s fun d1 s1 => AE c b s1 fun d2 s2 => isI d1 fun i => isI d2 fun j => 0 < j ∧ P (.int (i % j)) s2) : AE c (.BinOp a .Mod b pos) s P :=
  ae_bin (fun X _ => op_mod) (fun X _ => rop_I fun i j _ _ => .int (i % j)) h
end
end G9

namespace G9
open PySem PySem.Spec PyProof.Rows L2
variable {c : SC}

/-! ### ids in data -/
mutual
def D.bnd (n : Nat) : D → Prop
  | .tup ds => D.bndL n ds
  | .lst ds => D.bndL n ds
  | .ob j => j < n
  | _ => True
def D.bndL (n : Nat) : List D → Prop
  | [] => True
  | d :: ds => D.bnd n d ∧ D.bndL n ds
end
theorem D.bndL_iff {n : Nat} : ∀ {ds : List D}, D.bndL n ds ↔ ∀ d ∈ ds, D.bnd n d
  | [] => by simp [D.bndL]
  | d :: ds => by simp [D.bndL, D.bndL_iff (ds := ds)]
def Ob.bnd (n : Nat) : Ob → Prop
  | .lst ds => D.bndL n ds
  | .dead => True
  | .ext _ ds => D.bndL n ds
  | .dct tb kvs => D.bndL n (kvs.map (·.1) ++ kvs.map (·.2))
section
variable {K : PySem.W.Frag} {F : Hp} {os : List Addr}
mutual
theorem Rp.bnd : ∀ {v : V} {d : D}, Rp K F os v d → D.bnd os.length d
  | _, _, .non => trivial
  | _, _, .bl b => trivial
  | _, _, .int i => trivial
  | _, _, .str l => trivial
  | _, _, .tup _ r => by
    unfold D.bnd
    exact RpL.bnd r
  | _, _, .lst _ r => by
    unfold D.bnd
    exact RpL.bnd r
  | _, _, .ob h => by
    unfold D.bnd
    exact (List.getElem?_eq_some_iff.mp h).1
  | _, _, .ty n => trivial
theorem RpL.bnd : ∀ {vs : List V} {ds : List D}, RpL K F os vs ds → D.bndL os.length ds
  | _, _, .nil => trivial
  | _, _, .cons h r => ⟨Rp.bnd h, RpL.bnd r⟩
end
mutual
theorem Rp.cut {n : Nat} {os' : List Addr} (he : ∀ j, j < n → os'[j]? = os[j]?) : ∀ {v : V} {d : D}, Rp K F os v d → D.bnd n d → Rp K F os' v d
  | _, _, .non, _ => .non
  | _, _, .bl b, _ => .bl b
  | _, _, .int i, _ => .int i
  | _, _, .str l, _ => .str l
  | _, _, .tup q r, h => by
    unfold D.bnd at h
    exact .tup q (RpL.cut he r h)
  | _, _, .lst q r, h => by
    unfold D.bnd at h
    exact .lst q (RpL.cut he r h)
  | _, _, .ob q, h => by
    unfold D.bnd at h
    exact .ob ((he _ h).trans q)
  | _, _, .ty n, _ => .ty n
theorem RpL.cut {n : Nat} {os' : List Addr} (he : ∀ j, j < n → os'[j]? = os[j]?) : ∀ {vs : List V} {ds : List D}, RpL K F os vs ds → D.bndL n ds → RpL K F os' vs ds
  | _, _, .nil, _ => .nil
  | _, _, .cons q r, h => .cons (Rp.cut he q h.1) (RpL.cut he r h.2)
end
end
mutual
theorem D.bnd_le {n m : Nat} (h : n ≤ m) : ∀ {d : D}, D.bnd n d → D.bnd m d
  | .non, _ => trivial
  | .bl _, _ => trivial
  | .int _, _ => trivial
  | .str _, _ => trivial
  | .tup ds, q => by
    unfold D.bnd at q ⊢
    exact D.bndL_le h q
  | .lst ds, q => by
    unfold D.bnd at q ⊢
    exact D.bndL_le h q
  | .ob j, q => by
    unfold D.bnd at q ⊢
    exact Nat.lt_of_lt_of_le q h
  | .ty _, _ => trivial
theorem D.bndL_le {n m : Nat} (h : n ≤ m) : ∀ {ds : List D}, D.bndL n ds → D.bndL m ds
  | [], _ => trivial
  | _ :: _, q => ⟨D.bnd_le h q.1, D.bndL_le h q.2⟩
end

/-- s' is s with its newest objects and some slots forgotten -/
inductive Gc (m : Nat) (s : Sta) : Sta → Prop
  | refl : Gc m s s
  | cut (n : Nat) (r : List (Option D)) (hm : m ≤ n) (hl : r.length = s.r.length) (hr : ∀ (i : Nat) (d : D), r[i]? = some (some d) → s.r[i]? = some (some d) ∧ D.bnd n d) (ho : ∀ ob ∈ s.o.take n, Ob.bnd n ob) : Gc m s ⟨r, s.o.take n⟩
/-- the cut of the heap's side -/
theorem Ent.cut {w : World} {K : PySem.W.Frag} {F H : Hp} {os : List Addr} {O : List Ob} (a : Ent w K F H os O) (n : Nat) (ho : ∀ ob ∈ O.take n, Ob.bnd n ob) : Ent w K F H (os.take n) (O.take n) := by
  have ge : ∀ j, j < n → (os.take n)[j]? = os[j]? := fun j hj => List.getElem?_take_of_lt hj
  have lt : ∀ {α : Type} {l : List α} {j : Nat} {x : α}, (l.take n)[j]? = some x → j < n ∧ l[j]? = some x := fun {α l j x} h => by
    by_cases hj : j < n
    · exact ⟨hj, (List.getElem?_take_of_lt hj) ▸ h⟩
    · rw [List.getElem?_eq_none (by simp; omega)] at h
      cases h
  refine ⟨a.ex, by simp [a.len], a.nd.sublist (List.take_sublist _ _), fun x hx => a.al x (List.mem_of_mem_take hx), fun j x ob h1 h2 => ?_, fun j x ob h1 h2 h3 => ?_⟩
  · have q := a.obj j x ob (lt h1).2 (lt h2).2
    have hb : Ob.bnd n ob := ho ob (List.mem_of_getElem? h2)
    cases ob with
    | dead => trivial
    | lst ds =>
      obtain ⟨vs, q1, q2⟩ := q
      exact ⟨vs, q1, q2.cut ge hb⟩
    | dct tb ds =>
      obtain ⟨vs, q1, q2⟩ := q
      exact ⟨vs, q1, q2.cut ge hb⟩
    | ext x ds =>
      obtain ⟨ho, vs, q1, q0, q2⟩ := q
      exact ⟨ho, vs, q1, q0, q2.cut ge hb⟩
  · exact a.nf j x ob (lt h1).2 (lt h2).2 h3
theorem Ext.cut {F H F' H' : Hp} {os os' : List Addr} (b : Ext F H os F' H' os') (n : Nat) (hn : os.length ≤ n) : Ext F H os F' H' (os'.take n) := by
  refine ⟨b.ff, b.old, b.kept, ?_, fun a ha => b.fresh a (List.mem_of_mem_take ha)⟩
  obtain ⟨t, e⟩ := b.pre
  exact ⟨t.take (n - os.length), by rw [e, List.take_append, List.take_of_length_le hn]⟩
theorem Rep.gc {s s' : Sta} {σ : L2.St} {τ : List D} {τv : List V} {H : Hp} {m : Nat} (g : Gc m s s') (R : Rep c s σ τ τv H) (hm : c.os0.length ≤ m) (ht : D.bndL m τ) : Rep c s' σ τ τv H := by
  cases g with
  | refl => exact R
  | cut n r h1 hl hr ho =>
    obtain ⟨F, os, a, b, e, q⟩ := R
    have ge : ∀ j, j < n → (os.take n)[j]? = os[j]? := fun j hj => List.getElem?_take_of_lt hj
    refine ⟨F, os.take n, a.cut n ho, b.cut n (Nat.le_trans hm h1), ⟨e.len.trans hl.symm, fun i d hd => ?_⟩, q.cut ge (D.bndL_le h1 ht)⟩
    obtain ⟨h2, h3⟩ := hr i d hd
    obtain ⟨v, h4, h5⟩ := e.get i d h2
    exact ⟨v, h4, h5.cut ge h3⟩
/-- what a def hands back: the newest objects forgotten, or all but the one that it hands back -/
inductive GcR (m : Nat) (d : D) (O : List Ob) : D → List Ob → Prop
  | refl : GcR m d O d O
  | cut (n : Nat) (hm : m ≤ n) (hd : D.bnd n d) (ho : ∀ ob ∈ O.take n, Ob.bnd n ob) : GcR m d O d (O.take n)
  | move (n j : Nat) (ob : Ob) (hm : m ≤ n) (e : d = .ob j) (hj : O[j]? = some ob) (hn : n ≤ j) (hb : Ob.bnd n ob) (ho : ∀ ob ∈ O.take n, Ob.bnd n ob) : GcR m d O (.ob n) (O.take n ++ [ob])
theorem gcr_ok {w : World} {K : PySem.W.Frag} {F H F0 H0 : Hp} {os os0 : List Addr} {O O' : List Ob} {d d' : D} {v : V} {m : Nat} (g : GcR m d O d' O') (a : Ent w K F H os O) (b : Ext F0 H0 os0 F H os) (hm : os0.length ≤ m) (r : Rp K F os v d) :
    ∃ os', Ent w K F H os' O' ∧ Ext F0 H0 os0 F H os' ∧ Rp K F os' v d' := by
  cases g with
  | refl => exact ⟨os, a, b, r⟩
  | cut n h1 hd ho => exact ⟨os.take n, a.cut n ho, b.cut n (Nat.le_trans hm h1), r.cut (fun j hj => List.getElem?_take_of_lt hj) hd⟩
  | move n j ob h1 e hj hn hb ho =>
    subst e
    cases r with
    | @ob _ p q =>
      have hjl : j < os.length := (List.getElem?_eq_some_iff.mp q).1
      have lt : (os.take n).length = n := by
        rw [List.length_take]
        omega
      have ge : ∀ i, i < n → (os.take n ++ [p])[i]? = os[i]? := fun i hi => by
        rw [List.getElem?_append_left (by omega), List.getElem?_take_of_lt hi]
      have a' := a.cut n ho
      have b' := b.cut n (Nat.le_trans hm h1)
      have np : p ∉ os.take n := fun z => by
        obtain ⟨i, hi, e⟩ := List.getElem_of_mem z
        have h2 : os[i]? = some p := by
          rw [lt] at hi
          rw [← List.getElem?_take_of_lt hi, ← e]
          exact List.getElem?_eq_getElem _
        have := ix_inj a.nd h2 q
        rw [lt] at hi
        omega
      have at1 : ∀ {i : Nat} {x : Addr}, (os.take n ++ [p])[i]? = some x → (i < n ∧ (os.take n)[i]? = some x) ∨ (i = n ∧ x = p) := fun {i x} q' => by
        rcases Nat.lt_or_ge i n with hl | hl
        · rw [List.getElem?_append_left (by omega)] at q'
          exact .inl ⟨hl, q'⟩
        · rw [List.getElem?_append_right (by omega), lt] at q'
          rcases Nat.eq_or_lt_of_le hl with z | z
          · rw [← z, Nat.sub_self] at q'
            exact .inr ⟨z.symm, (Option.some.inj q').symm⟩
          · rw [List.getElem?_eq_none (by simp; omega)] at q'
            cases q'
      have lo : (O.take n).length = n := by rw [← a'.len, lt]
      have p1 : ∃ t, os.take n ++ [p] = os.take n ++ t := ⟨[p], rfl⟩
      refine ⟨os.take n ++ [p], ⟨a.ex, by rw [List.length_append, List.length_append, lt, lo]; rfl, ?_, fun x hx => ?_, fun i x o h2 h3 => ?_, fun i x o h2 h3 h4 => ?_⟩, ⟨b'.ff, b'.old, b'.kept, ?_, fun x hx => ?_⟩, .ob ?_⟩
      · refine List.nodup_append.mpr ⟨a'.nd, by simp, fun x hx y hy => ?_⟩
        simp at hy
        subst hy
        exact fun z => np (z ▸ hx)
      · rcases List.mem_append.mp hx with hx | hx
        · exact a'.al x hx
        · simp at hx
          subst hx
          exact a.al x (List.mem_of_getElem? q)
      · rcases at1 h2 with ⟨hi, h2⟩ | ⟨rfl, rfl⟩
        · rw [List.getElem?_append_left (by omega)] at h3
          have q' := a'.obj i x o h2 h3
          cases o with
          | dead => trivial
          | lst ds =>
            obtain ⟨vs, q1, q2⟩ := q'
            exact ⟨vs, q1, q2.mono (Same.refl _) p1⟩
          | dct tb ds =>
            obtain ⟨vs, q1, q2⟩ := q'
            exact ⟨vs, q1, q2.mono (Same.refl _) p1⟩
          | ext x ds =>
            obtain ⟨ho, vs, q1, q0, q2⟩ := q'
            exact ⟨ho, vs, q1, q0, q2.mono (Same.refl _) p1⟩
        · rw [List.getElem?_append_right (by omega), lo, Nat.sub_self] at h3
          cases h3
          have q' := a.obj j x ob q hj
          cases ob with
          | dead => trivial
          | lst ds =>
            obtain ⟨vs, q1, q2⟩ := q'
            exact ⟨vs, q1, q2.cut ge hb⟩
          | dct tb ds =>
            obtain ⟨vs, q1, q2⟩ := q'
            exact ⟨vs, q1, q2.cut ge hb⟩
          | ext x ds =>
            obtain ⟨ho, vs, q1, q0, q2⟩ := q'
            exact ⟨ho, vs, q1, q0, q2.cut ge hb⟩
      · rcases at1 h2 with ⟨hi, h2⟩ | ⟨rfl, rfl⟩
        · rw [List.getElem?_append_left (by omega)] at h3
          exact a'.nf i x o h2 h3 h4
        · rw [List.getElem?_append_right (by omega), lo, Nat.sub_self] at h3
          cases h3
          exact a.nf j x ob q hj h4
      · obtain ⟨t, e⟩ := b'.pre
        exact ⟨t ++ [p], by rw [e, List.append_assoc]⟩
      · rcases List.mem_append.mp hx with hx | hx
        · exact b'.fresh x hx
        · simp at hx
          subst hx
          exact b.fresh x (List.mem_of_getElem? q)
      · rw [List.getElem?_append_right (by omega), lt, Nat.sub_self]
        rfl

/-! ### defs -/
abbrev Spec := List D → List Ob → (D → List Ob → Prop) → Prop
def spA (w : World) (K : PySem.W.Frag) (R : Spec) : Sp := fun vs H Q _ => ∃ (ds : List D) (F : Hp) (os : List Addr) (O : List Ob) (P : D → List Ob → Prop), Ent w K F H os O ∧ RpL K F os vs ds ∧ R ds O P ∧
  ∀ d O' F' os' H' v, P d O' → Ext F H os F' H' os' → Ent w K F' H' os' O' → Rp K F' os' v d → Q v H'
/-- a def that may be called by its name -/
structure CalA (P : Program) (w : World) (K : PySem.W.Frag) (mg : Str → Option Value) (base : Heap) (k : Nat) (x : Str) (R : Spec) : Prop where
  ex : ∃ (f : Addr) (fd : FuncData) (ps : List Str), FnOk P w K mg base CX0 k f fd ps (spA w K R) ∧ mg x = some (.ref f) ∧ PySem.W.keepIn K (.ref f) = true ∧ Binds K fd ps []
  mono : ∀ ds O Q Q', (∀ d O', Q d O' → Q' d O') → R ds O Q → R ds O Q'
/-- what a body's end must be -/
def RetP (m : Nat) (P : D → List Ob → Prop) : Out → Prop
  | .rt d s => ∃ d' O', GcR m d s.o d' O' ∧ P d' O'
  | .nx s => ∃ d' O', GcR m .non s.o d' O' ∧ P d' O'
  | _ => False
def start (N : List Str) (ds : List D) : List (Option D) := ds.map some ++ List.replicate (N.length - ds.length) none
section
variable {P : Program} {w : World} {K : PySem.W.Frag} {mg : Str → Option Value} {base : Heap}
theorem fnA {x qual : Str} {st : Stmt} {f : Addr} {fd : FuncData} {N ps : List Str} {k : Nat} {R : Spec} (F : Fun K x qual st f fd) (Sc : FnScope N ps (defScope st)) (len : ∀ ds O Q, R ds O Q → ds.length = ps.length)
    (body : ∀ (F0 H0 : Hp) (os0 : List Addr) (ds : List D) (O : List Ob) (Q : D → List Ob → Prop), R ds O Q → ASs ⟨P, w, K, mg, base, N, defScope st, k, true, F0, H0, os0, nox⟩ (defBody st) ⟨start N ds, O⟩ (RetP O.length Q)) :
    FnOk P w K mg base CX0 (k + 1) f fd ps (spA w K R) := by
  refine F.ok Sc (fun vs H Q E h => ?_) (fun cdv A outer s H vs Q E hr h => ?_)
  · obtain ⟨ds, F, os, O, P, _, h1, h2, _⟩ := h
    exact h1.length.trans (len _ _ _ h2)
  · obtain ⟨ds, F0, os, O, P', he, hv, hR, hq⟩ := h
    refine ⟨_, pss_w, ?_⟩
    have hl : vs.length = ds.length := hv.length
    refine body F0 H os ds O P' hR _ ⟨rfl, rfl, rfl, rfl, rfl, rfl, rfl, Sc.nd, rfl, PassesOwn.never, wish_nox rfl, hr, fun _ _ => rfl, fun _ => ⟨rfl, rfl⟩⟩ _ [] [] H ⟨F0, os, he, Ext.refl, ⟨?_, fun i d hd => ?_⟩, .nil⟩ _ ⟨fun s' σ' H' h R => ?_, fun d s' σ' v H' h R => ?_, fun _ _ _ h => h.elim, fun _ _ _ h => h.elim⟩
    · show (L2.start N vs).length = (start N ds).length
      simp [L2.start, start, hl]
    · show ∃ v, (L2.start N vs)[i]? = some (some v) ∧ _
      have hi : i < ds.length := by
        rcases Nat.lt_or_ge i ds.length with q | q
        · exact q
        · unfold start at hd
          rw [List.getElem?_append_right (by simpa using q)] at hd
          have := List.mem_of_getElem? hd
          rw [List.mem_replicate] at this
          cases this.2
      unfold start at hd
      rw [List.getElem?_append_left (by simpa using hi), List.getElem?_map] at hd
      cases q : ds[i]? with
      | none =>
        rw [q] at hd
        cases hd
      | some y =>
        rw [q] at hd
        have e : y = d := Option.some.inj (Option.some.inj hd)
        subst e
        obtain ⟨v, h1, h2⟩ := hv.get q
        refine ⟨v, ?_, h2⟩
        unfold L2.start
        rw [List.getElem?_append_left (by simpa [hl] using hi), List.getElem?_map, h1]
        rfl
    · obtain ⟨d', O', g, hp⟩ := h
      obtain ⟨F', os', a, b, _, _⟩ := R
      obtain ⟨os2, a2, b2, r2⟩ := gcr_ok g a b (Nat.le_of_eq he.len) .non
      exact hq d' O' F' os2 H' _ hp b2 a2 r2
    · obtain ⟨d', O', g, hp⟩ := h
      obtain ⟨F', os', a, b, _, r⟩ := R
      cases r with
      | cons r _ =>
        obtain ⟨os2, a2, b2, r2⟩ := gcr_ok g a b (Nat.le_of_eq he.len) r
        exact hq d' O' F' os2 H' _ hp b2 a2 r2
end
section
variable {s : Sta} {P : D → Sta → Prop} {PA' : List D → Sta → Prop} {e : Expr} {es : List Expr} {pos p : Pos} {x : Str}
theorem aa_nil (h : PA' [] s) : AA c [] s PA' := .mk fun X hX σ τ τv H R Q hq => WA.of pa_nil (hq [] s [] H h rfl R)
theorem aa_cons (h : AE c e s fun d s1 => AA c es s1 fun ds s2 => PA' (d :: ds) s2) (hs : ∀ env, starEach (e :: es) env = (false, eval e env) :: starEach es env := by intro _; rfl) : AA c (e :: es) s PA' := by
  refine ⟨?_⟩
  intro X hX σ τ τv H R Q hq
  refine WA.of (pa_cons pe_w pa_w (hs _)) (h X hX σ τ τv H R _ fun d s1 v H1 h1 R1 => h1 X hX σ (d :: τ) (v :: τv) H1 R1 _ fun ds s2 vs H2 h2 hl R2 => hq (d :: ds) s2 (v :: vs) H2 h2 (by simp [hl]) ?_)
  refine R2.temps fun F os r => ?_
  obtain ⟨r1, r2⟩ := RpL.split hl r
  cases r2 with
  | cons q r3 => exact .cons q (r1.append r3)
theorem fn_at {X : Cx} (hX : XC c X) {kf : Nat} {f : Addr} {fd : FuncData} {ps : List Str} {sp : Sp} (F : FnOk c.prog c.w c.K c.mg c.base CX0 kf f fd ps sp) : FnOk X.prog X.w X.K X.mg X.base CX0 kf f fd ps sp := by
  rw [hX.prog, hX.w, hX.K, hX.mg, hX.base]
  exact F
theorem ae_call {kf : Nat} {R : Spec} (C : CalA c.prog c.w c.K c.mg c.base kf x R) (hk : kf ≤ c.k) (h : AA c (e :: es) s fun ds s1 => R ds s1.o fun d o => P d ⟨s1.r, o⟩)
    (hg : IsG c x := by rfl) (hdb : (x == ("__debug__" : Str)) = false := by decide) (he : ∀ env, starEach (e :: es) env = (false, eval e env) :: starEach es env := by intro _; rfl)
    (hpl : ∀ env, (backTo pos (starEach es env)).any (·.1) = false := by intro _; rfl) : AE c (.Call (.Name x p) (e :: es) [] pos) s P := by
  refine ⟨?_⟩
  intro X hX σ τ τv H R Q hq
  obtain ⟨f, fd, ps, F, hm, kp, hb⟩ := C.ex
  refine WE.of (pe_call (fn_at hX F) (hX.room.mono hk) (gl_of hX hg) (by rw [hX.mg]; exact hm) (by rw [hX.K]; exact kp) (by rw [hX.K]; exact hb) .nil pass0 pa_w hdb (he _) (hpl _)) ?_
  refine h X hX σ τ τv H R _ fun ds s1 vs H1 h1 hl R1 => ?_
  obtain ⟨F1, os1, a1, b1, e1, r1⟩ := R1
  obtain ⟨ra, rb⟩ := RpL.split hl r1
  rw [List.append_nil]
  exact ⟨ds, F1, os1, s1.o, _, a1, ra, h1, fun d O' F' os' H' v hp ext ent rp => hq d ⟨s1.r, O'⟩ v H' hp ⟨F', os', ent, b1.trans a1 ext, e1.mono ext.ff ext.pre, .cons rp (rb.mono ext.ff ext.pre)⟩⟩
end
end G9

namespace G9
open PySem PySem.Spec PyProof.Rows L2
variable {c : SC}
section
variable {s : Sta} {P : D → Sta → Prop} {PB : Bool → Sta → Prop} {a b e : Expr} {pos p : Pos} {x : Str}
theorem aec {e : Expr} {s : Sta} {P P' : D → Sta → Prop} (h : AE c e s P) (q : ∀ d s, P d s → P' d s) : AE c e s P' := h.mono q
theorem ae_mul (h : AE c a s fun d1 s1 => AE c b s1 fun d2 s2 => isI d1 fun i => isI d2 fun j => CMul i j ∧ P (.int (i * j)) s2) : AE c (.BinOp a .Mult b pos) s P :=
  ae_bin (fun X _ => op_mul) (fun X _ => rop_I fun i j _ _ => .int (i * j)) h
theorem ae_fdiv (h : AE c a s fun d1 s1 => AE c b s1 fun d2 s2 => isI d1 fun i => isI d2 fun j => CDiv i j ∧ P (.int (i / j)) s2) : AE c (.BinOp a .FloorDiv b pos) s P :=
  ae_bin (fun X _ => op_fdiv) (fun X _ => rop_I fun i j _ _ => .int (i / j)) h
theorem ae_pow (h : AE c a s fun d1 s1 => AE c b s1 fun d2 s2 => isI d1 fun i => isI d2 fun j => CPow i j ∧ P (.int (i ^ j.toNat)) s2) : AE c (.BinOp a .Pow b pos) s P :=
  ae_bin (fun X _ => op_pow) (fun X _ => rop_I fun i j _ _ => .int (i ^ j.toNat)) h
theorem ae_neg (h : AE c a s fun d1 s1 => isI d1 fun i => P (.int (-i)) s1) : AE c (.UnaryOp .USub a pos) s P := by
  refine ⟨?_⟩
  intro X hX σ τ τv H R Q hq
  refine WE.of (pe_un un_neg pe_w) (h X hX σ τ τv H R _ fun d1 s1 v1 H1 h1 R1 => ?_)
  obtain ⟨i, rfl, h1⟩ := h1
  have e1 := R1.int
  subst e1
  exact ⟨i, rfl, hq _ _ _ _ h1 (R1.pop.push fun _ _ => .int _)⟩
theorem ac_lt (h : AE c a s fun d1 s1 => AE c b s1 fun d2 s2 => isI d1 fun i => isI d2 fun j => P (.bl (decide (i < j))) s2) : AC c .Lt a b s P :=
  ac_op (fun X _ => op_lt) (fun X _ => rop_I0 fun i j _ _ => .bl _) (h.mono fun _ _ q => q.mono fun _ _ q => r0 (C := True) q)
theorem ac_le (h : AE c a s fun d1 s1 => AE c b s1 fun d2 s2 => isI d1 fun i => isI d2 fun j => P (.bl (decide (i ≤ j))) s2) : AC c .LtE a b s P :=
  ac_op (fun X _ => op_le) (fun X _ => rop_I0 fun i j _ _ => .bl _) (h.mono fun _ _ q => q.mono fun _ _ q => r0 (C := True) q)
theorem ac_gt (h : AE c a s fun d1 s1 => AE c b s1 fun d2 s2 => isI d1 fun i => isI d2 fun j => P (.bl (decide (j < i))) s2) : AC c .Gt a b s P :=
  ac_op (fun X _ => op_gt) (fun X _ => rop_I0 fun i j _ _ => .bl _) (h.mono fun _ _ q => q.mono fun _ _ q => r0 (C := True) q)
theorem ac_ge (h : AE c a s fun d1 s1 => AE c b s1 fun d2 s2 => isI d1 fun i => isI d2 fun j => P (.bl (decide (j ≤ i))) s2) : AC c .GtE a b s P :=
  ac_op (fun X _ => op_ge) (fun X _ => rop_I0 fun i j _ _ => .bl _) (h.mono fun _ _ q => q.mono fun _ _ q => r0 (C := True) q)
/-- == of plain values -/
def scalD : D → D → Option Bool
  | .int i, .int j => some (decide (i = j))
  | .str l, .str m => some (decide (l = m))
  | .bl b, .bl b' => some (decide (b = b'))
  | .non, .non => some true
  | .non, .int _ => some false | .int _, .non => some false | .non, .bl _ => some false | .bl _, .non => some false | .non, .str _ => some false | .str _, .non => some false
  | .int _, .str _ => some false | .str _, .int _ => some false | .bl _, .str _ => some false | .str _, .bl _ => some false
  | _, _ => none
theorem scal_ok {K : PySem.W.Frag} {F : Hp} {os : List Addr} {v w : V} {d e : D} {k : Bool} (h1 : Rp K F os v d) (h2 : Rp K F os w e) (h : scalD d e = some k) : scal v w = true ∧ decide (v = w) = k := by
  cases h1 <;> cases h2 <;> simp [scalD] at h <;> subst h <;> simp [scal, S_inj]
theorem rop_eq : ROp c rEq fun d1 d2 s P => ∃ k, scalD d1 d2 = some k ∧ P (.bl k) s := by
  intro σ τ τv H s v1 v2 d1 d2 P Q R h hq
  obtain ⟨k, hk, h⟩ := h
  obtain ⟨F, os, a, b, e, r⟩ := id R
  cases r with
  | cons r2 r =>
    cases r with
    | cons r1 r =>
      obtain ⟨h1, h2⟩ := scal_ok r1 r2 hk
      refine ⟨h1, ?_⟩
      rw [h2]
      exact hq _ _ _ _ h (R.pop.pop.push fun _ _ => .bl k)
theorem rop_ne : ROp c rNe fun d1 d2 s P => ∃ k, scalD d1 d2 = some k ∧ P (.bl (!k)) s := by
  intro σ τ τv H s v1 v2 d1 d2 P Q R h hq
  obtain ⟨k, hk, h⟩ := h
  obtain ⟨F, os, a, b, e, r⟩ := id R
  cases r with
  | cons r2 r =>
    cases r with
    | cons r1 r =>
      obtain ⟨h1, h2⟩ := scal_ok r1 r2 hk
      refine ⟨h1, ?_⟩
      rw [h2]
      exact hq _ _ _ _ h (R.pop.pop.push fun _ _ => .bl _)
theorem ac_eq (h : AE c a s fun d1 s1 => AE c b s1 fun d2 s2 => ∃ k, scalD d1 d2 = some k ∧ P (.bl k) s2) : AC c .Eq a b s P := ac_op (fun X _ => op_eq) (fun X _ => rop_eq) h
theorem ac_ne (h : AE c a s fun d1 s1 => AE c b s1 fun d2 s2 => ∃ k, scalD d1 d2 = some k ∧ P (.bl (!k)) s2) : AC c .NotEq a b s P := ac_op (fun X _ => op_ne) (fun X _ => rop_ne) h
/-- two texts -/
theorem rop_S {g : List Nat → List Nat → D} {gV : Str → Str → V} {C : List Nat → List Nat → Prop} {CV : Str → Str → Prop} (hC : ∀ l m, C l m → CV (S l) (S m)) (hg : ∀ l m, C l m → ∀ F os, Rp c.K F os (gV (S l) (S m)) (g l m)) :
    ROp c (fun x y H Q => ∃ i j, x = .str i ∧ y = .str j ∧ CV i j ∧ Q (gV i j) H) fun d1 d2 s P => isS d1 fun l => isS d2 fun m => C l m ∧ P (g l m) s := by
  intro σ τ τv H s v1 v2 d1 d2 P Q R h hq
  obtain ⟨l, rfl, m, rfl, hc, h⟩ := h
  have e2 := R.str
  have e1 := R.pop.str
  subst e1 e2
  exact ⟨_, _, rfl, rfl, hC _ _ hc, hq _ _ _ _ h (R.pop.pop.push (hg _ _ hc))⟩
theorem ae_addS (h : AE c a s fun d1 s1 => AE c b s1 fun d2 s2 => isS d1 fun l => isS d2 fun m => l.length + m.length ≤ sizeLine ∧ P (.str (l ++ m)) s2) : AE c (.BinOp a .Add b pos) s P :=
  ae_bin (fun X _ => op_add_str) (fun X _ => rop_S (C := fun l m => l.length + m.length ≤ sizeLine) (fun l m h => by rw [S_len, S_len]; exact h) fun l m _ F os => by
    rw [S_app]
    exact .str _) h
theorem ac_ltS (h : AE c a s fun d1 s1 => AE c b s1 fun d2 s2 => isS d1 fun l => isS d2 fun m => P (.bl (decide (l < m))) s2) : AC c .Lt a b s P := by
  refine ac_op (r := fun d1 d2 s P => isS d1 fun l => isS d2 fun m => P (.bl (decide (l < m))) s) (fun X _ => op_lt_str) (fun X _ => ?_) h
  intro σ τ τv H s v1 v2 d1 d2 P Q R h hq
  obtain ⟨l, rfl, m, rfl, h⟩ := h
  have e2 := R.str
  have e1 := R.pop.str
  subst e1 e2
  refine ⟨_, _, rfl, rfl, hq _ _ _ _ h (R.pop.pop.push fun F os => ?_)⟩
  rw [S_list, S_list]
  exact .bl _
/-- one sign in a text -/
theorem ac_inS (h : AE c a s fun d1 s1 => AE c b s1 fun d2 s2 => ∃ k m, d1 = .str [k] ∧ d2 = .str m ∧ P (.bl (decide (k ∈ m))) s2) : AC c .In a b s P := by
  refine ac_op (r := fun d1 d2 s P => ∃ k m, d1 = .str [k] ∧ d2 = .str m ∧ P (.bl (decide (k ∈ m))) s) (fun X _ => op_in_sign) (fun X _ => ?_) h
  intro σ τ τv H s v1 v2 d1 d2 P Q R h hq
  obtain ⟨k, m, rfl, rfl, h⟩ := h
  have e2 := R.str
  have e1 := R.pop.str
  subst e1 e2
  refine ⟨k, _, rfl, rfl, hq _ _ _ _ h (R.pop.pop.push fun F os => ?_)⟩
  rw [S_list]
  exact .bl _
theorem ac_notInS (h : AE c a s fun d1 s1 => AE c b s1 fun d2 s2 => ∃ k m, d1 = .str [k] ∧ d2 = .str m ∧ P (.bl (!decide (k ∈ m))) s2) : AC c .NotIn a b s P := by
  refine ac_op (r := fun d1 d2 s P => ∃ k m, d1 = .str [k] ∧ d2 = .str m ∧ P (.bl (!decide (k ∈ m))) s) (fun X _ => op_notIn_sign) (fun X _ => ?_) h
  intro σ τ τv H s v1 v2 d1 d2 P Q R h hq
  obtain ⟨k, m, rfl, rfl, h⟩ := h
  have e2 := R.str
  have e1 := R.pop.str
  subst e1 e2
  refine ⟨k, _, rfl, rfl, hq _ _ _ _ h (R.pop.pop.push fun F os => ?_)⟩
  rw [S_list]
  exact .bl _
/-- flat items in a list, a tuple -/
def flatD : D → Bool
  | .non => true | .bl _ => true | .int _ => true | .str _ => true | _ => false
def eqF : D → D → Bool
  | .non, .non => true
  | .bl a, .bl b => a == b
  | .bl a, .int b => (if a then 1 else 0) == b
  | .int a, .bl b => a == (if b then 1 else 0)
  | .int a, .int b => a == b
  | .str a, .str b => decide (a = b)
  | _, _ => false
def inD (d : D) (ds : List D) : Bool := ds.any fun e => eqF e d
def SeqD (s : Sta) (d : D) (ds : List D) : Prop := RdL s d ds ∨ d = .tup ds
theorem flat_ok {K : PySem.W.Frag} {F : Hp} {os : List Addr} {v : V} {d : D} (h : Rp K F os v d) (hf : flatD d = true) : flatV v = true := by
  cases h <;> simp [flatD] at hf <;> rfl
theorem eqF_ok {K : PySem.W.Frag} {F : Hp} {os : List Addr} {v w : V} {d e : D} (h1 : Rp K F os v d) (h2 : Rp K F os w e) (f1 : flatD d = true) (f2 : flatD e = true) : eqV v w = eqF d e := by
  cases h1 <;> simp [flatD] at f1 <;> cases h2 <;> simp [flatD] at f2 <;> simp [eqV, eqF]
  · rw [Bool.eq_iff_iff]
    simp [S_inj]
theorem flats_ok {K : PySem.W.Frag} {F : Hp} {os : List Addr} : ∀ {vs : List V} {ds : List D}, RpL K F os vs ds → ds.all flatD = true → vs.all flatV = true
  | _, _, .nil, _ => rfl
  | _, _, .cons h r, f => by
    simp only [List.all_cons, Bool.and_eq_true] at f ⊢
    exact ⟨flat_ok h f.1, flats_ok r f.2⟩
theorem inV_ok {K : PySem.W.Frag} {F : Hp} {os : List Addr} {w : V} {e : D} (h2 : Rp K F os w e) (f2 : flatD e = true) : ∀ {vs : List V} {ds : List D}, RpL K F os vs ds → ds.all flatD = true → inV w vs = inD e ds
  | _, _, .nil, _ => rfl
  | _, _, .cons h r, f => by
    simp only [List.all_cons, Bool.and_eq_true] at f
    have ih := inV_ok h2 f2 r f.2
    unfold inV inD at ih ⊢
    rw [List.any_cons, List.any_cons, eqF_ok h h2 f.1 f2, ih]
theorem Rep.seq {s : Sta} {σ : L2.St} {τ : List D} {τv : List V} {H : Hp} {d : D} {v : V} {ds : List D} (R : Rep c s σ (d :: τ) (v :: τv) H) (h : SeqD s d ds) : ∃ a vs, v = .ref a ∧ (SqL c.K H a vs ∨ SqT c.K H a vs) ∧ vs.length = ds.length ∧ Rep c s σ (ds ++ d :: τ) (vs ++ v :: τv) H := by
  rcases h with h | rfl
  · obtain ⟨a, vs, e, q, l, R1⟩ := R.rdl h
    exact ⟨a, vs, e, .inl q, l, R1⟩
  · obtain ⟨a, vs, e, q, l, R1⟩ := R.rdt
    exact ⟨a, vs, e, .inr q, l, R1⟩
theorem rop_in {neg : Bool} : ROp c (rIn c.K neg) fun d1 d2 s P => ∃ ds, SeqD s d2 ds ∧ flatD d1 = true ∧ ds.all flatD = true ∧ P (.bl (if neg then !inD d1 ds else inD d1 ds)) s := by
  intro σ τ τv H s v1 v2 d1 d2 P Q R h hq
  obtain ⟨ds, hs, f1, f2, h⟩ := h
  obtain ⟨a, vs, rfl, q, l, R1⟩ := R.seq hs
  obtain ⟨F, os, _, _, _, r⟩ := R1
  obtain ⟨r1, r2⟩ := RpL.split l r
  cases r2 with
  | cons _ r3 =>
    cases r3 with
    | cons r4 _ =>
      refine ⟨a, vs, rfl, q, flat_ok r4 f1, flats_ok r1 f2, ?_⟩
      rw [inV_ok r4 f1 r1 f2]
      exact hq _ _ _ _ h (R.pop.pop.push fun _ _ => .bl _)
theorem ac_in (h : AE c a s fun d1 s1 => AE c b s1 fun d2 s2 => ∃ ds, SeqD s2 d2 ds ∧ flatD d1 = true ∧ ds.all flatD = true ∧ P (.bl (inD d1 ds)) s2) : AC c .In a b s P :=
  ac_op (rV := fun _ => rIn c.K false) (fun X hX => by rw [← hX.K]; exact op_in_seq) (fun X _ => rop_in) h
theorem ac_notIn (h : AE c a s fun d1 s1 => AE c b s1 fun d2 s2 => ∃ ds, SeqD s2 d2 ds ∧ flatD d1 = true ∧ ds.all flatD = true ∧ P (.bl (!inD d1 ds)) s2) : AC c .NotIn a b s P :=
  ac_op (rV := fun _ => rIn c.K true) (fun X hX => by rw [← hX.K]; exact op_notIn_seq) (fun X _ => rop_in) h
def isNonD : D → Bool
  | .non => true
  | _ => false
theorem nonD_ok {K : PySem.W.Frag} {F : Hp} {os : List Addr} {v : V} {d : D} (h : Rp K F os v d) : decide (v = .non) = isNonD d := by
  cases h <;> simp [isNonD]
theorem ac_isN {j pos'} (h : AE c a s fun d s1 => P (.bl (isNonD d)) s1) : AC c .Is a (.Constant .none j pos') s P := by
  refine ⟨?_⟩
  intro X hX σ τ τv H R Q hq
  refine WC.of (pc_isN pe_w) (h X hX σ τ τv H R _ fun d1 s1 v1 H1 h1 R1 => ?_)
  obtain ⟨F, os, r⟩ := R1.top
  rw [nonD_ok r]
  exact hq _ _ _ _ h1 (R1.pop.push fun _ _ => .bl _)
theorem ac_notN {j pos'} (h : AE c a s fun d s1 => P (.bl (!isNonD d)) s1) : AC c .IsNot a (.Constant .none j pos') s P := by
  refine ⟨?_⟩
  intro X hX σ τ τv H R Q hq
  refine WC.of (pc_notN pe_w) (h X hX σ τ τv H R _ fun d1 s1 v1 H1 h1 R1 => ?_)
  obtain ⟨F, os, r⟩ := R1.top
  rw [nonD_ok r]
  exact hq _ _ _ _ h1 (R1.pop.push fun _ _ => .bl _)
/-! ### and, or, not; tests -/
theorem ae_and {rest : List Expr} (h : AE c a s fun d s1 => isB d fun k => if k = true then AE c (.BoolOp .And (b :: rest) pos) s1 P else P (.bl false) s1) : AE c (.BoolOp .And (a :: b :: rest) pos) s P := by
  refine ⟨?_⟩
  intro X hX σ τ τv H R Q hq
  refine WE.of (pe_and pe_w pe_w) (h X hX σ τ τv H R _ fun d1 s1 v1 H1 h1 R1 => ?_)
  obtain ⟨k, rfl, h1⟩ := h1
  have e1 := R1.bl
  subst e1
  refine ⟨k, rfl, ?_⟩
  cases k with
  | true => exact AE.run h1 X hX σ τ τv H1 R1.pop Q hq
  | false => exact hq _ _ _ _ h1 R1
theorem ae_or {rest : List Expr} (h : AE c a s fun d s1 => isB d fun k => if k = true then P (.bl true) s1 else AE c (.BoolOp .Or (b :: rest) pos) s1 P) : AE c (.BoolOp .Or (a :: b :: rest) pos) s P := by
  refine ⟨?_⟩
  intro X hX σ τ τv H R Q hq
  refine WE.of (pe_or pe_w pe_w) (h X hX σ τ τv H R _ fun d1 s1 v1 H1 h1 R1 => ?_)
  obtain ⟨k, rfl, h1⟩ := h1
  have e1 := R1.bl
  subst e1
  refine ⟨k, rfl, ?_⟩
  cases k with
  | false => exact AE.run h1 X hX σ τ τv H1 R1.pop Q hq
  | true => exact hq _ _ _ _ h1 R1
theorem ae_one {op} (h : AE c a s P) : AE c (.BoolOp op [a] pos) s P := .mk fun X hX σ τ τv H R Q hq => WE.of (pe_one pe_w) (h X hX σ τ τv H R Q hq)
theorem ae_not (h : AE c a s fun d s1 => isB d fun k => P (.bl (!k)) s1) : AE c (.UnaryOp .Not a pos) s P := by
  refine ⟨?_⟩
  intro X hX σ τ τv H R Q hq
  refine WE.of (pe_not pe_w) (h X hX σ τ τv H R _ fun d1 s1 v1 H1 h1 R1 => ?_)
  obtain ⟨k, rfl, h1⟩ := h1
  have e1 := R1.bl
  subst e1
  exact ⟨k, rfl, hq _ _ _ _ h1 (R1.pop.push fun _ _ => .bl _)⟩
theorem at_val (h : AE c e s fun d s1 => isB d fun k => PB k s1) (he : ∀ env whole, isTrue e env whole = (do let v ← whole; standAt e.pos; holding [v] (truthy v)) := by intro _ _; rfl) : AT c e s PB := by
  refine ⟨?_⟩
  intro X hX σ τ τv H R Q hq
  refine WT.of (pt_val pe_w (he _)) (h X hX σ τ τv H R _ fun d1 s1 v1 H1 h1 R1 => ?_)
  obtain ⟨k, rfl, h1⟩ := h1
  have e1 := R1.bl
  subst e1
  exact ⟨k, rfl, hq _ _ _ h1 R1.pop⟩
end
end G9

namespace G9
open PySem PySem.Spec PyProof.Rows L2
variable {c : SC}
section
variable {s : Sta} {P : D → Sta → Prop} {PB : Bool → Sta → Prop} {a b e : Expr} {es : List Expr} {pos p : Pos} {x : Str}
/-! ### tests: and, or, not -/
theorem aw_and1 (h : AT c a s PB) : AW c (.BoolOp .And [a] pos) s PB := .mk fun X hX σ τ τv H R Q hq => WW.of (pw_and1 pt_w) (h X hX σ τ τv H R Q hq)
theorem aw_or1 (h : AT c a s PB) : AW c (.BoolOp .Or [a] pos) s PB := .mk fun X hX σ τ τv H R Q hq => WW.of (pw_or1 pt_w) (h X hX σ τ τv H R Q hq)
theorem aw_and {rest : List Expr} (h : AT c a s fun k s1 => if k = true then AW c (.BoolOp .And (b :: rest) pos) s1 PB else PB false s1) : AW c (.BoolOp .And (a :: b :: rest) pos) s PB := by
  refine ⟨?_⟩
  intro X hX σ τ τv H R Q hq
  refine WW.of (pw_and pt_w pw_w) (h X hX σ τ τv H R _ fun k s1 H1 h1 R1 => ?_)
  cases k with
  | true => exact AW.run h1 X hX σ τ τv H1 R1 Q hq
  | false => exact hq _ _ _ h1 R1
theorem aw_or {rest : List Expr} (h : AT c a s fun k s1 => if k = true then PB true s1 else AW c (.BoolOp .Or (b :: rest) pos) s1 PB) : AW c (.BoolOp .Or (a :: b :: rest) pos) s PB := by
  refine ⟨?_⟩
  intro X hX σ τ τv H R Q hq
  refine WW.of (pw_or pt_w pw_w) (h X hX σ τ τv H R _ fun k s1 H1 h1 R1 => ?_)
  cases k with
  | false => exact AW.run h1 X hX σ τ τv H1 R1 Q hq
  | true => exact hq _ _ _ h1 R1
theorem at_w (h : AW c e s PB) : AT c e s PB := .mk fun X hX σ τ τv H R Q hq => WT.of (PW.pt pw_w) (h X hX σ τ τv H R Q hq)
theorem at_not (h : AT c a s fun k s1 => PB (!k) s1) : AT c (.UnaryOp .Not a pos) s PB := .mk fun X hX σ τ τv H R Q hq => WT.of (pt_not pt_w) (h X hX σ τ τv H R (fun k H1 => Q (!k) H1) fun k s1 H1 h1 R1 => hq _ _ _ h1 R1)
theorem ae_if {t : Expr} (h : AT c t s fun k s1 => if k = true then AE c a s1 P else AE c b s1 P) : AE c (.IfExp t a b pos) s P := by
  refine ⟨?_⟩
  intro X hX σ τ τv H R Q hq
  refine WE.of (pe_ifExp pt_w pe_w pe_w) (h X hX σ τ τv H R _ fun k s1 H1 h1 R1 => ?_)
  cases k with
  | true => exact AE.run h1 X hX σ τ τv H1 R1 Q hq
  | false => exact AE.run h1 X hX σ τ τv H1 R1 Q hq

/-! ### subscripts, slices, displays -/
theorem atI_len {α β : Type} {xs : List α} {ys : List β} {i : Int} {y : β} (h : atI ys i = some y) (l : xs.length = ys.length) : ∃ j : Nat, ys[j]? = some y ∧ ∀ z, xs[j]? = some z → atI xs i = some z := by
  unfold atI at h ⊢
  rw [l]
  cases q : ixN ys.length i with
  | none =>
    rw [q] at h
    cases h
  | some j =>
    rw [q] at h
    exact ⟨j, h, fun z hz => hz⟩
/-- an item of a list, a tuple -/
def IxD (s : Sta) (d : D) (i : Int) (e : D) : Prop := ∃ ds, SeqD s d ds ∧ atI ds i = some e
theorem rop_ix : ROp c (fun x y H Q => rIxL c.K x y H Q ∨ rIxT c.K x y H Q) fun d1 d2 s P => isI d2 fun i => ∃ e, IxD s d1 i e ∧ P e s := by
  intro σ τ τv H s v1 v2 d1 d2 P Q R h hq
  obtain ⟨i, rfl, e, ⟨ds, hs, ha⟩, h⟩ := h
  have e2 := R.int
  subst e2
  obtain ⟨a, vs, rfl, q, l, R1⟩ := R.pop.seq hs
  obtain ⟨j, hj, hz⟩ := atI_len ha l
  obtain ⟨F, os, _, _, _, r⟩ := id R1
  obtain ⟨r1, r2⟩ := RpL.split l r
  obtain ⟨v, hv, _⟩ := r1.get hj
  have R2 : Rep c s σ (e :: τ) (v :: τv) H := R1.temps fun F os r => by
    obtain ⟨r1, r2⟩ := RpL.split l r
    obtain ⟨v', hv', r3⟩ := r1.get hj
    rw [hv] at hv'
    cases hv'
    cases r2 with
    | cons _ r4 => exact .cons r3 r4
  rcases q with q | q
  · exact .inl ⟨a, vs, i, v, rfl, rfl, q, hz _ hv, hq _ _ _ _ h R2⟩
  · exact .inr ⟨a, vs, i, v, rfl, rfl, q, hz _ hv, hq _ _ _ _ h R2⟩
theorem ae_ix (h : AE c a s fun d1 s1 => AE c b s1 fun d2 s2 => isI d2 fun i => ∃ e, IxD s2 d1 i e ∧ P e s2) (hs : PlainIx b := by intro _ _; rfl) : AE c (.Subscript a b pos) s P := by
  refine ⟨?_⟩
  intro X hX σ τ τv H R Q hq
  refine WE.of (pe_ix (IxR.or ix_list ix_tup) pe_w pe_w hs) (h X hX σ τ τv H R _ fun d1 s1 v1 H1 h1 R1 => h1 X hX σ _ _ H1 R1 _ fun d2 s2 v2 H2 h2 R2 => ?_)
  rw [hX.K]
  exact rop_ix _ _ _ _ _ _ _ _ _ _ _ R2 h2 hq
theorem ix_l {s : Sta} {ds : List D} {i : Int} {e : D} (h : atI ds i = some e) : IxD s (.lst ds) i e := ⟨ds, .inl (.inl rfl), h⟩
theorem ix_o {s : Sta} {j : Nat} {ds : List D} {i : Int} {e : D} (ho : s.o[j]? = some (.lst ds)) (h : atI ds i = some e) : IxD s (.ob j) i e := ⟨ds, .inl (.inr ⟨j, rfl, ho⟩), h⟩
theorem ix_t {s : Sta} {ds : List D} {i : Int} {e : D} (h : atI ds i = some e) : IxD s (.tup ds) i e := ⟨ds, .inr rfl, h⟩
/-- a text's sign -/
theorem ae_ixS (h : AE c a s fun d1 s1 => AE c b s1 fun d2 s2 => isS d1 fun l => isI d2 fun i => ∃ k, l.length ≤ sizeLine ∧ atI l i = some k ∧ P (.str [k]) s2) (hs : PlainIx b := by intro _ _; rfl) : AE c (.Subscript a b pos) s P := by
  refine ⟨?_⟩
  intro X hX σ τ τv H R Q hq
  refine WE.of (pe_ix ix_str pe_w pe_w hs) (h X hX σ τ τv H R _ fun d1 s1 v1 H1 h1 R1 => h1 X hX σ _ _ H1 R1 _ fun d2 s2 v2 H2 h2 R2 => ?_)
  obtain ⟨l, rfl, i, rfl, k, hl, hk, h2⟩ := h2
  have e2 := R2.int
  have e1 := R2.pop.str
  subst e1 e2
  refine ⟨S l, i, k, rfl, rfl, by rw [S_len]; exact hl, by rw [S_list]; exact hk, hq _ _ _ _ h2 (R2.pop.pop.push fun _ _ => ?_)⟩
  exact .str [k]
/-- parts of slices -/
structure AO (c : SC) (e : Option Expr) (s : Sta) (P : Option Int → Sta → Prop) : Prop where
  run : ∀ X, XC c X → ∀ σ τ τv H, Rep c s σ τ τv H → ∀ Q : Option Int → Hp → Prop, (∀ o s' H', P o s' → Rep c s' σ τ τv H' → Q o H') → WO X e σ H Q
instance {c : SC} {e : Option Expr} {s : Sta} {P : Option Int → Sta → Prop} : CoeFun (AO c e s P) (fun _ => ∀ X, XC c X → ∀ σ τ τv H, Rep c s σ τ τv H → ∀ Q : Option Int → Hp → Prop, (∀ o s' H', P o s' → Rep c s' σ τ τv H' → Q o H') → WO X e σ H Q) := ⟨AO.run⟩
theorem ao_none {P : Option Int → Sta → Prop} (h : P none s) : AO c none s P := .mk fun X hX σ τ τv H R Q hq => WO.of po_none (hq _ _ _ h R)
theorem ao_some {P : Option Int → Sta → Prop} (h : AE c e s fun d s1 => isI d fun i => P (some i) s1) : AO c (some e) s P := .mk fun X hX σ τ τv H R Q hq => WO.of (po_some pe_w) (h X hX σ τ τv H R _ fun d s1 v H1 h1 R1 => by
  obtain ⟨i, rfl, h1⟩ := h1
  have e1 := R1.int
  subst e1
  exact ⟨i, rfl, hq _ _ _ h1 R1.pop⟩)
def cutD {α : Type} (xs : List α) (lo hi : Option Int) : List α := (xs.drop (HT.sIx xs.length 0 lo)).take (HT.sIx xs.length xs.length hi - HT.sIx xs.length 0 lo)
theorem ae_slS {lo hi : Option Expr} {p2 : Pos} (h : AE c e s fun d s1 => isS d fun l => AO c lo s1 fun i s2 => AO c hi s2 fun j s3 => l.length ≤ sizeLine ∧ P (.str (cutD l i j)) s3) : AE c (.Subscript e (.Slice lo hi none p2) pos) s P := by
  refine ⟨?_⟩
  intro X hX σ τ τv H R Q hq
  refine WE.of (pe_slice sl_str pe_w po_w po_w) (h X hX σ τ τv H R _ fun d s1 v H1 h1 R1 => ?_)
  obtain ⟨l, rfl, h1⟩ := h1
  refine h1 X hX σ _ _ H1 R1 _ fun i s2 H2 h2 R2 => h2 X hX σ _ _ H2 R2 _ fun j s3 H3 h3 R3 => ?_
  have e1 := R3.str
  subst e1
  refine ⟨S l, rfl, by rw [S_len]; exact h3.1, hq _ _ _ _ h3.2 (R3.pop.push fun F os => ?_)⟩
  have : cutS (S l) i j = S (cutD l i j) := by
    unfold cutS cutD
    rw [S_list, S_len]
  rw [this]
  exact .str _
theorem RpL.cutl {K : PySem.W.Frag} {F : Hp} {os : List Addr} {vs : List V} {ds : List D} {lo hi : Option Int} (h : RpL K F os vs ds) : RpL K F os (cutV vs lo hi) (cutD ds lo hi) := by
  have l := h.length
  unfold cutV cutD
  rw [l]
  exact (h.drop _).take _
/-- a slice of a list: a new list that isn't changed -/
theorem ae_slL {lo hi : Option Expr} {p2 : Pos} (h : AE c e s fun d s1 => AO c lo s1 fun i s2 => AO c hi s2 fun j s3 => ∃ ds, RdL s3 d ds ∧ P (.lst (cutD ds i j)) s3) : AE c (.Subscript e (.Slice lo hi none p2) pos) s P := by
  refine ⟨?_⟩
  intro X hX σ τ τv H R Q hq
  refine WE.of (pe_slice sl_list pe_w po_w po_w) (h X hX σ τ τv H R _ fun d s1 v H1 h1 R1 => ?_)
  refine h1 X hX σ _ _ H1 R1 _ fun i s2 H2 h2 R2 => h2 X hX σ _ _ H2 R2 _ fun j s3 H3 h3 R3 => ?_
  obtain ⟨ds, hd, h3⟩ := h3
  obtain ⟨a, vs, rfl, q, l, R4⟩ := R3.rdl hd
  rw [hX.K]
  refine ⟨a, vs, rfl, q, fun p hp => ?_⟩
  have R5 := R4.lay (d := .lst (cutD ds i j)) (o := .lst (cutV vs i j)) hp fun F os r e => by
    obtain ⟨r1, _⟩ := RpL.split l r
    exact .lst (.inl (.inl e)) r1.cutl
  refine hq _ _ _ _ h3 (R5.temps fun F os r => ?_)
  cases r with
  | cons r0 r =>
    obtain ⟨_, r2⟩ := RpL.split l r
    cases r2 with
    | cons _ r4 => exact .cons r0 r4
/-- a written tuple -/
theorem ae_tup {k : Nat} (h : AA c es s fun ds s1 => ds.length ≤ sizeLine ∧ P (.tup ds) s1) : AE c (.Tuple es k pos) s P := by
  refine ⟨?_⟩
  intro X hX σ τ τv H R Q hq
  refine WE.of (pe_tup pa_w) (h X hX σ τ τv H R _ fun ds s1 vs H1 h1 l R1 => ⟨by rw [l]; exact h1.1, fun p hp => ?_⟩)
  have R2 := R1.lay (d := .tup ds) (o := .tup vs) hp fun F os r e => .tup (.inl (.inl e)) (RpL.split l r).1
  refine hq _ _ _ _ h1.2 (R2.temps fun F os r => ?_)
  cases r with
  | cons r0 r => exact .cons r0 (RpL.split l r).2
/-- a written list that is not changed -/
theorem ae_lstF (h : AA c es s fun ds s1 => ds.length ≤ sizeLine ∧ P (.lst ds) s1) : AE c (.List es pos) s P := by
  refine ⟨?_⟩
  intro X hX σ τ τv H R Q hq
  refine WE.of (pe_lst pa_w) (h X hX σ τ τv H R _ fun ds s1 vs H1 h1 l R1 => ⟨by rw [l]; exact h1.1, fun p hp => ?_⟩)
  have R2 := R1.lay (d := .lst ds) (o := .lst vs) hp fun F os r e => .lst (.inl (.inl e)) (RpL.split l r).1
  refine hq _ _ _ _ h1.2 (R2.temps fun F os r => ?_)
  cases r with
  | cons r0 r => exact .cons r0 (RpL.split l r).2
/-- .. that may be changed -/
theorem ae_lstO (h : AA c es s fun ds s1 => ds.length ≤ sizeLine ∧ P (.ob s1.o.length) ⟨s1.r, s1.o ++ [.lst ds]⟩) : AE c (.List es pos) s P := by
  refine ⟨?_⟩
  intro X hX σ τ τv H R Q hq
  refine WE.of (pe_lst pa_w) (h X hX σ τ τv H R _ fun ds s1 vs H1 h1 l R1 => ⟨by rw [l]; exact h1.1, fun p hp => ?_⟩)
  have R2 := R1.own (ds := ds) (vs := vs) hp fun F os r => (RpL.split l r).1
  refine hq _ _ _ _ h1.2 (R2.temps fun F os r => ?_)
  cases r with
  | cons r0 r => exact .cons r0 (RpL.split l r).2
/-- a changeable list is changed no more -/
theorem ae_frz (h : AE c e s fun d s1 => ∃ j ds, d = .ob j ∧ s1.o[j]? = some (.lst ds) ∧ P (.lst ds) ⟨s1.r, s1.o.set j .dead⟩) : AE c e s P := by
  refine ⟨?_⟩
  intro X hX σ τ τv H R Q hq
  refine h X hX σ τ τv H R _ fun d s1 v H1 h1 R1 => ?_
  obtain ⟨j, ds, rfl, ho, h1⟩ := h1
  exact hq _ _ _ _ h1 (R1.freeze ho)

/-! ### built-in functions, by values -/
def RCl (c : SC) (rV : List V → Hp → VK → Prop) (r : List D → Sta → (D → Sta → Prop) → Prop) : Prop :=
  ∀ σ τ τv H s vs ds P Q, vs.length = ds.length → Rep c s σ (ds ++ τ) (vs ++ τv) H → r ds s P → FinE c P σ τ τv Q → rV vs H Q
theorem ae_callB {id : String} {rV : Cx → List V → Hp → VK → Prop} {r : List D → Sta → (D → Sta → Prop) → Prop} (hc : ∀ X, XC c X → CallR X (.builtin id) (rV X)) (hr : ∀ X, XC c X → RCl c (rV X) r) (hm : c.mg x = none) (hv : bootBuiltins x = some (.builtin id))
    (h : AA c (e :: es) s fun ds s1 => r ds s1 P) (hg : IsG c x := by rfl) (hn : x ≠ "__name__" := by decide) (hdb : (x == ("__debug__" : Str)) = false := by decide)
    (he : ∀ env, starEach (e :: es) env = (false, eval e env) :: starEach es env := by intro _; rfl) (hpl : ∀ env, (backTo pos (starEach es env)).any (·.1) = false := by intro _; rfl) : AE c (.Call (.Name x p) (e :: es) [] pos) s P := by
  refine ⟨?_⟩
  intro X hX σ τ τv H R Q hq
  refine WE.of (pe_callB (hc X hX) (gl_of hX hg) (by rw [hX.mg]; exact hm) hv pa_w hn hdb (he _) (hpl _)) (h X hX σ τ τv H R _ fun ds s1 vs H1 h1 l R1 => ?_)
  exact hr X hX _ _ _ _ _ _ _ _ _ l R1 h1 hq
theorem ae_callT {T : String} {rV : Cx → List V → Hp → VK → Prop} {r : List D → Sta → (D → Sta → Prop) → Prop} (hc : ∀ X, XC c X → CallR X (.type T) (rV X)) (hr : ∀ X, XC c X → RCl c (rV X) r) (hm : c.mg x = none) (hv : bootBuiltins x = some (.type T))
    (h : AA c (e :: es) s fun ds s1 => r ds s1 P) (hg : IsG c x := by rfl) (hn : x ≠ "__name__" := by decide) (hdb : (x == ("__debug__" : Str)) = false := by decide)
    (he : ∀ env, starEach (e :: es) env = (false, eval e env) :: starEach es env := by intro _; rfl) (hpl : ∀ env, (backTo pos (starEach es env)).any (·.1) = false := by intro _; rfl) : AE c (.Call (.Name x p) (e :: es) [] pos) s P := by
  refine ⟨?_⟩
  intro X hX σ τ τv H R Q hq
  refine WE.of (pe_callTy (hc X hX) (gl_of hX hg) (by rw [hX.mg]; exact hm) hv pa_w hn hdb (he _) (hpl _)) (h X hX σ τ τv H R _ fun ds s1 vs H1 h1 l R1 => ?_)
  exact hr X hX _ _ _ _ _ _ _ _ _ l R1 h1 hq
theorem one_v {vs : List V} {d : D} (l : vs.length = [d].length) : ∃ v, vs = [v] := by
  match vs, l with
  | [v], _ => exact ⟨v, rfl⟩
theorem two_v {vs : List V} {d d' : D} (l : vs.length = [d, d'].length) : ∃ v w, vs = [v, w] := by
  match vs, l with
  | [v, w], _ => exact ⟨v, w, rfl⟩
abbrev AA1 (c : SC) (e : Expr) (s : Sta) (k : D → Sta → Prop) : Prop := AE c e s k
theorem aa_one {PA' : List D → Sta → Prop} (h : AE c e s fun d s1 => PA' [d] s1) (hs : ∀ env, starEach [e] env = (false, eval e env) :: starEach [] env := by intro _; rfl) : AA c [e] s PA' := aa_cons (h.mono fun _ _ q => aa_nil q) hs
theorem aa_two {e2 : Expr} {PA' : List D → Sta → Prop} (h : AE c e s fun d s1 => AE c e2 s1 fun d2 s2 => PA' [d, d2] s2) (hs : ∀ env, starEach [e, e2] env = (false, eval e env) :: starEach [e2] env := by intro _; rfl)
    (hs2 : ∀ env, starEach [e2] env = (false, eval e2 env) :: starEach [] env := by intro _; rfl) : AA c [e, e2] s PA' := aa_cons (h.mono fun _ _ q => aa_one q hs2) hs
/-- len -/
def LenD (s : Sta) (d : D) (n : Nat) : Prop := (∃ l, d = .str l ∧ l.length ≤ sizeLine ∧ n = l.length) ∨ ∃ ds, SeqD s d ds ∧ n = ds.length
theorem len_s {s : Sta} {l : List Nat} (h : l.length ≤ sizeLine) : LenD s (.str l) l.length := .inl ⟨l, rfl, h, rfl⟩
theorem len_l {s : Sta} {l : List D} : LenD s (.lst l) l.length := .inr ⟨l, .inl (.inl rfl), rfl⟩
theorem len_o {s : Sta} {j : Nat} {l : List D} (h : s.o[j]? = some (.lst l)) : LenD s (.ob j) l.length := .inr ⟨l, .inl (.inr ⟨j, rfl, h⟩), rfl⟩
theorem len_t {s : Sta} {l : List D} : LenD s (.tup l) l.length := .inr ⟨l, .inr rfl, rfl⟩
theorem rcl_len : RCl c (fun xs H Q => ∃ x n, xs = [x] ∧ LenV c.K x H n ∧ Q (.int n) H) fun ds s P => ∃ d n, ds = [d] ∧ LenD s d n ∧ P (.int (n : Nat)) s := by
  intro σ τ τv H s vs ds P Q l R h hq
  obtain ⟨d, n, rfl, hl, h⟩ := h
  obtain ⟨v, rfl⟩ := one_v l
  have R1 : Rep c s σ (d :: τ) (v :: τv) H := R
  refine ⟨v, n, rfl, ?_, hq _ _ _ _ h (R1.pop.push fun _ _ => .int _)⟩
  rcases hl with ⟨m, rfl, h1, h2⟩ | ⟨es, hs, h2⟩
  · have e1 := R1.str
    subst e1
    exact ⟨by rw [S_len]; exact h1, by rw [S_len]; exact h2⟩
  · obtain ⟨a, ws, rfl, q, l2, _⟩ := R1.seq hs
    rcases q with q | q
    · exact .inl ⟨ws, q, h2.trans l2.symm⟩
    · exact .inr ⟨ws, q, h2.trans l2.symm⟩
theorem ae_len (hm : c.mg "len" = none) (h : AE c e s fun d s1 => ∃ n, LenD s1 d n ∧ P (.int (n : Nat)) s1) (hg : IsG c "len" := by rfl)
    (he : ∀ env, starEach [e] env = (false, eval e env) :: starEach [] env := by intro _; rfl) : AE c (.Call (.Name "len" p) [e] [] pos) s P :=
  ae_callB (rV := fun X xs H Q => ∃ x n, xs = [x] ∧ LenV c.K x H n ∧ Q (.int n) H) (fun X hX => by rw [← hX.K]; exact call_len) (fun X _ => rcl_len) hm boot_len (aa_one (h.mono fun d s1 ⟨n, h1, h2⟩ => ⟨d, n, rfl, h1, h2⟩) he) hg (by decide) (by decide) he (fun _ => rfl)
/-- int of an int, of a bool -/
theorem ae_toInt (hm : c.mg "int" = none) (h : AE c e s fun d s1 => ∃ i, (d = .int i ∨ ∃ b, d = .bl b ∧ i = (if b then 1 else 0)) ∧ P (.int i) s1) (hg : IsG c "int" := by rfl)
    (he : ∀ env, starEach [e] env = (false, eval e env) :: starEach [] env := by intro _; rfl) : AE c (.Call (.Name "int" p) [e] [] pos) s P := by
  refine ae_callT (r := fun ds s P => ∃ d, ds = [d] ∧ ∃ i, (d = .int i ∨ ∃ b, d = .bl b ∧ i = (if b then 1 else 0)) ∧ P (.int i) s) (fun X hX => call_int1) (fun X _ => ?_) hm (by decide +kernel) (aa_one (h.mono fun d s1 h => ⟨d, rfl, h⟩) he) hg (by decide) (by decide) he (fun _ => rfl)
  intro σ τ τv H s vs ds P Q l R h hq
  obtain ⟨d, rfl, i, hd, h⟩ := h
  obtain ⟨v, rfl⟩ := one_v l
  have R1 : Rep c s σ (d :: τ) (v :: τv) H := R
  rcases hd with rfl | ⟨b, rfl, rfl⟩
  · have e1 := R1.int
    subst e1
    exact .inl ⟨i, rfl, hq _ _ _ _ h R1⟩
  · have e1 := R1.bl
    subst e1
    refine .inr ⟨b, rfl, hq _ _ _ _ h (R1.pop.push fun F os => ?_)⟩
    cases b <;> exact .int _
/-- list of a list, a tuple: a new list -/
theorem rcl_list (own : Bool) : RCl c (fun xs H Q => ∃ p ys, xs = [.ref p] ∧ (SqL c.K H p ys ∨ SqT c.K H p ys) ∧ ∀ l, H l = none → Q (.ref l) (upd H l (.lst ys)))
    fun ds s P => ∃ d es, ds = [d] ∧ SeqD s d es ∧ if own = true then P (.ob s.o.length) ⟨s.r, s.o ++ [.lst es]⟩ else P (.lst es) s := by
  intro σ τ τv H s vs ds P Q l R h hq
  obtain ⟨d, es, rfl, hs, h⟩ := h
  obtain ⟨v, rfl⟩ := one_v l
  have R1 : Rep c s σ (d :: τ) (v :: τv) H := R
  obtain ⟨a, ws, rfl, q, l2, R2⟩ := R1.seq hs
  refine ⟨a, ws, rfl, q, fun p hp => ?_⟩
  cases own with
  | true =>
    have R3 := R2.own (ds := es) (vs := ws) hp fun F os r => (RpL.split l2 r).1
    refine hq _ _ _ _ h (R3.temps fun F os r => ?_)
    cases r with
    | cons r0 r =>
      obtain ⟨_, r2⟩ := RpL.split l2 r
      cases r2 with
      | cons _ r4 => exact .cons r0 r4
  | false =>
    have R3 := R2.lay (d := .lst es) (o := .lst ws) hp fun F os r e => .lst (.inl (.inl e)) (RpL.split l2 r).1
    refine hq _ _ _ _ h (R3.temps fun F os r => ?_)
    cases r with
    | cons r0 r =>
      obtain ⟨_, r2⟩ := RpL.split l2 r
      cases r2 with
      | cons _ r4 => exact .cons r0 r4
theorem ae_listO (hm : c.mg "list" = none) (h : AE c e s fun d s1 => ∃ es, SeqD s1 d es ∧ P (.ob s1.o.length) ⟨s1.r, s1.o ++ [.lst es]⟩) (hg : IsG c "list" := by rfl)
    (he : ∀ env, starEach [e] env = (false, eval e env) :: starEach [] env := by intro _; rfl) : AE c (.Call (.Name "list" p) [e] [] pos) s P :=
  ae_callT (rV := fun X xs H Q => ∃ p ys, xs = [.ref p] ∧ (SqL c.K H p ys ∨ SqT c.K H p ys) ∧ ∀ l, H l = none → Q (.ref l) (upd H l (.lst ys))) (fun X hX => by rw [← hX.K]; exact call_list_of) (fun X _ => rcl_list true) hm (by decide +kernel) (aa_one (h.mono fun d s1 ⟨es, h1, h2⟩ => ⟨d, es, rfl, h1, h2⟩) he) hg (by decide) (by decide) he (fun _ => rfl)
theorem ae_listF (hm : c.mg "list" = none) (h : AE c e s fun d s1 => ∃ es, SeqD s1 d es ∧ P (.lst es) s1) (hg : IsG c "list" := by rfl)
    (he : ∀ env, starEach [e] env = (false, eval e env) :: starEach [] env := by intro _; rfl) : AE c (.Call (.Name "list" p) [e] [] pos) s P :=
  ae_callT (rV := fun X xs H Q => ∃ p ys, xs = [.ref p] ∧ (SqL c.K H p ys ∨ SqT c.K H p ys) ∧ ∀ l, H l = none → Q (.ref l) (upd H l (.lst ys))) (fun X hX => by rw [← hX.K]; exact call_list_of) (fun X _ => rcl_list false) hm (by decide +kernel) (aa_one (h.mono fun d s1 ⟨es, h1, h2⟩ => ⟨d, es, rfl, h1, h2⟩) he) hg (by decide) (by decide) he (fun _ => rfl)
/-- list of a text: its signs -/
def signs (l : List Nat) : List D := l.map fun k => .str [k]
theorem vals_of_get' : ∀ (us : List Value) (f : Nat → V), (∀ j u, us[j]? = some u → RelV (f j) u) → Vals ((List.range us.length).map f) us
  | [], _, _ => .nil
  | u :: r, f, h => by
    rw [List.length_cons, List.range_succ_eq_map, List.map_cons, List.map_map]
    exact .cons (h 0 u rfl) (vals_of_get' r (f ∘ Nat.succ) fun j v e => h (j + 1) v e)
theorem call_listS {X : Cx} (hc : X.calm = true) : CallR X (.type "list") (fun xs H Q => ∃ z : Str, xs = [.str z] ∧ z.cps.size ≤ sizeLine ∧ ∀ l, H l = none → Q (.ref l) (upd H l (.lst (z.cps.toList.map fun k => V.str ⟨#[k]⟩)))) := by
  intro pins s σ H xs us Q I r h
  obtain ⟨z, rfl, hz, q⟩ := h
  obtain ⟨u, rfl, rx⟩ := vals1 r
  obtain ⟨t, rfl⟩ := rx
  refine call_list_str (I.ok.hd hc) z t (fun h' tk acc' c' kp e it => ?_) hz
  have hv : Vals (z.cps.toList.map fun k => V.str ⟨#[k]⟩) acc'.toList := by
    obtain ⟨hn, hi⟩ := it
    have e : z.cps.toList.map (fun k => V.str ⟨#[k]⟩) = (List.range acc'.toList.length).map fun i => V.str ⟨#[z.cps.getD i 0]⟩ := by
      refine List.ext_getElem? fun i => ?_
      simp only [List.getElem?_map, Array.getElem?_toList, Array.length_toList]
      rcases Nat.lt_or_ge i z.cps.size with hlt | hge
      · rw [List.getElem?_range (by omega)]
        simp [hlt]
      · rw [List.getElem?_eq_none (by simp; omega)]
        simp [hge]
    rw [e]
    refine vals_of_get' _ _ fun j u hu => ?_
    obtain ⟨k, t, h1, rfl⟩ := hi j u (by simpa using hu)
    refine ⟨t, ?_⟩
    simp [Array.getD_eq_getD_getElem?, h1]
  exact ⟨.ref s.heap.objs.size, _, I.laid (t' := tk) kp (Nat.le_refl _) (show ObjOk X.prog X.w _ h' _ (.lst _) from ⟨by simpa using hz, acc'.toList, c', hv, by simpa using e⟩), rfl, q _ (I.hok.fresh (Nat.le_refl _))⟩
theorem ae_listS (own : Bool) (hm : c.mg "list" = none) (h : AE c e s fun d s1 => isS d fun l => l.length ≤ sizeLine ∧ if own = true then P (.ob s1.o.length) ⟨s1.r, s1.o ++ [.lst (signs l)]⟩ else P (.lst (signs l)) s1) (hg : IsG c "list" := by rfl)
    (he : ∀ env, starEach [e] env = (false, eval e env) :: starEach [] env := by intro _; rfl) : AE c (.Call (.Name "list" p) [e] [] pos) s P := by
  refine ae_callT (r := fun ds s P => ∃ d, ds = [d] ∧ isS d fun l => l.length ≤ sizeLine ∧ if own = true then P (.ob s.o.length) ⟨s.r, s.o ++ [.lst (signs l)]⟩ else P (.lst (signs l)) s) (fun X hX => call_listS hX.calm) (fun X _ => ?_) hm (by decide +kernel) (aa_one (h.mono fun d s1 h => ⟨d, rfl, h⟩) he) hg (by decide) (by decide) he (fun _ => rfl)
  intro σ τ τv H s vs ds P Q l R h hq
  obtain ⟨d, rfl, m, rfl, hz, h⟩ := h
  obtain ⟨v, rfl⟩ := one_v l
  have R1 : Rep c s σ (.str m :: τ) (v :: τv) H := R
  have e1 := R1.str
  subst e1
  have sg : ∀ {K : PySem.W.Frag} {F : Hp} {os : List Addr} (m : List Nat), RpL K F os (m.map fun k => V.str ⟨#[k]⟩) (signs m) := fun {K F os} m => by
    induction m with
    | nil => exact .nil
    | cons k r ih => exact .cons (.str [k]) ih
  refine ⟨S m, rfl, by simpa [S] using hz, fun p hp => ?_⟩
  rw [S_list]
  cases own with
  | true =>
    have R3 := R1.own (ds := signs m) hp fun F os r => sg m
    refine hq _ _ _ _ h (R3.temps fun F os r => ?_)
    cases r with
    | cons r0 r =>
      cases r with
      | cons _ r4 => exact .cons r0 r4
  | false =>
    have R3 := R1.lay (d := .lst (signs m)) hp fun F os r e => .lst (.inl (.inl e)) (sg m)
    refine hq _ _ _ _ h (R3.temps fun F os r => ?_)
    cases r with
    | cons r0 r =>
      cases r with
      | cons _ r4 => exact .cons r0 r4
end
end G9

namespace G9
open PySem PySem.Spec PyProof.Rows L2
variable {c : SC}
/-! ### sorting -/
def leN (a b : List Nat) : Bool := !decide (b < a)
def sortS (l : List (List Nat)) : List (List Nat) := l.mergeSort leN
def sortI (l : List Int) : List Int := l.mergeSort fun a b => decide (a ≤ b)
theorem leN_iff {a b : List Nat} : leN a b = true ↔ a ≤ b := by simp [leN, List.not_lt]
theorem sortS_perm (l : List (List Nat)) : (sortS l).Perm l := List.mergeSort_perm _ _
theorem sortS_pair (l : List (List Nat)) : (sortS l).Pairwise (fun a b => leN a b = true) := List.pairwise_mergeSort (fun a b c h1 h2 => by
    rw [leN_iff] at *
    exact List.le_trans h1 h2) (fun a b => by
    rw [Bool.or_eq_true, leN_iff, leN_iff]
    exact List.le_total a b) l
theorem sortI_perm (l : List Int) : (sortI l).Perm l := List.mergeSort_perm _ _
theorem sortI_pair (l : List Int) : (sortI l).Pairwise (· ≤ ·) := by
  have := List.pairwise_mergeSort (le := fun a b : Int => decide (a ≤ b)) (fun a b c h1 h2 => by
    simp only [decide_eq_true_eq] at *
    omega) (fun a b => by
    simp only [Bool.or_eq_true, decide_eq_true_eq]
    omega) l
  exact this.imp fun h => of_decide_eq_true h
theorem sortI_uniq {l m : List Int} (h : m.Perm l) (p : m.Pairwise (· ≤ ·)) : m = sortI l :=
  List.Perm.eq_of_pairwise (le := (· ≤ ·)) (fun a b _ _ h1 h2 => Int.le_antisymm h1 h2) p (sortI_pair l) (h.trans (sortI_perm l).symm)
theorem risingS_pair : ∀ {r : List Str} {p : Str}, risingS p r = true → ((p :: r).map (fun z => z.cps.toList)).Pairwise (fun a b => leN a b = true)
  | [], p, _ => by simp
  | x :: r, p, h => by
    simp only [risingS, Bool.and_eq_true] at h
    have ih := risingS_pair (r := r) (p := x) h.2
    have h1 : leN p.cps.toList x.cps.toList = true := by
      have := h.1
      rw [ltCps_eq] at this
      exact this
    rw [List.map_cons]
    refine List.pairwise_cons.mpr ⟨fun b hb => ?_, ih⟩
    rw [List.map_cons] at hb ih
    rcases List.mem_cons.mp hb with rfl | hb
    · exact h1
    · have := (List.pairwise_cons.mp ih).1 b hb
      rw [leN_iff] at *
      exact List.le_trans h1 this
theorem sortS_uniq {l : List (List Nat)} {ys : List Str} (h : ys.Perm (l.map S)) (p : sortedS ys = true) : ys = (sortS l).map S := by
  have hp : (ys.map (fun z => z.cps.toList)).Pairwise (fun a b => leN a b = true) := by
    cases ys with
    | nil => simp
    | cons x r => exact risingS_pair p
  have hm : (ys.map (fun z => z.cps.toList)).Perm l := by
    have := h.map (fun z : Str => z.cps.toList)
    rw [List.map_map] at this
    have e : ((fun z : Str => z.cps.toList) ∘ S) = id := by
      funext x
      exact S_list x
    rw [e, List.map_id] at this
    exact this
  have e := List.Perm.eq_of_pairwise (le := fun a b => leN a b = true) (fun a b _ _ h1 h2 => by
    rw [leN_iff] at h1 h2
    exact List.le_antisymm h1 h2) hp (sortS_pair l) (hm.trans (sortS_perm l).symm)
  rw [← e, List.map_map]
  have e2 : (S ∘ fun z : Str => z.cps.toList) = id := by
    funext x
    exact S_cps x
  rw [e2, List.map_id]
theorem rp_strs {K : PySem.W.Frag} {F : Hp} {os : List Addr} : ∀ (l : List (List Nat)), RpL K F os ((l.map S).map V.str) (l.map D.str)
  | [] => .nil
  | x :: r => .cons (.str x) (rp_strs r)
theorem rp_ints {K : PySem.W.Frag} {F : Hp} {os : List Addr} : ∀ (l : List Int), RpL K F os (l.map V.int) (l.map D.int)
  | [] => .nil
  | x :: r => .cons (.int x) (rp_ints r)
theorem rp_bls {K : PySem.W.Frag} {F : Hp} {os : List Addr} : ∀ (l : List Bool), RpL K F os (l.map V.bl) (l.map D.bl)
  | [] => .nil
  | x :: r => .cons (.bl x) (rp_bls r)
theorem rp_strs_inv {K : PySem.W.Frag} {F : Hp} {os : List Addr} : ∀ {l : List (List Nat)} {vs : List V}, RpL K F os vs (l.map D.str) → vs = (l.map S).map V.str
  | [], _, h => by cases h; rfl
  | x :: r, _, h => by
    cases h with
    | cons a t =>
      cases a
      rw [rp_strs_inv t]
      rfl
theorem rp_ints_inv {K : PySem.W.Frag} {F : Hp} {os : List Addr} : ∀ {l : List Int} {vs : List V}, RpL K F os vs (l.map D.int) → vs = l.map V.int
  | [], _, h => by cases h; rfl
  | x :: r, _, h => by
    cases h with
    | cons a t =>
      cases a
      rw [rp_ints_inv t]
      rfl
theorem rp_bls_inv {K : PySem.W.Frag} {F : Hp} {os : List Addr} : ∀ {l : List Bool} {vs : List V}, RpL K F os vs (l.map D.bl) → vs = l.map V.bl
  | [], _, h => by cases h; rfl
  | x :: r, _, h => by
    cases h with
    | cons a t =>
      cases a
      rw [rp_bls_inv t]
      rfl
section
variable {s : Sta} {P : D → Sta → Prop} {PB : Bool → Sta → Prop} {a b e : Expr} {es : List Expr} {pos p : Pos} {x : Str}
/-- a list all whose values are known -/
theorem Rep.strsL {σ : L2.St} {τ : List D} {τv : List V} {H : Hp} {d : D} {v : V} {l : List (List Nat)} (R : Rep c s σ (d :: τ) (v :: τv) H) (h : RdL s d (l.map D.str)) : ∃ a, v = .ref a ∧ SqL c.K H a ((l.map S).map V.str) := by
  obtain ⟨a, vs, rfl, q, ln, F, os, _, _, _, r⟩ := R.rdl h
  have e1 := rp_strs_inv (RpL.split ln r).1
  subst e1
  exact ⟨a, rfl, q⟩
theorem Rep.intsL {σ : L2.St} {τ : List D} {τv : List V} {H : Hp} {d : D} {v : V} {l : List Int} (R : Rep c s σ (d :: τ) (v :: τv) H) (h : RdL s d (l.map D.int)) : ∃ a, v = .ref a ∧ SqL c.K H a (l.map V.int) := by
  obtain ⟨a, vs, rfl, q, ln, F, os, _, _, _, r⟩ := R.rdl h
  have e1 := rp_ints_inv (RpL.split ln r).1
  subst e1
  exact ⟨a, rfl, q⟩
theorem Rep.blsL {σ : L2.St} {τ : List D} {τv : List V} {H : Hp} {d : D} {v : V} {l : List Bool} (R : Rep c s σ (d :: τ) (v :: τv) H) (h : RdL s d (l.map D.bl)) : ∃ a, v = .ref a ∧ SqL c.K H a (l.map V.bl) := by
  obtain ⟨a, vs, rfl, q, ln, F, os, _, _, _, r⟩ := R.rdl h
  have e1 := rp_bls_inv (RpL.split ln r).1
  subst e1
  exact ⟨a, rfl, q⟩
/-- a new list as the answer, changeable or not -/
def NewL (own : Bool) (s : Sta) (ds : List D) (P : D → Sta → Prop) : Prop := if own = true then P (.ob s.o.length) ⟨s.r, s.o ++ [.lst ds]⟩ else P (.lst ds) s
theorem Rep.newL {σ : L2.St} {τ τ' : List D} {τv τv' : List V} {H : Hp} {own : Bool} {ds : List D} {vs : List V} {p : Addr} {Q : VK} (R : Rep c s σ τ' τv' H) (hp : H p = none) (hv : ∀ F os, RpL c.K F os τv' τ' → RpL c.K F os vs ds) (ht : ∀ F os, RpL c.K F os τv' τ' → RpL c.K F os τv τ)
    (h : NewL own s ds P) (hq : FinE c P σ τ τv Q) : Q (.ref p) (upd H p (.lst vs)) := by
  unfold NewL at h
  cases own with
  | true =>
    have R3 := R.own (ds := ds) (vs := vs) hp hv
    refine hq _ _ _ _ h (R3.temps fun F os r => ?_)
    cases r with
    | cons r0 r => exact .cons r0 (ht F os r)
  | false =>
    have R3 := R.lay (d := .lst ds) (o := .lst vs) hp fun F os r e => .lst (.inl (.inl e)) (hv F os r)
    refine hq _ _ _ _ h (R3.temps fun F os r => ?_)
    cases r with
    | cons r0 r => exact .cons r0 (ht F os r)
theorem RpL.tail {K : PySem.W.Frag} {F : Hp} {os : List Addr} {d : D} {v : V} {ds : List D} {vs : List V} (h : RpL K F os (v :: vs) (d :: ds)) : RpL K F os vs ds := by
  cases h with
  | cons _ r => exact r
theorem ae_sortedS (own : Bool) (hm : c.mg "sorted" = none) (h : AE c e s fun d s1 => ∃ l : List (List Nat), RdL s1 d (l.map D.str) ∧ l.length < 64 ∧ NewL own s1 ((sortS l).map D.str) P) (hg : IsG c "sorted" := by rfl)
    (he : ∀ env, starEach [e] env = (false, eval e env) :: starEach [] env := by intro _; rfl) : AE c (.Call (.Name "sorted" p) [e] [] pos) s P := by
  refine ae_callB (rV := fun X => rSortedS c.K) (r := fun ds s P => ∃ d, ds = [d] ∧ ∃ l : List (List Nat), RdL s d (l.map D.str) ∧ l.length < 64 ∧ NewL own s ((sortS l).map D.str) P) (fun X hX => by rw [← hX.K]; exact cr_sortedS) (fun X _ => ?_) hm (by decide +kernel) (aa_one (h.mono fun d s1 h => ⟨d, rfl, h⟩) he) hg (by decide) (by decide) he (fun _ => rfl)
  intro σ τ τv H s vs ds P Q l R h hq
  obtain ⟨d, rfl, m, hd, hz, h⟩ := h
  obtain ⟨v, rfl⟩ := one_v l
  have R1 : Rep c s σ (d :: τ) (v :: τv) H := R
  obtain ⟨a, rfl, q⟩ := R1.strsL hd
  refine ⟨a, m.map S, rfl, q, by simpa using hz, fun ys p hy hs hp => ?_⟩
  rw [sortS_uniq hy hs]
  exact R1.newL hp (fun F os _ => rp_strs _) (fun F os r => r.tail) h hq
theorem ae_sortedI (own : Bool) (hm : c.mg "sorted" = none) (h : AE c e s fun d s1 => ∃ l : List Int, RdL s1 d (l.map D.int) ∧ NewL own s1 ((sortI l).map D.int) P) (hg : IsG c "sorted" := by rfl)
    (he : ∀ env, starEach [e] env = (false, eval e env) :: starEach [] env := by intro _; rfl) : AE c (.Call (.Name "sorted" p) [e] [] pos) s P := by
  refine ae_callB (rV := fun X => rSortedI c.K) (r := fun ds s P => ∃ d, ds = [d] ∧ ∃ l : List Int, RdL s d (l.map D.int) ∧ NewL own s ((sortI l).map D.int) P) (fun X hX => by rw [← hX.K]; exact cr_sortedI) (fun X _ => ?_) hm (by decide +kernel) (aa_one (h.mono fun d s1 h => ⟨d, rfl, h⟩) he) hg (by decide) (by decide) he (fun _ => rfl)
  intro σ τ τv H s vs ds P Q l R h hq
  obtain ⟨d, rfl, m, hd, h⟩ := h
  obtain ⟨v, rfl⟩ := one_v l
  have R1 : Rep c s σ (d :: τ) (v :: τv) H := R
  obtain ⟨a, rfl, q⟩ := R1.intsL hd
  refine ⟨a, m, rfl, q, fun ys p hy hs hp => ?_⟩
  rw [sortI_uniq hy hs]
  exact R1.newL hp (fun F os _ => rp_ints _) (fun F os r => r.tail) h hq
theorem ae_all (hm : c.mg "all" = none) (h : AE c e s fun d s1 => ∃ l : List Bool, RdL s1 d (l.map D.bl) ∧ P (.bl (l.all id)) s1) (hg : IsG c "all" := by rfl)
    (he : ∀ env, starEach [e] env = (false, eval e env) :: starEach [] env := by intro _; rfl) : AE c (.Call (.Name "all" p) [e] [] pos) s P := by
  refine ae_callB (rV := fun X => rAll c.K) (r := fun ds s P => ∃ d, ds = [d] ∧ ∃ l : List Bool, RdL s d (l.map D.bl) ∧ P (.bl (l.all id)) s) (fun X hX => by rw [← hX.K]; exact cr_all hX.calm) (fun X _ => ?_) hm (by decide +kernel) (aa_one (h.mono fun d s1 h => ⟨d, rfl, h⟩) he) hg (by decide) (by decide) he (fun _ => rfl)
  intro σ τ τv H s vs ds P Q l R h hq
  obtain ⟨d, rfl, m, hd, h⟩ := h
  obtain ⟨v, rfl⟩ := one_v l
  have R1 : Rep c s σ (d :: τ) (v :: τv) H := R
  obtain ⟨a, rfl, q⟩ := R1.blsL hd
  exact ⟨a, m, rfl, q, hq _ _ _ _ h (R1.pop.push fun _ _ => .bl _)⟩
theorem ae_any (hm : c.mg "any" = none) (h : AE c e s fun d s1 => ∃ l : List Bool, RdL s1 d (l.map D.bl) ∧ P (.bl (l.any id)) s1) (hg : IsG c "any" := by rfl)
    (he : ∀ env, starEach [e] env = (false, eval e env) :: starEach [] env := by intro _; rfl) : AE c (.Call (.Name "any" p) [e] [] pos) s P := by
  refine ae_callB (rV := fun X => rAny c.K) (r := fun ds s P => ∃ d, ds = [d] ∧ ∃ l : List Bool, RdL s d (l.map D.bl) ∧ P (.bl (l.any id)) s) (fun X hX => by rw [← hX.K]; exact cr_any hX.calm) (fun X _ => ?_) hm (by decide +kernel) (aa_one (h.mono fun d s1 h => ⟨d, rfl, h⟩) he) hg (by decide) (by decide) he (fun _ => rfl)
  intro σ τ τv H s vs ds P Q l R h hq
  obtain ⟨d, rfl, m, hd, h⟩ := h
  obtain ⟨v, rfl⟩ := one_v l
  have R1 : Rep c s σ (d :: τ) (v :: τv) H := R
  obtain ⟨a, rfl, q⟩ := R1.blsL hd
  exact ⟨a, m, rfl, q, hq _ _ _ _ h (R1.pop.push fun _ _ => .bl _)⟩
/-! ### isinstance -/
def tyD : D → String
  | .non => "NoneType" | .bl _ => "bool" | .int _ => "int" | .str _ => "str" | .tup _ => "tuple" | .lst _ => "list" | .ob _ => "list" | .ty _ => "type"
def plainTy (s : Sta) : D → Prop
  | .ty _ => False
  | .ob j => ∃ ds, s.o[j]? = some (.lst ds)
  | _ => True
theorem Rep.tyx {σ : L2.St} {τ : List D} {τv : List V} {H : Hp} {d : D} {v : V} (R : Rep c s σ (d :: τ) (v :: τv) H) (h : plainTy s d) : TyX c.K H v (.type (tyD d)) := by
  obtain ⟨F, os, a, b, e, r⟩ := R
  cases r with
  | cons q r =>
    cases q with
    | non => exact .base .non
    | bl b => exact .base (.bl b)
    | int i => exact .base (.int i)
    | str l => exact .base (.str _)
    | tup q _ =>
      rcases sq_t a.ex q with (q | ⟨o, q⟩) | ⟨o, its, n, h1, h2, _⟩
      · exact .base (.tup q)
      · exact .fTuple q
      · exact .kTuple h1 h2
    | lst q _ =>
      rcases a.ex.seq q with (q | ⟨o, q⟩) | ⟨o, its, n, h1, h2, _⟩
      · exact .base (.lst q)
      · exact .base (.frz q)
      · exact .kList h1 h2
    | ob q =>
      obtain ⟨ds, h⟩ := h
      obtain ⟨vs, q1, _⟩ := a.obj _ _ _ q h
      exact .base (.lst q1)
    | ty n => exact h.elim
theorem ae_isi {t : Expr} (hm : c.mg "isinstance" = none) (h : AE c e s fun d s1 => AE c t s1 fun d2 s2 => plainTy s2 d ∧ ∃ T k, d2 = .ty T ∧ PySem.W.kitOne c.K (.type (tyD d)) (.type T) = some k ∧ P (.bl k) s2) (hg : IsG c "isinstance" := by rfl)
    (he : ∀ env, starEach [e, t] env = (false, eval e env) :: starEach [t] env := by intro _; rfl) (he2 : ∀ env, starEach [t] env = (false, eval t env) :: starEach [] env := by intro _; rfl) (hpl : ∀ env, (backTo pos (starEach [t] env)).any (·.1) = false := by intro _; rfl) : AE c (.Call (.Name "isinstance" p) [e, t] [] pos) s P := by
  refine ae_callB (rV := fun X => rIsi c.K) (r := fun ds s P => ∃ d d2, ds = [d, d2] ∧ plainTy s d ∧ ∃ T k, d2 = .ty T ∧ PySem.W.kitOne c.K (.type (tyD d)) (.type T) = some k ∧ P (.bl k) s) (fun X hX => by rw [← hX.K]; exact call_isi) (fun X _ => ?_) hm (by decide +kernel) (aa_two (h.mono fun d s1 h => h.mono fun d2 s2 h => ⟨d, d2, rfl, h⟩) he he2) hg (by decide) (by decide) he hpl
  intro σ τ τv H s vs ds P Q l R h hq
  obtain ⟨d, d2, rfl, ht, T, k, rfl, hk, h⟩ := h
  obtain ⟨v, w, rfl⟩ := two_v l
  have R1 : Rep c s σ (d :: .ty T :: τ) (v :: w :: τv) H := R
  obtain ⟨F, os, r⟩ := R1.pop.top
  cases r
  exact ⟨v, .ty T, _, _, k, rfl, .ty T, R1.tyx ht, hk, hq _ _ _ _ h (R1.pop.pop.push fun _ _ => .bl _)⟩
theorem ae_bltn {T : String} (hm : c.mg x = none) (hv : bootBuiltins x = some (.type T)) (h : P (.ty T) s) (hg : IsG c x := by rfl) (hn : x ≠ "__name__" := by decide) (hd : (x == ("__debug__" : Str)) = false := by decide) : AE c (.Name x pos) s P :=
  .mk fun X hX σ τ τv H R Q hq => WE.of (pe_bltn (v := .ty T) (gl_of hX hg) (by rw [hX.mg]; exact hm) hv rfl hn hd) (hq _ _ _ _ h (R.push fun _ _ => .ty T))
/-- isinstance(e, (T1, T2)) -/
theorem ae_isi2 {t : List Expr} {kk : Nat} {tp : Pos} (hm : c.mg "isinstance" = none) (h : AE c e s fun d s1 => AA c t s1 fun ts s2 => plainTy s2 d ∧ ∃ (Ts : List String) (k : Bool), ts = Ts.map D.ty ∧ Ts.length ≤ sizeLine ∧ PySem.W.kitAny c.K (.type (tyD d)) (Ts.map Value.type) = some k ∧ P (.bl k) s2) (hg : IsG c "isinstance" := by rfl)
    (he : ∀ env, starEach [e, .Tuple t kk tp] env = (false, eval e env) :: starEach [.Tuple t kk tp] env := by intro _; rfl) (he2 : ∀ env, starEach [.Tuple t kk tp] env = (false, eval (.Tuple t kk tp) env) :: starEach [] env := by intro _; rfl) (hpl : ∀ env, (backTo pos (starEach [.Tuple t kk tp] env)).any (·.1) = false := by intro _; rfl) : AE c (.Call (.Name "isinstance" p) [e, .Tuple t kk tp] [] pos) s P := by
  refine ⟨?_⟩
  intro X hX σ τ τv H R Q hq
  refine WE.of (pe_callB call_isiT (gl_of hX hg) (by rw [hX.mg]; exact hm) (by decide +kernel) (pa_cons pe_w (pa_cons (pe_tup pa_w) pa_nil (he2 _)) (he _)) (by decide) (by decide) (he _) (hpl _)) ?_
  refine h X hX σ τ τv H R _ fun d s1 v1 H1 h1 R1 => h1 X hX σ _ _ H1 R1 _ fun ts s2 vs H2 h2 l R2 => ?_
  obtain ⟨ht, Ts, k, rfl, hz, hk, h2⟩ := h2
  have ev : vs = Ts.map V.ty := by
    obtain ⟨F, os, _, _, _, r⟩ := R2
    have r1 := (RpL.split l r).1
    clear hk hz R R1 l h1 r
    induction Ts generalizing vs with
    | nil => cases r1; rfl
    | cons T Ts ih =>
      cases r1 with
      | cons q r =>
        cases q
        rw [ih _ r]
        rfl
  subst ev
  refine ⟨by simpa using hz, fun q hqn => ?_⟩
  have R3 : Rep c s2 σ (d :: τ) (v1 :: τv) H2 := R2.temps fun F os r => (RpL.split l r).2
  have R4 := R3.lay (d := .tup (Ts.map D.ty)) (o := .tup (Ts.map V.ty)) hqn fun F os r e => .tup (.inl (.inl e)) (by
    clear hk hz R R1 R2 R3 l h1 r e
    induction Ts with
    | nil => exact .nil
    | cons T Ts ih => exact .cons (.ty T) ih)
  have R5 : Rep c s2 σ (d :: .tup (Ts.map D.ty) :: τ) (v1 :: .ref q :: τv) (upd H2 q (.tup (Ts.map V.ty))) := R4.temps fun F os r => by
    cases r with
    | cons a r =>
      cases r with
      | cons b r => exact .cons b (.cons a r)
  rw [hX.K]
  refine ⟨v1, q, Ts.map V.ty, _, Ts.map Value.type, k, rfl, upd_same, ?_, R5.tyx ht, hk, hq _ _ _ _ h2 (R5.pop.pop.push fun _ _ => .bl _)⟩
  clear hk hz R R1 R2 R3 R4 R5 l h1
  induction Ts with
  | nil => exact .nil
  | cons T Ts ih => exact .cons (.ty T) ih
end
end G9

namespace G9
open PySem PySem.Spec PyProof.Rows L2
variable {c : SC}
section
variable {s : Sta} {P : D → Sta → Prop} {PB : Bool → Sta → Prop} {a b e o : Expr} {es : List Expr} {pos p apos cpos : Pos} {x name : Str}
/-! ### methods of built-in types -/
def tyM (s : Sta) (d : D) (T : String) : Prop := (T = "str" ∧ ∃ l, d = .str l) ∨ (T = "list" ∧ ∃ ds, RdL s d ds)
theorem Rep.tyM {σ : L2.St} {τ : List D} {τv : List V} {H : Hp} {d : D} {v : V} {T : String} (R : Rep c s σ (d :: τ) (v :: τv) H) (h : tyM s d T) : tyV c.K T v H := by
  rcases h with ⟨rfl, l, rfl⟩ | ⟨rfl, ds, h⟩
  · have e1 := R.str
    subst e1
    rfl
  · obtain ⟨a, vs, rfl, q, _, _⟩ := R.rdl h
    exact .inl ⟨rfl, vs, q⟩
def RMt (c : SC) (rV : V → List V → Hp → VK → Prop) (r : D → List D → Sta → (D → Sta → Prop) → Prop) : Prop :=
  ∀ σ τ τv H s v vs d ds P Q, vs.length = ds.length → Rep c s σ (ds ++ d :: τ) (vs ++ v :: τv) H → r d ds s P → FinE c P σ τ τv Q → rV v vs H Q
theorem ae_bm {T id : String} {rV : Cx → V → List V → Hp → VK → Prop} {r : D → List D → Sta → (D → Sta → Prop) → Prop} (pa : PlainAttrs T) (slot : Slot T name id) (hty : typeOf (.builtin id) = pure (.type "method_descriptor")) (hm : ∀ X, XC c X → MtR X id (rV X)) (hr : ∀ X, XC c X → RMt c (rV X) r)
    (h : AE c o s fun d s1 => tyM s1 d T ∧ AA c (e :: es) s1 fun ds s2 => r d ds s2 P)
    (hbase : ∀ env, attributeBase o name env (eval o env) = eval o env := by intro _; rfl)
    (hfew : ∀ env, ((backTo cpos (starEach (e :: es) env)).all (fun x => !x.1) && (backToKw cpos (keywordEach [] env)).all (fun x => x.1.isSome)
      && decide ((e :: es).length + ([] : List Keyword).length + (if ([] : List Keyword).isEmpty then 0 else 1) < 30)) = true := by intro _; rfl)
    (hline : (apos.endLine == cpos.line) = true := by rfl) (hs : ∀ env, starEach (e :: es) env = (false, eval e env) :: starEach es env := by intro _; rfl) (hplain : ∀ env, (backTo cpos (starEach es env)).any (·.1) = false := by intro _; rfl) : AE c (.Call (.Attribute o name apos) (e :: es) [] cpos) s P := by
  refine ⟨?_⟩
  intro X hX σ τ τv H R Q hq
  refine WE.of (pe_bm pa slot hty (hm X hX) pe_w pa_w (hbase _) (hfew _) hline (hs _) (hplain _)) (h X hX σ τ τv H R _ fun d s1 v H1 h1 R1 => ⟨by rw [hX.K]; exact R1.tyM h1.1, h1.2 X hX σ _ _ H1 R1 _ fun ds s2 vs H2 h2 l R2 => ?_⟩)
  exact hr X hX _ _ _ _ _ _ _ _ _ _ _ l R2 h2 hq
theorem ae_bm0 {T id : String} {rV : Cx → V → List V → Hp → VK → Prop} {r : D → List D → Sta → (D → Sta → Prop) → Prop} (pa : PlainAttrs T) (slot : Slot T name id) (hty : typeOf (.builtin id) = pure (.type "method_descriptor")) (hm : ∀ X, XC c X → MtR X id (rV X)) (hr : ∀ X, XC c X → RMt c (rV X) r)
    (h : AE c o s fun d s1 => tyM s1 d T ∧ r d [] s1 P) (hbase : ∀ env, attributeBase o name env (eval o env) = eval o env := by intro _; rfl) (hline : (apos.endLine == cpos.line) = true := by rfl) : AE c (.Call (.Attribute o name apos) [] [] cpos) s P := by
  refine ⟨?_⟩
  intro X hX σ τ τv H R Q hq
  refine WE.of (pe_bm0 pa slot hty (hm X hX) pe_w (hbase _) hline) (h X hX σ τ τv H R _ fun d s1 v H1 h1 R1 => ⟨by rw [hX.K]; exact R1.tyM h1.1, ?_⟩)
  exact hr X hX _ _ _ _ _ _ [] _ [] _ _ rfl R1 h1.2 hq
theorem tyM_o {s : Sta} {j : Nat} {ds : List D} (h : s.o[j]? = some (.lst ds)) : tyM s (.ob j) "list" := .inr ⟨rfl, ds, .inr ⟨j, rfl, h⟩⟩
/-- xs.append(y) -/
theorem ae_append (h : AE c o s fun d s1 => (∃ j ds, d = .ob j ∧ s1.o[j]? = some (.lst ds)) ∧ AE c e s1 fun y s2 => ∃ j ds, d = .ob j ∧ s2.o[j]? = some (.lst ds) ∧ ds.length < sizeLine ∧ P .non ⟨s2.r, s2.o.set j (.lst (ds ++ [y]))⟩)
    (hbase : ∀ env, attributeBase o "append" env (eval o env) = eval o env := by intro _; rfl) (hline : (apos.endLine == cpos.line) = true := by rfl) (hs : ∀ env, starEach [e] env = (false, eval e env) :: starEach [] env := by intro _; rfl)
    (hfew : ∀ env, ((backTo cpos (starEach [e] env)).all (fun x => !x.1) && (backToKw cpos (keywordEach [] env)).all (fun x => x.1.isSome)
      && decide ([e].length + ([] : List Keyword).length + (if ([] : List Keyword).isEmpty then 0 else 1) < 30)) = true := by intro _; rfl) : AE c (.Call (.Attribute o "append" apos) [e] [] cpos) s P := by
  refine ae_bm PySem.F.plainAttrs_list PySem.F.slot_list_append PySem.F.type_list_append (r := fun d ds s P => ∃ y, ds = [y] ∧ ∃ j ds, d = .ob j ∧ s.o[j]? = some (.lst ds) ∧ ds.length < sizeLine ∧ P .non ⟨s.r, s.o.set j (.lst (ds ++ [y]))⟩) (fun X hX => mt_append) (fun X _ => ?_)
    (h.mono fun d s1 ⟨⟨j, ds, h1, h2⟩, h3⟩ => ⟨by subst h1; exact tyM_o h2, aa_one (h3.mono fun y s2 h => ⟨y, rfl, h⟩) hs⟩) hbase hfew hline hs (fun _ => rfl)
  intro σ τ τv H s v vs d ds P Q l R h hq
  obtain ⟨y, rfl, j, es, rfl, ho, hz, h⟩ := h
  obtain ⟨w, rfl⟩ := one_v l
  have R1 : Rep c s σ (.ob j :: y :: τ) (v :: w :: τv) H := R.temps fun F os r => by
    cases r with
    | cons a r =>
      cases r with
      | cons b r => exact .cons b (.cons a r)
  obtain ⟨p, ws, rfl, hp, F, os, _, _, r⟩ := R1.obj ho
  have hl : ws.length = es.length := by
    have := r.length
    have l2 := R1.pop.len
    simp only [List.length_append, List.length_cons] at this l2 ⊢
    omega
  refine ⟨p, ws, w, rfl, rfl, hp, by omega, hq _ _ _ _ h ?_⟩
  have R2 := R1.mut (ds' := es ++ [y]) (vs := ws ++ [w]) ho fun F os ws' r1 e1 r2 => by
    rw [hp] at e1
    cases e1
    cases r2 with
    | cons a _ => exact r1.append (.cons a .nil)
  exact R2.pop.pop.push fun _ _ => .non
/-- xs.pop() -/
theorem ae_pop (h : AE c o s fun d s1 => ∃ j ds y, d = .ob j ∧ s1.o[j]? = some (.lst (ds ++ [y])) ∧ P y ⟨s1.r, s1.o.set j (.lst ds)⟩)
    (hbase : ∀ env, attributeBase o "pop" env (eval o env) = eval o env := by intro _; rfl) (hline : (apos.endLine == cpos.line) = true := by rfl) : AE c (.Call (.Attribute o "pop" apos) [] [] cpos) s P := by
  refine ae_bm0 PySem.F.plainAttrs_list PySem.F.slot_list_pop PySem.F.type_list_pop (r := fun d ds' s P => ds' = [] ∧ ∃ j ds y, d = .ob j ∧ s.o[j]? = some (.lst (ds ++ [y])) ∧ P y ⟨s.r, s.o.set j (.lst ds)⟩) (fun X hX => mt_pop) (fun X _ => ?_)
    (h.mono fun d s1 ⟨j, ds, y, h1, h2, h3⟩ => ⟨by subst h1; exact tyM_o h2, rfl, j, ds, y, h1, h2, h3⟩) hbase hline
  intro σ τ τv H s v vs d ds P Q l R h hq
  obtain ⟨rfl, j, es, y, rfl, ho, h⟩ := h
  obtain rfl : vs = [] := List.length_eq_zero_iff.mp l
  have R1 : Rep c s σ (.ob j :: τ) (v :: τv) H := R
  obtain ⟨p, ws, rfl, hp, F, os, _, _, r⟩ := R1.obj ho
  have hl : ws.length = es.length + 1 := by
    have := r.length
    have l2 := R1.pop.len
    simp only [List.length_append, List.length_cons, List.length_nil] at this l2 ⊢
    omega
  obtain ⟨w, hw⟩ : ∃ w, ws[es.length]? = some w := ⟨_, List.getElem?_eq_getElem (by omega)⟩
  refine ⟨p, ws, w, rfl, rfl, hp, by rw [hl]; exact hw, hq _ _ _ _ h ?_⟩
  have key : ∀ F os ws', RpL c.K F os ws' (es ++ [y]) → ws' = ws → RpL c.K F os ws.dropLast es ∧ Rp c.K F os w y := fun F os ws' r1 e1 => by
    subst e1
    have a := r1.take es.length
    rw [List.take_left' rfl] at a
    have ed : ws'.dropLast = ws'.take es.length := by rw [List.dropLast_eq_take, hl]; rfl
    refine ⟨ed ▸ a, ?_⟩
    obtain ⟨d', h1, h2⟩ := r1.getv hw
    rw [List.getElem?_append_right (Nat.le_refl _), Nat.sub_self] at h1
    cases h1
    exact h2
  have R0 : Rep c s σ (.ob j :: y :: τ) (.ref p :: w :: τv) H := by
    obtain ⟨F, os, a, b, e, r⟩ := R1
    refine ⟨F, os, a, b, e, ?_⟩
    cases r with
    | cons q r =>
      refine .cons q (.cons ?_ r)
      cases id q with
      | ob q0 =>
        obtain ⟨us, u1, u2⟩ := a.obj j _ _ q0 ho
        rw [hp] at u1
        cases u1
        exact (key F os ws u2 rfl).2
  have R2 := R0.mut (ds' := es) (vs := ws.dropLast) ho fun F os ws' r1 e1 r2 => by
    rw [hp] at e1
    cases e1
    exact (key F os ws r1 rfl).1
  exact R2.pop
/-- xs.reverse() -/
theorem ae_reverse (h : AE c o s fun d s1 => ∃ j ds, d = .ob j ∧ s1.o[j]? = some (.lst ds) ∧ P .non ⟨s1.r, s1.o.set j (.lst ds.reverse)⟩)
    (hbase : ∀ env, attributeBase o "reverse" env (eval o env) = eval o env := by intro _; rfl) (hline : (apos.endLine == cpos.line) = true := by rfl) : AE c (.Call (.Attribute o "reverse" apos) [] [] cpos) s P := by
  refine ae_bm0 PySem.F.plainAttrs_list PySem.F.slot_list_reverse PySem.F.type_list_reverse (r := fun d ds' s P => ds' = [] ∧ ∃ j ds, d = .ob j ∧ s.o[j]? = some (.lst ds) ∧ P .non ⟨s.r, s.o.set j (.lst ds.reverse)⟩) (fun X hX => mt_reverse) (fun X _ => ?_)
    (h.mono fun d s1 ⟨j, ds, h1, h2, h3⟩ => ⟨by subst h1; exact tyM_o h2, rfl, j, ds, h1, h2, h3⟩) hbase hline
  intro σ τ τv H s v vs d ds P Q l R h hq
  obtain ⟨rfl, j, es, rfl, ho, h⟩ := h
  obtain rfl : vs = [] := List.length_eq_zero_iff.mp l
  have R1 : Rep c s σ (.ob j :: τ) (v :: τv) H := R
  obtain ⟨p, ws, rfl, hp, _⟩ := R1.obj ho
  refine ⟨p, ws, rfl, rfl, hp, hq _ _ _ _ h ?_⟩
  have R2 := R1.mut (ds' := es.reverse) (vs := ws.reverse) ho fun F os ws' r1 e1 r2 => by
    rw [hp] at e1
    cases e1
    exact r1.reverse
  exact R2.pop.push fun _ _ => .non
/-- xs.insert(i, y) -/
theorem ae_insert {e2 : Expr} (h : AE c o s fun d s1 => (∃ j ds, d = .ob j ∧ s1.o[j]? = some (.lst ds)) ∧ AE c e s1 fun i s2 => AE c e2 s2 fun y s3 => ∃ j ds n, d = .ob j ∧ i = .int n ∧ s3.o[j]? = some (.lst ds) ∧ ds.length < sizeLine ∧ 0 ≤ n ∧ n < 2 ^ 63 ∧ P .non ⟨s3.r, s3.o.set j (.lst (ds.take n.toNat ++ [y] ++ ds.drop n.toNat))⟩)
    (hbase : ∀ env, attributeBase o "insert" env (eval o env) = eval o env := by intro _; rfl) (hline : (apos.endLine == cpos.line) = true := by rfl) (hs : ∀ env, starEach [e, e2] env = (false, eval e env) :: starEach [e2] env := by intro _; rfl) (hs2 : ∀ env, starEach [e2] env = (false, eval e2 env) :: starEach [] env := by intro _; rfl)
    (hfew : ∀ env, ((backTo cpos (starEach [e, e2] env)).all (fun x => !x.1) && (backToKw cpos (keywordEach [] env)).all (fun x => x.1.isSome)
      && decide ([e, e2].length + ([] : List Keyword).length + (if ([] : List Keyword).isEmpty then 0 else 1) < 30)) = true := by intro _; rfl) (hpl : ∀ env, (backTo cpos (starEach [e2] env)).any (·.1) = false := by intro _; rfl) : AE c (.Call (.Attribute o "insert" apos) [e, e2] [] cpos) s P := by
  refine ae_bm PySem.F.plainAttrs_list PySem.F.slot_list_insert PySem.F.type_list_insert (r := fun d ds s P => ∃ i y, ds = [i, y] ∧ ∃ j ds n, d = .ob j ∧ i = .int n ∧ s.o[j]? = some (.lst ds) ∧ ds.length < sizeLine ∧ 0 ≤ n ∧ n < 2 ^ 63 ∧ P .non ⟨s.r, s.o.set j (.lst (ds.take n.toNat ++ [y] ++ ds.drop n.toNat))⟩) (fun X hX => mt_insert) (fun X _ => ?_)
    (h.mono fun d s1 ⟨⟨j, ds, h1, h2⟩, h3⟩ => ⟨by subst h1; exact tyM_o h2, aa_two (h3.mono fun i s2 h => h.mono fun y s3 h => ⟨i, y, rfl, h⟩) hs hs2⟩) hbase hfew hline hs hpl
  intro σ τ τv H s v vs d ds P Q l R h hq
  obtain ⟨i, y, rfl, j, es, n, rfl, rfl, ho, hz, h0, h63, h⟩ := h
  obtain ⟨w1, w, rfl⟩ := two_v l
  have R0 : Rep c s σ (.int n :: y :: .ob j :: τ) (w1 :: w :: v :: τv) H := R
  have e1 := R0.int
  subst e1
  have R1 : Rep c s σ (.ob j :: y :: τ) (v :: w :: τv) H := R0.pop.temps fun F os r => by
    cases r with
    | cons a r =>
      cases r with
      | cons b r => exact .cons b (.cons a r)
  obtain ⟨p, ws, rfl, hp, F, os, _, _, r⟩ := R1.obj ho
  have hl : ws.length = es.length := by
    have := r.length
    have l2 := R1.pop.len
    simp only [List.length_append, List.length_cons] at this l2 ⊢
    omega
  refine ⟨p, ws, n, w, rfl, rfl, hp, by omega, h0, h63, hq _ _ _ _ h ?_⟩
  have R2 := R1.mut (ds' := es.take n.toNat ++ [y] ++ es.drop n.toNat) (vs := ws.take n.toNat ++ [w] ++ ws.drop n.toNat) ho fun F os ws' r1 e1 r2 => by
    rw [hp] at e1
    cases e1
    cases r2 with
    | cons a _ => exact ((r1.take _).append (.cons a .nil)).append (r1.drop _)
  exact R2.pop.pop.push fun _ _ => .non
/-- sep.join(texts) -/
def joinN (sep : List Nat) : List (List Nat) → List Nat
  | [] => []
  | [l] => l
  | l :: m :: r => l ++ sep ++ joinN sep (m :: r)
theorem join_S (sep : List Nat) : ∀ ls : List (List Nat), Txt.join (S sep) (ls.map S) = S (joinN sep ls) := fun ls => by
  unfold Txt.join
  have go : ∀ ls : List (List Nat), Str.join (S sep) (ls.map S) = S (joinN sep ls) := by
    intro ls
    induction ls with
    | nil => rfl
    | cons l r ih =>
      cases r with
      | nil => rfl
      | cons m t =>
        show (S l ++ S sep) ++ Str.join (S sep) ((m :: t).map S) = _
        rw [ih, S_app, S_app]
        rfl
  rw [StrLaws.glued_eq_join]
  exact go ls
theorem ae_join (h : AE c o s fun d s1 => isS d fun sep => AE c e s1 fun y s2 => ∃ ls : List (List Nat), SeqD s2 y (ls.map D.str) ∧ (ls.map (·.length)).sum + ls.length * sep.length ≤ 16777216 ∧ P (.str (joinN sep ls)) s2)
    (hbase : ∀ env, attributeBase o "join" env (eval o env) = eval o env := by intro _; rfl) (hline : (apos.endLine == cpos.line) = true := by rfl) (hs : ∀ env, starEach [e] env = (false, eval e env) :: starEach [] env := by intro _; rfl)
    (hs1 : ∀ env, starEach [e] env = [(false, eval e env)] := by intro _; rfl) : AE c (.Call (.Attribute o "join" apos) [e] [] cpos) s P := by
  refine ⟨?_⟩
  intro X hX σ τ τv H R Q hq
  refine WE.of (pe_join pe_w pe_w (hs1 _) (hbase _) hline) (h X hX σ τ τv H R _ fun d s1 v H1 h1 R1 => ?_)
  obtain ⟨sep, rfl, h1⟩ := h1
  have e1 := R1.str
  subst e1
  refine ⟨⟨_, rfl⟩, h1 X hX σ _ _ H1 R1 _ fun y s2 w H2 h2 R2 => ?_⟩
  obtain ⟨ls, hs', hz, h2⟩ := h2
  obtain ⟨a, vs, rfl, q, ln, R3⟩ := R2.seq hs'
  obtain ⟨F, os, _, _, _, r⟩ := R3
  have ev := rp_strs_inv (RpL.split ln r).1
  subst ev
  rw [hX.K]
  refine ⟨S sep, a, ls.map S, rfl, rfl, q, ?_, ?_⟩
  · rw [List.map_map, List.length_map, S_len]
    have : ((fun z : Str => z.length) ∘ S) = fun l : List Nat => l.length := by
      funext l
      exact S_len l
    rw [this]
    exact hz
  · rw [join_S]
    exact hq _ _ _ _ h2 (R2.pop.pop.push fun _ _ => .str _)
end
end G9

namespace G9
open PySem PySem.Spec PyProof.Rows L2
variable {c : SC}
section
variable {s : Sta} {P : Out → Prop} {a b e o : Expr} {es : List Expr} {pos p apos cpos pos' : Pos} {x name : Str} {st : Stmt} {rest : List Stmt}
/-! ### statements -/
theorem ass_nil (h : P (.nx s)) : ASs c [] s P := .mk fun X hX σ τ τv H R E hq => WSs.of pss_nil (hq.nx _ _ _ h R)
def seqP (c : SC) (rest : List Stmt) (P : Out → Prop) : Out → Prop
  | .nx s => ASs c rest s P
  | .rt d s => P (.rt d s)
  | .bk s => P (.bk s)
  | .ct s => P (.ct s)
theorem ass_cons (h : AS c st s (seqP c rest P)) : ASs c (st :: rest) s P := .mk fun X hX σ τ τv H R E hq =>
  WSs.of (pss_cons ps_w pss_w) (h X hX σ τ τv H R _ ⟨fun s' σ' H' h1 R1 => ASs.run h1 X hX σ' τ τv H' R1 E hq, fun d s' σ' v H' h1 R1 => hq.rt d s' σ' v H' h1 R1, fun s' σ' H' h1 R1 => hq.bk s' σ' H' h1 R1, fun s' σ' H' h1 R1 => hq.ct s' σ' H' h1 R1⟩)
theorem ass_one (h : AS c st s P) : ASs c [st] s P := .mk fun X hX σ τ τv H R E hq => WSs.of (pss_one ps_w) (h X hX σ τ τv H R E hq)
theorem as_ret (h : AE c e s fun d s1 => P (.rt d s1)) : AS c (.Return (some e) pos) s P := .mk fun X hX σ τ τv H R E hq => WS.of (ps_ret pe_w) (h X hX σ τ τv H R _ fun d s1 v H1 h1 R1 => hq.rt d s1 σ v H1 h1 R1)
theorem as_retN (h : P (.rt .non s)) : AS c (.Return none pos) s P := .mk fun X hX σ τ τv H R E hq => WS.of ps_retN (hq.rt .non s σ .non H h (R.push fun _ _ => .non))
theorem as_pass (h : P (.nx s)) : AS c (.Pass pos) s P := .mk fun X hX σ τ τv H R E hq => WS.of ps_pass (hq.nx _ _ _ h R)
theorem as_break (h : P (.bk s)) : AS c (.Break pos) s P := .mk fun X hX σ τ τv H R E hq => WS.of ps_break (hq.bk _ _ _ h R)
theorem as_cont (h : P (.ct s)) : AS c (.Continue pos) s P := .mk fun X hX σ τ τv H R E hq => WS.of ps_continue (hq.ct _ _ _ h R)
theorem as_expr (h : AE c e s fun d s1 => P (.nx s1)) (hs : ∀ env, swapsWith e none pos.line env = pure false := by intro _; rfl) : AS c (.Expr e pos) s P := .mk fun X hX σ τ τv H R E hq =>
  WS.of (ps_expr pe_w (hs _)) (h X hX σ τ τv H R _ fun d s1 v H1 h1 R1 => hq.nx s1 σ H1 h1 R1.pop)
theorem as_if {t u : List Stmt} (h : AT c e s fun k s1 => if k = true then ASs c t s1 P else ASs c u s1 P) : AS c (.If e t u pos) s P := by
  refine ⟨?_⟩
  intro X hX σ τ τv H R E hq
  refine WS.of (ps_if pt_w pss_w pss_w) (h X hX σ τ τv H R _ fun k s1 H1 h1 R1 => ?_)
  cases k with
  | true => exact ASs.run h1 X hX σ τ τv H1 R1 E hq
  | false => exact ASs.run h1 X hX σ τ τv H1 R1 E hq
/-! ### targets -/
theorem loc_of {X : Cx} (hX : XC c X) {x : Str} (h : Loc c.sc x) : Loc X.env.scope x := by
  rw [hX.sc]
  exact h
theorem fn_of' {X : Cx} (hX : XC c X) {x : Str} (h : c.all = true ∨ c.sc.names.lookup x = some .local) : X.fn x = true ∨ X.env.scope.names.lookup x = some .local := by
  rcases h with h | h
  · exact .inl (hX.fn h x)
  · exact .inr (by rw [hX.sc]; exact h)
theorem ag_name {i : Nat} {d : D} {PS' : Sta → Prop} (hi : c.N[i]? = some x) (h : PS' ⟨s.r.set i (some d), s.o⟩) (hx : Loc c.sc x := by first | exact Or.inl rfl | exact Or.inr rfl) (hf : c.all = true ∨ c.sc.names.lookup x = some .local := by first | exact .inl rfl | exact .inr rfl) : AG c (.Name x pos) d s PS' := by
  refine ⟨?_⟩
  intro X hX σ τ τv v H R Q hq
  exact WG.of (pg_name (by rw [hX.N]; exact hX.nd) (by rw [hX.N]; exact hi) (loc_of hX hx) (fn_of' hX hf)) (hq _ _ _ h R.set)
/-- several targets -/
structure AGs (c : SC) (ts : List Expr) (ds : List D) (s : Sta) (P : Sta → Prop) : Prop where
  run : ∀ X, XC c X → ∀ σ τ τv vs H, vs.length = ds.length → Rep c s σ (ds ++ τ) (vs ++ τv) H → ∃ t, PGs X ts t ∧ ∀ Q : L2.St → Hp → Prop, (∀ s' σ' H', P s' → Rep c s' σ' τ τv H' → Q σ' H') → t vs σ H Q
instance {c : SC} {ts : List Expr} {ds : List D} {s : Sta} {P : Sta → Prop} : CoeFun (AGs c ts ds s P) (fun _ => ∀ X, XC c X → ∀ σ τ τv vs H, vs.length = ds.length → Rep c s σ (ds ++ τ) (vs ++ τv) H → ∃ t, PGs X ts t ∧ ∀ Q : L2.St → Hp → Prop, (∀ s' σ' H', P s' → Rep c s' σ' τ τv H' → Q σ' H') → t vs σ H Q) := ⟨AGs.run⟩
theorem ags_nil {PS' : Sta → Prop} (h : PS' s) : AGs c [] [] s PS' := .mk fun X hX σ τ τv vs H l R => ⟨_, pgs_nil, fun Q hq => by
  obtain rfl : vs = [] := List.length_eq_zero_iff.mp l
  exact ⟨rfl, hq _ _ _ h R⟩⟩
/-- names as targets, all at once -/
theorem ags_name {ts : List Expr} {i : Nat} {d : D} {ds : List D} {PS' : Sta → Prop} (hi : c.N[i]? = some x) (h : AGs c ts ds ⟨s.r.set i (some d), s.o⟩ PS') (hx : Loc c.sc x := by first | exact Or.inl rfl | exact Or.inr rfl) (hf : c.all = true ∨ c.sc.names.lookup x = some .local := by first | exact .inl rfl | exact .inr rfl)
    (hs : ∀ env, (assignEach (.Name x pos :: ts) env).map (·.2) = assign (.Name x pos) env :: (assignEach ts env).map (·.2) := by intro _; rfl) : AGs c (.Name x pos :: ts) (d :: ds) s PS' := by
  refine ⟨?_⟩
  intro X hX σ τ τv vs H l R
  match vs, l with
  | v :: vs, l =>
    have R1 : Rep c ⟨s.r.set i (some d), s.o⟩ (σ.set i (some v)) (ds ++ τ) (vs ++ τv) H := Rep.set (by simpa using R)
    obtain ⟨t, ht, hq⟩ := h X hX (σ.set i (some v)) τ τv vs H (Nat.succ.inj l) R1
    exact ⟨_, pgs_cons (pg_name (by rw [hX.N]; exact hX.nd) (by rw [hX.N]; exact hi) (loc_of hX hx) (fn_of' hX hf)) ht (hs _), fun Q q => ⟨v, vs, rfl, hq Q q⟩⟩
theorem ag_tup {ts : List Expr} {k : Nat} {ds : List D} {PS' : Sta → Prop} (h : AGs c ts ds s PS') (hn : ∀ env, (assignEach ts env).length = ds.length := by intro _; rfl) (hst : ∀ env, (assignEach ts env).findIdx? (·.1) = none := by intro _; rfl) : AG c (.Tuple ts k pos) (.tup ds) s PS' := by
  refine ⟨?_⟩
  intro X hX σ τ τv v H R Q hq
  obtain ⟨a, vs, rfl, q, l, R1⟩ := R.rdt
  have R2 : Rep c s σ (ds ++ τ) (vs ++ τv) H := R1.temps fun F os r => by
    obtain ⟨r1, r2⟩ := RpL.split l r
    exact r1.append r2.tail
  obtain ⟨t, ht, hq'⟩ := h X hX σ τ τv vs H l R2
  refine WG.of (pg_tup hX.calm ht (hn _) (hst _)) ⟨a, vs, rfl, ?_, l, hq' Q hq⟩
  rw [hX.K]
  exact q
/-- target = e -/
theorem as_asg {tg : Expr} (h : AE c e s fun d s1 => AG c tg d s1 fun s2 => P (.nx s2)) (hs : ∀ env, swapsWithSole [tg] e pos.line env = pure false := by intro _; rfl) (hw : ∀ env, swappedStores [tg] e env = pure none := by intro _; rfl)
    (h1 : ∀ env, (assignEach [tg] env).map (·.2) = [assign tg env] := by intro _; rfl) : AS c (.Assign [tg] e pos) s P := .mk fun X hX σ τ τv H R E hq =>
  WS.of (ps_asg pe_w pg_w (hs _) (hw _) (h1 _)) (h X hX σ τ τv H R _ fun d s1 v H1 h1 R1 => h1 X hX σ τ τv v H1 R1 _ fun s2 σ2 H2 h2 R2 => hq.nx s2 σ2 H2 h2 R2)
/-- name = e -/
theorem as_set {i : Nat} (hi : c.N[i]? = some x) (h : AE c e s fun d s1 => P (.nx ⟨s1.r.set i (some d), s1.o⟩)) (hs : ∀ env, swapsWith e (some (.Name x pos')) pos.line env = pure false := by intro _; rfl) (hx : Loc c.sc x := by first | exact Or.inl rfl | exact Or.inr rfl) (hf : c.all = true ∨ c.sc.names.lookup x = some .local := by first | exact .inl rfl | exact .inr rfl) : AS c (.Assign [.Name x pos'] e pos) s P := .mk fun X hX σ τ τv H R E hq =>
  WS.of (ps_set (by rw [hX.N]; exact hX.nd) (by rw [hX.N]; exact hi) (loc_of hX hx) pe_w (hs _) (fn_of' hX hf)) (h X hX σ τ τv H R _ fun d s1 v H1 h1 R1 => hq.nx _ _ _ h1 R1.set)
/-- name += e, rngD -/
theorem as_addI {i : Nat} {n : Int} (hi : c.N[i]? = some x) (hn : s.r[i]? = some (some (.int n))) (h : AE c e s fun d s1 => isI d fun m => P (.nx ⟨s1.r.set i (some (.int (n + m))), s1.o⟩)) (hx : Loc c.sc x := by first | exact Or.inl rfl | exact Or.inr rfl) (hf : c.all = true ∨ c.sc.names.lookup x = some .local := by first | exact .inl rfl | exact .inr rfl) : AS c (.AugAssign (.Name x pos') .Add e pos) s P := by
  refine ⟨?_⟩
  intro X hX σ τ τv H R E hq
  refine WS.of (ps_aug (by rw [hX.N]; exact hX.nd) (by rw [hX.N]; exact hi) (loc_of hX hx) pe_w ip_add (fn_of' hX hf)) ?_
  obtain ⟨v, e1, R1⟩ := R.slot hn
  have e2 := R1.int
  subst e2
  refine ⟨_, e1, h X hX σ _ _ H R1 _ fun d s1 w H1 h1 R2 => ?_⟩
  obtain ⟨m, rfl, h1⟩ := h1
  have e2 := R2.int
  subst e2
  exact ⟨n, m, rfl, rfl, hq.nx _ _ _ h1 ((R2.pop.pop.push fun _ _ => .int (n + m)).set)⟩
/-- xs[i] = e -/
theorem ag_sub {i : Expr} {d : D} {PS' : Sta → Prop} (h : AE c o s fun d1 s1 => AE c i s1 fun d2 s2 => ∃ j ds n k, d1 = .ob j ∧ d2 = .int n ∧ s2.o[j]? = some (.lst ds) ∧ ixN ds.length n = some k ∧ PS' ⟨s2.r, s2.o.set j (.lst (ds.set k d))⟩)
    (ha : ∀ env v, assign (.Subscript o i pos) env v = (do
      let ov ← holding [v] (eval o env)
      let iv ← holding [v, ov] (eval i env)
      standAt pos
      holding [v, ov, iv] (setItem ov iv v)
      release [v, ov, iv] []) := by intro _ _; rfl) : AG c (.Subscript o i pos) d s PS' := by
  refine ⟨?_⟩
  intro X hX σ τ τv v H R Q hq
  refine WG.of (pg_sub pe_w pe_w set_list (ha _)) (h X hX σ _ _ H R _ fun d1 s1 v1 H1 h1 R1 => h1 X hX σ _ _ H1 R1 _ fun d2 s2 v2 H2 h2 R2 => ?_)
  obtain ⟨j, ds, n, k, rfl, rfl, ho, hk, h2⟩ := h2
  have e2 := R2.int
  subst e2
  obtain ⟨p, ws, rfl, hp, F, os, _, _, r⟩ := R2.pop.obj ho
  have hl : ws.length = ds.length := by
    have := r.length
    have l2 := R2.pop.pop.len
    simp only [List.length_append, List.length_cons] at this l2 ⊢
    omega
  refine ⟨p, ws, n, k, rfl, rfl, hp, by rw [hl]; exact hk, hq _ _ _ h2 ?_⟩
  have R3 := R2.pop.mut (ds' := ds.set k d) (vs := ws.set k v) ho fun F os ws' r1 e1 r2 => by
    rw [hp] at e1
    cases e1
    cases r2 with
    | cons a _ => exact r1.set a k
  exact R3.pop.pop

/-! ### loops -/
def LoopP (m : Nat) (I : Sta → Prop) (P : Out → Prop) : Out → Prop
  | .nx s => ∃ s', Gc m s s' ∧ I s'
  | .ct s => ∃ s', Gc m s s' ∧ I s'
  | .bk s => P (.nx s)
  | .rt d s => P (.rt d s)
theorem Rep.ol {σ : L2.St} {τ : List D} {τv : List V} {H : Hp} (R : Rep c s σ τ τv H) : c.os0.length ≤ s.o.length ∧ D.bndL s.o.length τ := by
  obtain ⟨F, os, a, b, e, r⟩ := R
  refine ⟨?_, a.len ▸ r.bnd⟩
  obtain ⟨t, ht⟩ := b.pre
  rw [← a.len, ht, List.length_append]
  omega
theorem as_while {t : Expr} {body : List Stmt} (I : Nat → Sta → Prop) (h0 : ∃ n, I n s) (hlow : ∀ n s', I n s' → s.o.length ≤ s'.o.length)
    (h : ∀ n s', I n s' → AT c t s' fun k s1 => if k = true then ASs c body s1 (LoopP s.o.length (fun s2 => ∃ n', n' < n ∧ I n' s2) P) else P (.nx s1)) : AS c (.While t body [] pos) s P := by
  refine ⟨?_⟩
  intro X hX σ τ τv H R E hq
  obtain ⟨l1, l2⟩ := R.ol
  refine WS.of (ps_while hX.pass pt_w pss_w) ⟨fun n σ H => ∃ s', I n s' ∧ Rep c s' σ τ τv H, ?_, ?_⟩
  · obtain ⟨n, h0⟩ := h0
    exact ⟨n, s, h0, R⟩
  · rintro n σ1 H1 ⟨s1, hI, R1⟩
    refine h n s1 hI X hX σ1 τ τv H1 R1 _ fun k s2 H2 h2 R2 => ?_
    cases k with
    | false => exact hq.nx _ _ _ h2 R2
    | true =>
      refine ⟨fun σ' H' => ∃ n', n' < n ∧ ∃ s', I n' s' ∧ Rep c s' σ' τ τv H', fun σ' H' q => q, ?_⟩
      have go : ∀ s' σ' H', (∃ s3, Gc s.o.length s' s3 ∧ ∃ n', n' < n ∧ I n' s3) → Rep c s' σ' τ τv H' → ∃ n', n' < n ∧ ∃ s', I n' s' ∧ Rep c s' σ' τ τv H' := fun s' σ' H' q R' => by
        obtain ⟨s3, g, n', hn, hI'⟩ := q
        exact ⟨n', hn, s3, hI', R'.gc g l1 l2⟩
      exact ASs.run h2 X hX σ1 τ τv H2 R2 _ ⟨go, fun d s' σ' v H' q R' => hq.rt d s' σ' v H' q R', fun s' σ' H' q R' => hq.nx s' σ' H' q R', go⟩
/-- what an iterator yields -/
structure ItOk (c : SC) (J : It) (Φ : Sta → Prop) (d : D) (v : V) (xs : List D) : Prop where
  go : ∀ (i : Nat) s σ τ τv H, Φ s → Rep c s σ (d :: τ) (v :: τv) H → i < xs.length → J.go i H ∧ ∀ x H', J.yld i H x H' → ∃ y, xs[i]? = some y ∧ Rep c s σ (y :: d :: τ) (x :: v :: τv) H'
  stop : ∀ s σ τ τv H, Φ s → Rep c s σ (d :: τ) (v :: τv) H → J.stop xs.length H
def WI (X : Cx) (tg iter : Expr) : TI := fun σ H R => ∀ (pins : List (Addr × Obj)) (s : Shared), Inv X pins σ H s →
    wpAny (model X.prog X.w) X.A (eval iter X.env) (fun v s1 => wpAny (model X.prog X.w) X.A (pyIter v) (PIE X pins σ tg R) X.xe s1) X.xe s
theorem pi_w {X : Cx} {tg iter : Expr} : PI X tg iter (WI X tg iter) := ⟨fun p s σ H R I h => h p s I⟩
theorem WI.of {X : Cx} {tg iter : Expr} {t : TI} {σ : L2.St} {H : Hp} {R : It → Hp → Prop} (h : PI X tg iter t) (q : t σ H R) : WI X tg iter σ H R := fun p s I => h.run p s σ H R I q
structure AI (c : SC) (tg iter : Expr) (s : Sta) (P : List D → (Sta → Prop) → Sta → Prop) : Prop where
  run : ∀ X, XC c X → ∀ σ τ τv H, Rep c s σ τ τv H → ∀ R : It → Hp → Prop, (∀ J d v xs Φ s' H', P xs Φ s' → Rep c s' σ (d :: τ) (v :: τv) H' → ItOk c J Φ d v xs → R J H') → WI X tg iter σ H R
instance {c : SC} {tg iter : Expr} {s : Sta} {P : List D → (Sta → Prop) → Sta → Prop} : CoeFun (AI c tg iter s P) (fun _ => ∀ X, XC c X → ∀ σ τ τv H, Rep c s σ τ τv H → ∀ R : It → Hp → Prop, (∀ J d v xs Φ s' H', P xs Φ s' → Rep c s' σ (d :: τ) (v :: τv) H' → ItOk c J Φ d v xs → R J H') → WI X tg iter σ H R) := ⟨AI.run⟩
variable {PI' : List D → (Sta → Prop) → Sta → Prop} {tg iter : Expr}
/-- a list that isn't changed; one that is not changed within the loop -/
theorem ai_list (h : AE c iter s fun d s1 => (∃ ds, d = .lst ds ∧ PI' ds (fun _ => True) s1) ∨ ∃ j ds, d = .ob j ∧ s1.o[j]? = some (.lst ds) ∧ PI' ds (fun s => s.o[j]? = some (.lst ds)) s1) : AI c tg iter s PI' := by
  refine ⟨?_⟩
  intro X hX σ τ τv H R Q hq
  refine WI.of (pi_list pe_w) (h X hX σ τ τv H R _ fun d s1 v H1 h1 R1 => ?_)
  have key : ∀ (ds : List D) (Φ : Sta → Prop), (∀ s, Φ s → RdL s d ds) → Φ s1 → PI' ds Φ s1 → ∃ a, v = .ref a ∧ (∃ xs, SqL X.K H1 a xs) ∧ Q (Itl X.K a) H1 := fun ds Φ hΦ h0 hP => by
    obtain ⟨a, vs, rfl, q, l, _⟩ := R1.rdl (hΦ _ h0)
    rw [hX.K]
    refine ⟨a, rfl, ⟨vs, q⟩, hq _ d (.ref a) ds Φ s1 H1 hP R1 ⟨fun i s σ τ τv H hs R hi => ?_, fun s σ τ τv H hs R => ?_⟩⟩
    · obtain ⟨a', vs', e1, q', l', R'⟩ := R.rdl (hΦ s hs)
      cases e1
      obtain ⟨w, hw⟩ : ∃ w, vs'[i]? = some w := ⟨_, List.getElem?_eq_getElem (by omega)⟩
      refine ⟨⟨vs', w, q', hw⟩, fun x H' hy => ?_⟩
      obtain ⟨rfl, hx⟩ := hy
      have hx' := hx vs' q'
      refine ⟨ds[i], List.getElem?_eq_getElem hi, R'.temps fun F os r => ?_⟩
      obtain ⟨r1, r2⟩ := RpL.split l' r
      obtain ⟨w', h1, h2⟩ := r1.get (List.getElem?_eq_getElem hi)
      rw [hx'] at h1
      cases h1
      exact .cons h2 r2
    · obtain ⟨a', vs', e1, q', l', _⟩ := R.rdl (hΦ s hs)
      cases e1
      exact ⟨vs', q', by omega⟩
  rcases h1 with ⟨ds, rfl, hP⟩ | ⟨j, ds, rfl, ho, hP⟩
  · exact key ds _ (fun _ _ => .inl rfl) trivial hP
  · exact key ds _ (fun s hs => .inr ⟨j, rfl, hs⟩) ho hP
theorem ai_tup (h : AE c iter s fun d s1 => ∃ ds, d = .tup ds ∧ PI' ds (fun _ => True) s1) : AI c tg iter s PI' := by
  refine ⟨?_⟩
  intro X hX σ τ τv H R Q hq
  refine WI.of (pi_tup pe_w) (h X hX σ τ τv H R _ fun d s1 v H1 h1 R1 => ?_)
  obtain ⟨ds, rfl, hP⟩ := h1
  obtain ⟨a, vs, rfl, q, l, _⟩ := R1.rdt
  rw [hX.K]
  refine ⟨a, rfl, ⟨vs, q⟩, hq _ (.tup ds) (.ref a) ds _ s1 H1 hP R1 ⟨fun i s σ τ τv H hs R hi => ?_, fun s σ τ τv H hs R => ?_⟩⟩
  · obtain ⟨a', vs', e1, q', l', R'⟩ := R.rdt
    cases e1
    obtain ⟨w, hw⟩ : ∃ w, vs'[i]? = some w := ⟨_, List.getElem?_eq_getElem (by omega)⟩
    refine ⟨⟨vs', w, q', hw⟩, fun x H' hy => ?_⟩
    obtain ⟨rfl, hx⟩ := hy
    have hx' := hx vs' q'
    refine ⟨ds[i], List.getElem?_eq_getElem hi, R'.temps fun F os r => ?_⟩
    obtain ⟨r1, r2⟩ := RpL.split l' r
    obtain ⟨w', h1, h2⟩ := r1.get (List.getElem?_eq_getElem hi)
    rw [hx'] at h1
    cases h1
    exact .cons h2 r2
  · obtain ⟨a', vs', e1, q', l', _⟩ := R.rdt
    cases e1
    exact ⟨vs', q', by omega⟩
theorem ai_str (h : AE c iter s fun d s1 => isS d fun l => PI' (signs l) (fun _ => True) s1) : AI c tg iter s PI' := by
  refine ⟨?_⟩
  intro X hX σ τ τv H R Q hq
  refine WI.of (pi_str pe_w) (h X hX σ τ τv H R _ fun d s1 v H1 h1 R1 => ?_)
  obtain ⟨l, rfl, hP⟩ := h1
  have e1 := R1.str
  subst e1
  refine ⟨S l, rfl, hq _ _ _ _ _ s1 H1 hP R1 ⟨fun i s σ τ τv H hs R hi => ?_, fun s σ τ τv H hs R => ?_⟩⟩
  · have hi' : i < l.length := by simpa [signs] using hi
    refine ⟨by show i < (S l).cps.size; simpa [S] using hi', fun x H' hy => ?_⟩
    obtain ⟨rfl, k, hk, rfl⟩ := hy
    refine ⟨.str [k], ?_, R.push fun F os => .str [k]⟩
    have : l[i]? = some k := by simpa [S] using hk
    simp [signs, this]
  · show (S l).cps.size ≤ _
    simp [S, signs]
def rngD (lo : Int) (n : Nat) : List D := (List.range n).map fun i => .int (lo + (i : Nat))
theorem it_range {lo : Int} {n : Nat} {d : D} {v : V} : ItOk c (Itr lo n) (fun _ => True) d v (rngD lo n) := by
  refine ⟨fun i s σ τ τv H hs R hi => ?_, fun s σ τ τv H hs R => ?_⟩
  · have hi' : i < n := by simpa [rngD] using hi
    refine ⟨hi', fun x H' hy => ?_⟩
    obtain ⟨rfl, rfl⟩ := hy
    exact ⟨.int (lo + (i : Nat)), by simp [rngD, hi'], R.push fun F os => .int _⟩
  · show n ≤ _
    simp [rngD]
theorem ai_range1 {e : Expr} (hm : c.mg "range" = none) (h : AE c e s fun d s1 => isI d fun j => -(2 ^ 62) ≤ j ∧ j < 2 ^ 62 ∧ PI' (rngD 0 j.toNat) (fun _ => True) s1) (hg : IsG c "range" := by rfl) (hs : ∀ env, starEach [e] env = [(false, eval e env)] := by intro _; rfl)
    (hs1 : ∀ env, starEach [e] env = (false, eval e env) :: starEach [] env := by intro _; rfl) : AI c tg (.Call (.Name "range" p) [e] [] pos) s PI' := by
  refine ⟨?_⟩
  intro X hX σ τ τv H R Q hq
  refine WI.of (pi_range1 (gl_of hX hg) (by rw [hX.mg]; exact hm) pa_w (hs _)) ?_
  refine aa_one (PA' := fun ds s1 => ∃ d, ds = [d] ∧ isI d fun j => -(2 ^ 62) ≤ j ∧ j < 2 ^ 62 ∧ PI' (rngD 0 j.toNat) (fun _ => True) s1) (h.mono fun d s1 h => ⟨d, rfl, h⟩) hs1 X hX σ τ τv H R _ fun ds s1 vs H1 h1 l R1 => ?_
  obtain ⟨d, rfl, j, rfl, b1, b2, hP⟩ := h1
  obtain ⟨v, rfl⟩ := one_v l
  have R2 : Rep c s1 σ (.int j :: τ) (v :: τv) H1 := R1
  have e1 := R2.int
  subst e1
  exact ⟨j, rfl, b1, b2, hq _ _ _ _ _ s1 H1 hP R2 it_range⟩
theorem ai_range2 {a b : Expr} (hm : c.mg "range" = none) (h : AE c a s fun d0 s0 => AE c b s0 fun d s1 => isI d0 fun i => isI d fun j => (-(2 ^ 62) ≤ i ∧ i < 2 ^ 62 ∧ -(2 ^ 62) ≤ j ∧ j < 2 ^ 62) ∧ PI' (rngD i (j - i).toNat) (fun _ => True) s1) (hg : IsG c "range" := by rfl)
    (hs : ∀ env, starEach [a, b] env = [(false, eval a env), (false, eval b env)] := by intro _; rfl) (hs2 : ∀ env, starEach [b] env = [(false, eval b env)] := by intro _; rfl) (hs3 : ∀ env, starEach [a, b] env = (false, eval a env) :: starEach [b] env := by intro _; rfl)
    (hs4 : ∀ env, starEach [b] env = (false, eval b env) :: starEach [] env := by intro _; rfl) : AI c tg (.Call (.Name "range" p) [a, b] [] pos) s PI' := by
  refine ⟨?_⟩
  intro X hX σ τ τv H R Q hq
  refine WI.of (pi_range2 (gl_of hX hg) (by rw [hX.mg]; exact hm) pa_w (hs _) (hs2 _)) ?_
  refine aa_two (PA' := fun ds s1 => ∃ d0 d, ds = [d0, d] ∧ isI d0 fun i => isI d fun j => (-(2 ^ 62) ≤ i ∧ i < 2 ^ 62 ∧ -(2 ^ 62) ≤ j ∧ j < 2 ^ 62) ∧ PI' (rngD i (j - i).toNat) (fun _ => True) s1) (h.mono fun d s1 h => h.mono fun d2 s2 h => ⟨d, d2, rfl, h⟩) hs3 hs4 X hX σ τ τv H R _ fun ds s1 vs H1 h1 l R1 => ?_
  obtain ⟨d0, d, rfl, i, rfl, j, rfl, b1, hP⟩ := h1
  obtain ⟨v, w, rfl⟩ := two_v l
  have R2 : Rep c s1 σ (.int i :: .int j :: τ) (v :: w :: τv) H1 := R1
  have e1 := R2.int
  have e2 := R2.pop.int
  subst e1 e2
  exact ⟨i, j, rfl, b1, hq _ _ _ _ _ s1 H1 hP R2.pop it_range⟩
/-- for tg in iter: body -/
theorem as_for {body : List Stmt} (h : AI c tg iter s fun xs Φ s1 => ∃ I : Nat → Sta → Prop, I 0 s1 ∧ (∀ i s, I i s → Φ s) ∧
      (∀ i d s, xs[i]? = some d → I i s → AG c tg d s fun s2 => ASs c body s2 (LoopP s1.o.length (I (i + 1)) P)) ∧ (∀ s, I xs.length s → P (.nx s)))
    (hs : ∀ env x, foldedSetIterable iter env x = pure x := by intro _ _; rfl) : AS c (.For tg iter body [] pos) s P := by
  refine ⟨?_⟩
  intro X hX σ τ τv H R E hq
  refine WS.of (ps_for hX.pass hX.calm pi_w pg_w pss_w (hs _)) (h X hX σ τ τv H R _ fun J d v xs Φ s1 H1 h1 R1 ok => ?_)
  obtain ⟨I, h0, hΦ, turn, done⟩ := h1
  obtain ⟨l1, l2⟩ := R1.ol
  refine ⟨fun i m σ H => m = xs.length - i ∧ i ≤ xs.length ∧ ∃ s, I i s ∧ Rep c s σ (d :: τ) (v :: τv) H, ⟨xs.length, by simp, Nat.zero_le _, s1, h0, R1⟩, ?_⟩
  rintro i m σ2 H2 ⟨rfl, hi, s2, hI, R2⟩
  by_cases hlt : i < xs.length
  · obtain ⟨g1, g2⟩ := ok.go i s2 σ2 _ _ H2 (hΦ _ _ hI) R2 hlt
    refine .inr ⟨g1, fun σ' H' => ∃ s', I (i + 1) s' ∧ Rep c s' σ' (d :: τ) (v :: τv) H', fun σ' H' q => ⟨xs.length - (i + 1), by omega, rfl, by omega, q⟩, fun x H' hy => ?_⟩
    obtain ⟨y, hy1, R3⟩ := g2 x H' hy
    refine turn i y s2 hy1 hI X hX σ2 _ _ x H' R3 _ fun s3 σ3 H3 h3 R4 => ?_
    have go : ∀ s' σ' H', (∃ s3, Gc s1.o.length s' s3 ∧ I (i + 1) s3) → Rep c s' σ' (d :: τ) (v :: τv) H' → ∃ s', I (i + 1) s' ∧ Rep c s' σ' (d :: τ) (v :: τv) H' := fun s' σ' H' q R' => by
      obtain ⟨s3, g, hI'⟩ := q
      exact ⟨s3, hI', R'.gc g l1 l2⟩
    exact h3 X hX σ3 _ _ H3 R4 _ ⟨go, fun d s' σ' v H' q R' => hq.rt d s' σ' v H' q R'.pop2, fun s' σ' H' q R' => hq.nx s' σ' H' q R'.pop, go⟩
  · have e : i = xs.length := by omega
    subst e
    exact .inl ⟨ok.stop s2 σ2 _ _ H2 (hΦ _ _ hI) R2, hq.nx _ _ _ (done s2 hI) R2.pop⟩
end
end G9

namespace G9
open PySem PySem.Spec PyProof.Rows L2
variable {c : SC}
/-! ### comprehensions -/
def relS (scope sc : Scope) : Scope := { scope with names := scope.names.map fun (n, k) => if (k == .free && sc.kind == .function && sc.names.lookup n == some .cell) then (n, .cell) else (n, k) }
def SC.blk (c : SC) (scope : Scope) : SC := { c with sc := relS scope c.sc, all := false, err := nox }
theorem xc_blk {X : Cx} (hX : XC c X) {scope : Scope} (s : Shared) (H : Hp) (C : Addr) (cl : List (Str × Addr)) (fp : List Addr) : XC (c.blk scope) (X.blk s H scope (compEnvC scope cl C X.env) fp) := by
  refine ⟨hX.prog, hX.w, hX.K, hX.mg, hX.base, hX.N, ?_, hX.nd, hX.calm, PassesOwn.never, wish_nox rfl, hX.room, (fun h => by cases h), fun h => by cases h⟩
  show relabel scope X.env = relS scope c.sc
  unfold relabel relS Env.kindOf
  rw [hX.sc]
def wipeD (r : List (Option D)) : List Nat → List (Option D)
  | [] => r
  | v :: vs => (wipeD r vs).set v none
theorem wipe_get {σ : L2.St} {i : Nat} : ∀ {vs : List Nat}, i ∉ vs → (wipe σ vs)[i]? = σ[i]?
  | [], _ => rfl
  | v :: vs, h => by
    unfold wipe
    rw [List.getElem?_set_ne (show v ≠ i from fun e => h (by rw [e]; exact List.mem_cons_self)), wipe_get fun q => h (List.mem_cons_of_mem _ q)]
theorem wipeD_get {r : List (Option D)} {i : Nat} {d : D} : ∀ {vs : List Nat}, (wipeD r vs)[i]? = some (some d) → i ∉ vs ∧ r[i]? = some (some d)
  | [], h => ⟨by simp, h⟩
  | v :: vs, h => by
    unfold wipeD at h
    by_cases e : v = i
    · subst e
      rw [List.getElem?_set] at h
      simp only [if_true] at h
      split at h <;> cases h
    · rw [List.getElem?_set_ne e] at h
      obtain ⟨h1, h2⟩ := wipeD_get h
      exact ⟨fun q => by
        rcases List.mem_cons.mp q with q | q
        · exact e q.symm
        · exact h1 q, h2⟩
theorem wipeD_len {r : List (Option D)} : ∀ {vs : List Nat}, (wipeD r vs).length = r.length
  | [] => rfl
  | v :: vs => by
    unfold wipeD
    rw [List.length_set, wipeD_len]
theorem wipe_set_mem {σ : L2.St} {i : Nat} {x : Option V} : ∀ {vs : List Nat}, i ∈ vs → wipe (σ.set i x) vs = wipe σ vs
  | v :: vs, h => by
    unfold wipe
    by_cases e : i ∈ vs
    · rw [wipe_set_mem e]
    · have : i = v := by
        rcases List.mem_cons.mp h with q | q
        · exact q
        · exact absurd q e
      subst this
      have go : ∀ {ws : List Nat}, i ∉ ws → wipe (σ.set i x) ws = (wipe σ ws).set i x := by
        intro ws hw
        induction ws with
        | nil => rfl
        | cons w ws ih =>
          unfold wipe
          rw [ih fun q => hw (List.mem_cons_of_mem _ q), List.set_comm _ _ (show i ≠ w from fun e => hw (by rw [e]; exact List.mem_cons_self))]
      rw [go e, List.set_set]
theorem wipe_wipe {σ : L2.St} {vs : List Nat} : wipe (wipe σ vs) vs = wipe σ vs := by
  have go : ∀ {ws us : List Nat}, (∀ i ∈ ws, i ∈ us) → wipe (wipe σ ws) us = wipe σ us := by
    intro ws us
    induction ws with
    | nil => intro _; rfl
    | cons w ws ih =>
      intro h
      show wipe ((wipe σ ws).set w none) us = _
      rw [wipe_set_mem (h w List.mem_cons_self), ih fun i hi => h i (List.mem_cons_of_mem _ hi)]
  exact go fun i h => h
section
variable {s : Sta} {σ σ2 : L2.St} {τ : List D} {τv : List V} {H : Hp} {vs : List Nat}
theorem Rep.wipe {scope : Scope} (R : Rep c s σ τ τv H) : Rep (c.blk scope) ⟨wipeD s.r vs, s.o⟩ (wipe σ vs) τ τv H := by
  obtain ⟨F, os, a, b, e, r⟩ := R
  refine ⟨F, os, a, b, ⟨by rw [wipe_length, wipeD_len]; exact e.len, fun i d h => ?_⟩, r⟩
  obtain ⟨h1, h2⟩ := wipeD_get h
  obtain ⟨v, h3, h4⟩ := e.get i d h2
  exact ⟨v, by rw [wipe_get h1]; exact h3, h4⟩
theorem Rep.unwipe {scope : Scope} (R : Rep (c.blk scope) s σ2 τ τv H) (hw : L2.wipe σ2 vs = L2.wipe σ vs) : Rep c ⟨wipeD s.r vs, s.o⟩ σ τ τv H := by
  obtain ⟨F, os, a, b, e, r⟩ := R
  have hl : σ2.length = σ.length := by
    have := congrArg List.length hw
    rw [wipe_length, wipe_length] at this
    exact this
  refine ⟨F, os, a, b, ⟨by rw [wipeD_len, ← hl]; exact e.len, fun i d h => ?_⟩, r⟩
  obtain ⟨h1, h2⟩ := wipeD_get h
  obtain ⟨v, h3, h4⟩ := e.get i d h2
  refine ⟨v, ?_, h4⟩
  rw [← wipe_get (σ := σ) h1, ← hw, wipe_get h1]
  exact h3
end
/-- the tests of a comprehension -/
def AF (c : SC) (ifs : List Expr) (s : Sta) (P : Bool → Sta → Prop) : Prop := match ifs with
  | [] => P true s
  | [t] => AT c t s P
  | _ => False
/-- the list that a comprehension has made: changeable, or not (then its own object is forgotten) -/
def NewC (own : Bool) (j : Nat) (acc : List D) (s : Sta) (P : D → Sta → Prop) : Prop :=
  if own = true then P (.ob j) s else D.bndL j acc ∧ (∀ (i : Nat) (d : D), s.r[i]? = some (some d) → D.bnd j d) ∧ (∀ ob ∈ s.o.take j, Ob.bnd j ob) ∧ P (.lst acc) ⟨s.r, s.o.take j⟩
theorem Rep.newC {own : Bool} {s : Sta} {σ : L2.St} {τ : List D} {τv : List V} {H : Hp} {j : Nat} {acc : List D} {v : V} {P : D → Sta → Prop} {Q : VK} (R : Rep c s σ (.ob j :: τ) (v :: τv) H) (ho : s.o[j]? = some (.lst acc)) (h : NewC own j acc s P) (hm : c.os0.length ≤ j) (ht : D.bndL j τ) (hq : FinE c P σ τ τv Q) : Q v H := by
  unfold NewC at h
  cases own with
  | true => exact hq _ _ _ _ h R
  | false =>
    obtain ⟨h1, h2, h3, h4⟩ := h
    have R2 := R.freeze ho
    refine hq _ _ _ _ h4 ?_
    have e : (s.o.set j .dead).take j = s.o.take j := by
      refine List.ext_getElem? fun i => ?_
      by_cases hi : i < j
      · rw [List.getElem?_take_of_lt hi, List.getElem?_take_of_lt hi, List.getElem?_set_ne (by omega)]
      · rw [List.getElem?_eq_none (by simp; omega), List.getElem?_eq_none (by simp; omega)]
    have g : Gc j (⟨s.r, s.o.set j .dead⟩ : Sta) ⟨s.r, (s.o.set j .dead).take j⟩ := Gc.cut (s := ⟨s.r, s.o.set j .dead⟩) j s.r (Nat.le_refl _) rfl (fun i d h => ⟨h, h2 i d h⟩) (by
      intro ob hob
      have hob' : ob ∈ (s.o.set j .dead).take j := hob
      rw [e] at hob'
      exact h3 ob hob')
    have hb : D.bndL j (.lst acc :: τ) := by
      show D.bnd j (.lst acc) ∧ D.bndL j τ
      exact ⟨by unfold D.bnd; exact h1, ht⟩
    have R3 := R2.gc g hm hb
    rw [e] at R3
    exact R3
section
variable {s : Sta} {P : D → Sta → Prop} {elt tg iter : Expr} {ifs : List Expr} {scope : Scope} {pos : Pos} {x : Str} {i0 : Nat} {own : Bool}
/-- what a comprehension with one name as its target asks -/
def LcP (c : SC) (scope : Scope) (elt tg : Expr) (ifs : List Expr) (i0 : Nat) (vs : List Nat) (own : Bool) (P : D → Sta → Prop) (xs : List D) (Φ : Sta → Prop) (s1 : Sta) : Prop :=
  ∃ I : Nat → List D → Sta → Prop, I 0 [] ⟨wipeD s1.r vs, s1.o ++ [.lst []]⟩ ∧ (∀ i acc s, I i acc s → Φ s ∧ s.o[s1.o.length]? = some (.lst acc) ∧ acc.length ≤ i ∧ (∀ v ∈ vs, ∀ d, s.r[v]? ≠ some (some d))) ∧
    (∀ i acc d s, xs[i]? = some d → I i acc s → AF (c.blk scope) ifs ⟨s.r.set i0 (some d), s.o⟩ fun b s2 =>
      if b = true then AE (c.blk scope) elt s2 fun e s3 => s3.o[s1.o.length]? = some (.lst acc) ∧ ∃ s4, Gc (s1.o.length + 1) ⟨wipeD s3.r vs, s3.o.set s1.o.length (.lst (acc ++ [e]))⟩ s4 ∧ I (i + 1) (acc ++ [e]) s4
      else ∃ s4, Gc (s1.o.length + 1) ⟨wipeD s2.r vs, s2.o⟩ s4 ∧ I (i + 1) acc s4) ∧
    (∀ acc s, I xs.length acc s → NewC own s1.o.length acc s P) ∧ xs.length ≤ sizeLine
end
theorem wipeD_id {r : List (Option D)} : ∀ {vs : List Nat}, (∀ v ∈ vs, ∀ d, r[v]? ≠ some (some d)) → ∀ (i : Nat) (d : D), r[i]? = some (some d) → (wipeD r vs)[i]? = some (some d)
  | [], _, _, _, h => h
  | v :: vs, hv, i, d, h => by
    have ih := wipeD_id (vs := vs) (fun w hw => hv w (List.mem_cons_of_mem _ hw)) i d h
    unfold wipeD
    rw [List.getElem?_set_ne (show v ≠ i from fun e => hv v List.mem_cons_self d (by rw [e]; exact h))]
    exact ih
section
variable {s : Sta} {P : D → Sta → Prop} {elt tg iter : Expr} {ifs : List Expr} {scope : Scope} {pos px : Pos} {x : Str} {i0 : Nat} {own : Bool}
/-- the reading of a comprehension -/
theorem lc_read {X : Cx} (hX : XC c X) {ow : List (Str × Nat)} (h : AI c (.Name x px) iter s fun xs Φ s1 => LcP c scope elt (.Name x px) ifs i0 (ow.map (·.2)) own P xs Φ s1) (hi0 : i0 ∈ ow.map (·.2))
    {σ : L2.St} {τ : List D} {τv : List V} {H : Hp} (R : Rep c s σ τ τv H) {Q : VK} (hq : FinE c P σ τ τv Q) (hlen : ifs.length ≤ 1) :
    tLc (WI X (.Name x px) iter) (gName i0) (fun σ H Q => ∀ s0 H0 C cl fp, match ifs with
        | [] => Q true H
        | [t] => WT (X.blk s0 H0 scope (compEnvC scope cl C X.env) fp) t σ H Q
        | _ => False) (fun σ H Q => ∀ s0 H0 C cl fp, WE (X.blk s0 H0 scope (compEnvC scope cl C X.env) fp) elt σ H Q) (ow.map (·.2)) σ H Q := by
  refine h X hX σ τ τv H R _ fun J d v xs Φ s1 H1 h1 R1 ok => ?_
  obtain ⟨I, h0, hI, turn, done, hz⟩ := h1
  intro Dd hD
  obtain ⟨l1, l2⟩ := R1.ol
  generalize hvs : ow.map (·.2) = vs at *
  have R2 : Rep c ⟨s1.r, s1.o ++ [.lst []]⟩ σ (.ob s1.o.length :: d :: τ) (.ref Dd :: v :: τv) (upd H1 Dd (.lst [])) := R1.own hD fun F os r => .nil
  have R3 : Rep c ⟨wipeD s1.r vs, s1.o ++ [.lst []]⟩ σ (.ob s1.o.length :: d :: τ) (.ref Dd :: v :: τv) (upd H1 Dd (.lst [])) := by
    have := (R2.wipe (vs := vs) (scope := scope)).unwipe (σ := σ) (vs := vs) wipe_wipe
    have e : wipeD (wipeD s1.r vs) vs = wipeD s1.r vs := by
      have go : ∀ {ws us : List Nat} {r : List (Option D)}, (∀ i ∈ ws, i ∈ us) → wipeD (wipeD r ws) us = wipeD r us := by
        intro ws us r
        have one : ∀ {us : List Nat} {r : List (Option D)} {w : Nat}, w ∈ us → wipeD (r.set w none) us = wipeD r us := by
          intro us
          induction us with
          | nil => intro r w h; cases h
          | cons u us ih =>
            intro r w h
            unfold wipeD
            by_cases e : w ∈ us
            · rw [ih e]
            · have e2 : w = u := by
                rcases List.mem_cons.mp h with q | q
                · exact q
                · exact absurd q e
              subst e2
              have go2 : ∀ {ws : List Nat}, w ∉ ws → wipeD (r.set w none) ws = (wipeD r ws).set w none := by
                intro ws hw
                induction ws with
                | nil => rfl
                | cons y ws ih2 =>
                  unfold wipeD
                  rw [ih2 fun q => hw (List.mem_cons_of_mem _ q), List.set_comm _ _ (show w ≠ y from fun e => hw (by rw [e]; exact List.mem_cons_self))]
              rw [go2 e, List.set_set]
        induction ws generalizing r with
        | nil => intro _; rfl
        | cons w ws ih =>
          intro h
          show wipeD ((wipeD r ws).set w none) us = _
          rw [one (h w List.mem_cons_self), ih fun i hi => h i (List.mem_cons_of_mem _ hi)]
      exact go fun i h => h
    exact e ▸ this
  refine ⟨fun i m H => m = xs.length - i ∧ i ≤ xs.length ∧ ∃ acc s, I i acc s ∧ Rep c s σ (.ob s1.o.length :: d :: τ) (.ref Dd :: v :: τv) H, ⟨xs.length, by simp, Nat.zero_le _, [], _, h0, R3⟩, ?_⟩
  rintro i m H2 ⟨rfl, hi, acc, s2, hI2, R4⟩
  have sw : ∀ {s : Sta} {σ : L2.St} {H : Hp} {c : SC} {d1 d2 : D} {v1 v2 : V} {τ : List D} {τv : List V}, Rep c s σ (d1 :: d2 :: τ) (v1 :: v2 :: τv) H → Rep c s σ (d2 :: d1 :: τ) (v2 :: v1 :: τv) H := fun R => R.temps fun F os r => by
    cases r with
    | cons a r =>
      cases r with
      | cons b r => exact .cons b (.cons a r)
  obtain ⟨q1, q2, q3, q4⟩ := hI i acc s2 hI2
  by_cases hlt : i < xs.length
  · obtain ⟨g1, g2⟩ := ok.go i s2 σ _ _ H2 q1 (sw R4) hlt
    refine .inr ⟨g1, fun H' => ∃ acc s', I (i + 1) acc s' ∧ Rep c s' σ (.ob s1.o.length :: d :: τ) (.ref Dd :: v :: τv) H', fun H' q => ⟨xs.length - (i + 1), by omega, rfl, by omega, q⟩, fun y H' hy => ?_⟩
    obtain ⟨yd, hy1, R5⟩ := g2 y H' hy
    have R6 : Rep c s2 σ (yd :: .ob s1.o.length :: d :: τ) (y :: .ref Dd :: v :: τv) H' := R5.temps fun F os r => by
      cases r with
      | cons a r =>
        cases r with
        | cons b r =>
          cases r with
          | cons c r => exact .cons a (.cons c (.cons b r))
    have R7 := R6.wipe (vs := vs) (scope := scope)
    have R8 : Rep (c.blk scope) ⟨s2.r.set i0 (some yd), s2.o⟩ ((wipe σ vs).set i0 (some y)) (.ob s1.o.length :: d :: τ) (.ref Dd :: v :: τv) H' := by
      have R9 := R7.set (i := i0)
      obtain ⟨F, os, a, b, e, r⟩ := R9
      refine ⟨F, os, a, b, ⟨?_, fun k dd hk => ?_⟩, r⟩
      · have := e.len
        simp only [List.length_set, wipeD_len] at this ⊢
        exact this
      · refine e.get k dd ?_
        show ((wipeD s2.r vs).set i0 (some yd))[k]? = _
        simp only [List.getElem?_set] at hk ⊢
        rw [wipeD_len]
        by_cases hk0 : i0 = k
        · rw [if_pos hk0] at hk ⊢
          exact hk
        · rw [if_neg hk0] at hk ⊢
          exact wipeD_id q4 k dd hk
    have hw : wipe ((wipe σ vs).set i0 (some y)) vs = wipe σ vs := by rw [wipe_set_mem hi0, wipe_wipe]
    refine ⟨by rw [hw], ?_⟩
    have T := turn i acc yd s2 hy1 hI2
    have fin1 : ∀ (s3 : Sta) (H3 : Hp), (∃ s4, Gc (s1.o.length + 1) ⟨wipeD s3.r vs, s3.o⟩ s4 ∧ I (i + 1) acc s4) → Rep (c.blk scope) s3 ((wipe σ vs).set i0 (some y)) (.ob s1.o.length :: d :: τ) (.ref Dd :: v :: τv) H3 →
        ∃ acc s', I (i + 1) acc s' ∧ Rep c s' σ (.ob s1.o.length :: d :: τ) (.ref Dd :: v :: τv) H3 := fun s3 H3 h R => by
      obtain ⟨s4, g, hI4⟩ := h
      have R1' := R.unwipe (σ := σ) (vs := vs) hw
      exact ⟨acc, s4, hI4, R1'.gc g (Nat.le_succ_of_le l1) ⟨by unfold D.bnd; exact Nat.lt_succ_self _, D.bndL_le (Nat.le_succ _) l2⟩⟩
    have fin2 : ∀ (s3 : Sta) (H3 : Hp), AE (c.blk scope) elt s3 (fun e s3 => s3.o[s1.o.length]? = some (.lst acc) ∧ ∃ s4, Gc (s1.o.length + 1) ⟨wipeD s3.r vs, s3.o.set s1.o.length (.lst (acc ++ [e]))⟩ s4 ∧ I (i + 1) (acc ++ [e]) s4) → Rep (c.blk scope) s3 ((wipe σ vs).set i0 (some y)) (.ob s1.o.length :: d :: τ) (.ref Dd :: v :: τv) H3 →
        ∀ s0 H0 C cl fp, WE (X.blk s0 H0 scope (compEnvC scope cl C X.env) fp) elt ((wipe σ vs).set i0 (some y)) H3 fun w H4 => ∃ acc, H4 Dd = some (.lst acc) ∧ acc.length < sizeLine ∧ ∃ acc' s', I (i + 1) acc' s' ∧ Rep c s' σ (.ob s1.o.length :: d :: τ) (.ref Dd :: v :: τv) (upd H4 Dd (.lst (acc ++ [w]))) := fun s3 H3 h R s0 H0 C cl fp => by
      refine h _ (xc_blk hX s0 H0 C cl fp) _ _ _ H3 R _ fun e s4 w H4 h4 Ra => ?_
      obtain ⟨ho, s5, g, hI5⟩ := h4
      have Rb := sw Ra
      obtain ⟨p, ws, e1, hp, F, os, _, _, r⟩ := Rb.obj ho
      cases e1
      have hl : ws.length = acc.length := by
        have := r.length
        have l2 := Rb.pop.len
        simp only [List.length_append, List.length_cons] at this l2 ⊢
        omega
      refine ⟨ws, hp, by omega, acc ++ [e], s5, hI5, ?_⟩
      have Rc := Rb.mut (ds' := acc ++ [e]) (vs := ws ++ [w]) ho fun F os ws' r1 e1 r2 => by
        rw [hp] at e1
        cases e1
        cases r2 with
        | cons a _ => exact r1.append (.cons a .nil)
      have Rd' := (sw Rc).pop.unwipe (σ := σ) (vs := vs) hw
      exact Rd'.gc g (Nat.le_succ_of_le l1) ⟨by unfold D.bnd; exact Nat.lt_succ_self _, D.bndL_le (Nat.le_succ _) l2⟩
    match ifs, hlen, T with
    | [], _, T =>
      intro s0 H0 C cl fp
      have T' : AE (c.blk scope) elt ⟨s2.r.set i0 (some yd), s2.o⟩ _ := T
      show ∀ s0 H0 C cl fp, _
      exact fin2 _ _ T' R8
    | [t], _, T =>
      intro s0 H0 C cl fp
      refine AT.run T _ (xc_blk hX s0 H0 C cl fp) _ _ _ H' R8 _ fun b s3 H3 h3 R9 => ?_
      cases b with
      | true => exact fin2 s3 H3 h3 R9
      | false => exact fin1 s3 H3 h3 R9
  · have e : i = xs.length := by omega
    subst e
    exact .inl ⟨ok.stop s2 σ _ _ H2 q1 (sw R4), Rep.newC R4.pop2 q2 (done acc s2 hI2) l1 l2.2 hq⟩
theorem pts_of {X : Cx} (h : ifs.length ≤ 1) (s0 : Shared) (H0 : Hp) (C : Addr) (cl : List (Str × Addr)) (fp : List Addr) : PTs (X.blk s0 H0 scope (compEnvC scope cl C X.env) fp) ifs (fun σ H Q => ∀ s0 H0 C cl fp, match ifs with
        | [] => Q true H
        | [t] => WT (X.blk s0 H0 scope (compEnvC scope cl C X.env) fp) t σ H Q
        | _ => False) := by
  match ifs, h with
  | [], _ => exact ⟨fun p s σ H Q I q => pts_nil.run p s σ H Q I (q s0 H0 C cl fp)⟩
  | [t], _ => exact ⟨fun p s σ H Q I q => (pts_one pt_w).run p s σ H Q I (q s0 H0 C cl fp)⟩
/-- [elt for x in iter if ..] -/
theorem ae_lc (N0 : List Str) (sc0 : Scope) (own : Bool) (i0 : Nat) (ow : List (Str × Nat)) (ok : blkC N0 sc0 scope ow = true) (hi0 : i0 ∈ ow.map (·.2)) (hN : c.N[i0]? = some x) (hx : (relS scope c.sc).names.lookup x = some .local) (hlen : ifs.length ≤ 1) (h : AI c (.Name x px) iter s fun xs Φ s1 => LcP c scope elt (.Name x px) ifs i0 (ow.map (·.2)) own P xs Φ s1)
    (hs : ∀ env y, foldedSetIterable iter env y = pure y := by intro _ _; rfl) (eN : c.N = N0 := by rfl) (eS : c.sc = sc0 := by rfl) : AE c (.ListComp elt [⟨.Name x px, iter, ifs, 0⟩] scope pos) s P := by
  refine ⟨?_⟩
  intro X hX σ τ τv H R Q hq
  refine WE.of (pe_lc (own := ow) (g := gName i0) hX.calm (by rw [hX.N]; exact hX.nd) pi_w (blkOk_by (by rw [hX.N, hX.sc, eN, eS]; exact ok)) (fun s0 H0 C cl fp => ?_) (fun s0 H0 C cl fp => pts_of hlen s0 H0 C cl fp) (fun s0 H0 C cl fp => ⟨fun p s σ H Q I q => q s0 H0 C cl fp p s I⟩) (hs _)) (lc_read hX h hi0 R hq hlen)
  have hY := xc_blk hX (scope := scope) s0 H0 C cl fp
  exact pg_name (by rw [hY.N]; exact hY.nd) (by rw [hY.N]; exact hN) (loc_of hY (.inl hx)) (fn_of' hY (.inr hx))
/-- y = [elt for x in iter if ..] -/
theorem as_lc {PO' : Out → Prop} {y : Str} {py spos : Pos} {iy : Nat} (N0 : List Str) (sc0 : Scope) (own : Bool) (i0 : Nat) (ow : List (Str × Nat)) (hy : c.N[iy]? = some y) (hyl : c.sc.names.lookup y = some .local) (hk : c.sc.kind = .function) (hln : (py.line == pos.line) = true) (ha : (scope.names.any fun (n, k) => n == y && (k == .local || k == .cell)) = false)
    (ok : blkC N0 sc0 scope ow = true) (hi0 : i0 ∈ ow.map (·.2)) (hN : c.N[i0]? = some x) (hx : (relS scope c.sc).names.lookup x = some .local) (hlen : ifs.length ≤ 1) (h : AI c (.Name x px) iter s fun xs Φ s1 => LcP c scope elt (.Name x px) ifs i0 (ow.map (·.2)) own (fun d s => PO' (.nx ⟨s.r.set iy (some d), s.o⟩)) xs Φ s1)
    (hs : ∀ env y, foldedSetIterable iter env y = pure y := by intro _ _; rfl) (eN : c.N = N0 := by rfl) (eS : c.sc = sc0 := by rfl) : AS c (.Assign [.Name y py] (.ListComp elt [⟨.Name x px, iter, ifs, 0⟩] scope pos) spos) s PO' := by
  refine ⟨?_⟩
  intro X hX σ τ τv H R E hq
  refine WS.of (ps_setLc (own := ow) (g := gName i0) hX.calm (by rw [hX.N]; exact hX.nd) (by rw [hX.N]; exact hy) (by rw [hX.sc]; exact hyl) (sw_true (by rw [hX.sc]; exact hk) (by rw [hX.sc]; exact hyl) hln ha) pi_w (blkOk_by (by rw [hX.N, hX.sc, eN, eS]; exact ok)) (fun s0 H0 C cl fp => ?_) (fun s0 H0 C cl fp => pts_of hlen s0 H0 C cl fp) (fun s0 H0 C cl fp => ⟨fun p s σ H Q I q => q s0 H0 C cl fp p s I⟩) (hs _))
    (lc_read (Q := fun x H1 => gName iy x σ H1 E.nx) hX h hi0 R (fun d s' v H' hp R' => hq.nx _ _ _ hp R'.set) hlen)
  have hY := xc_blk hX (scope := scope) s0 H0 C cl fp
  exact pg_name (by rw [hY.N]; exact hY.nd) (by rw [hY.N]; exact hN) (loc_of hY (.inl hx)) (fn_of' hY (.inr hx))
end
end G9

namespace G9
open PySem PySem.Spec PyProof.Rows L2
variable {c : SC}
/-! ### a call: the callee sees only the objects that are handed to it -/
mutual
def D.ren (f : Nat → Nat) : D → D
  | .tup ds => .tup (D.renL f ds)
  | .lst ds => .lst (D.renL f ds)
  | .ob j => .ob (f j)
  | .non => .non
  | .bl b => .bl b
  | .int i => .int i
  | .str l => .str l
  | .ty n => .ty n
def D.renL (f : Nat → Nat) : List D → List D
  | [] => []
  | d :: ds => D.ren f d :: D.renL f ds
end
theorem D.rmap {f : Nat → Nat} : ∀ {ds : List D}, D.renL f ds = ds.map (D.ren f)
  | [] => rfl
  | d :: ds => by rw [D.renL, D.rmap, List.map_cons]
mutual
theorem D.ren_closed {f : Nat → Nat} : ∀ {d : D}, D.bnd 0 d → D.ren f d = d
  | .non, _ => rfl
  | .bl _, _ => rfl
  | .int _, _ => rfl
  | .str _, _ => rfl
  | .tup ds, h => by
    unfold D.bnd at h
    unfold D.ren
    rw [D.renL_closed h]
  | .lst ds, h => by
    unfold D.bnd at h
    unfold D.ren
    rw [D.renL_closed h]
  | .ob j, h => by
    unfold D.bnd at h
    exact absurd h (Nat.not_lt_zero _)
  | .ty _, _ => rfl
theorem D.renL_closed {f : Nat → Nat} : ∀ {ds : List D}, D.bndL 0 ds → D.renL f ds = ds
  | [], _ => rfl
  | d :: ds, h => by
    unfold D.renL
    rw [D.ren_closed h.1, D.renL_closed h.2]
end
def Ob.ren (f : Nat → Nat) : Ob → Ob
  | .lst ds => .lst (D.renL f ds)
  | .dead => .dead
  | .ext x ds => .ext x (D.renL f ds)
  | .dct tb kvs => .dct tb (kvs.map fun p => (D.ren f p.1, D.ren f p.2))
theorem dct_flat (f : Nat → Nat) (kvs : List (D × D)) : (kvs.map fun p => (D.ren f p.1, D.ren f p.2)).map (·.1) ++ (kvs.map fun p => (D.ren f p.1, D.ren f p.2)).map (·.2) = D.renL f (kvs.map (·.1) ++ kvs.map (·.2)) := by
  rw [D.rmap, List.map_append, List.map_map, List.map_map, List.map_map, List.map_map]
  rfl
mutual
theorem nkD_ren (f : Nat → Nat) : ∀ {d : D}, nkD (D.ren f d) = nkD d
  | .non => rfl
  | .bl _ => rfl
  | .int _ => rfl
  | .str _ => rfl
  | .tup ds => by
    unfold D.ren nkD
    rw [nkDs_ren f]
  | .lst ds => by
    unfold D.ren nkD
    rfl
  | .ob j => by
    unfold D.ren nkD
    rfl
  | .ty _ => rfl
theorem nkDs_ren (f : Nat → Nat) : ∀ {ds : List D}, nkDs (D.renL f ds) = nkDs ds
  | [] => by
    unfold D.renL
    rfl
  | d :: ds => by
    unfold D.renL nkDs
    rw [nkD_ren f, nkDs_ren f]
end
theorem DRep.ren {tb : Kd} {w : World} {H : Hp} {a : Addr} {vks : List (V × V)} {dks dks' : List D} (h : DRep tb w H a vks dks) (e : dks'.map nkD = dks.map nkD) : DRep tb w H a vks dks' := by
  rcases h with h | ⟨nk, h1, h2, h3, h4⟩
  · exact .inl h
  · exact .inr ⟨nk, h1, h2, h3, e.trans h4.1, h4.2⟩
theorem dct_keys (f : Nat → Nat) (kvs : List (D × D)) : ((kvs.map fun p => (D.ren f p.1, D.ren f p.2)).map (·.1)).map nkD = (kvs.map (·.1)).map nkD := by
  rw [List.map_map, List.map_map, List.map_map]
  refine List.map_congr_left fun p _ => ?_
  show nkD (D.ren f p.1) = nkD p.1
  exact nkD_ren f
theorem Ob.ren_closed {f : Nat → Nat} {o : Ob} (h : Ob.bnd 0 o) : Ob.ren f o = o := by
  cases o with
  | lst ds =>
    show Ob.lst (D.renL f ds) = .lst ds
    rw [D.renL_closed h]
  | ext x ds =>
    show Ob.ext x (D.renL f ds) = .ext x ds
    rw [D.renL_closed h]
  | dead => rfl
  | dct tb kvs =>
    have h : D.bndL 0 (kvs.map (·.1) ++ kvs.map (·.2)) := h
    rw [D.bndL_iff] at h
    show Ob.dct tb (kvs.map fun p => (D.ren f p.1, D.ren f p.2)) = .dct tb kvs
    congr 1
    refine (List.map_congr_left (g := id) fun p hp => ?_).trans (List.map_id _)
    have h1 := h p.1 (List.mem_append_left _ (List.mem_map_of_mem hp))
    have h2 := h p.2 (List.mem_append_right _ (List.mem_map_of_mem hp))
    rw [D.ren_closed h1, D.ren_closed h2]
    rfl
section
variable {K : PySem.W.Frag} {F : Hp} {os os' : List Addr} {f : Nat → Nat}
mutual
theorem Rp.ren (h : ∀ (j : Nat) (a : Addr), os[j]? = some a → os'[f j]? = some a) : ∀ {v : V} {d : D}, Rp K F os v d → Rp K F os' v (D.ren f d)
  | _, _, .non => by
    unfold D.ren
    exact .non
  | _, _, .bl b => by
    unfold D.ren
    exact .bl b
  | _, _, .int i => by
    unfold D.ren
    exact .int i
  | _, _, .str l => by
    unfold D.ren
    exact .str l
  | _, _, .tup q r => by
    unfold D.ren
    exact .tup q (RpL.ren h r)
  | _, _, .lst q r => by
    unfold D.ren
    exact .lst q (RpL.ren h r)
  | _, _, .ob q => by
    unfold D.ren
    exact .ob (h _ _ q)
  | _, _, .ty n => by
    unfold D.ren
    exact .ty n
theorem RpL.ren (h : ∀ (j : Nat) (a : Addr), os[j]? = some a → os'[f j]? = some a) : ∀ {vs : List V} {ds : List D}, RpL K F os vs ds → RpL K F os' vs (D.renL f ds)
  | _, _, .nil => by
    unfold D.renL
    exact .nil
  | _, _, .cons q r => by
    unfold D.renL
    exact .cons (Rp.ren h q) (RpL.ren h r)
end
mutual
theorem Rp.unren {n : Nat} (h : ∀ (j : Nat) (a : Addr), j < n → os[f j]? = some a → os'[j]? = some a) : ∀ {v : V} {d : D}, Rp K F os v (D.ren f d) → D.bnd n d → Rp K F os' v d
  | _, .non, q, _ => by
    unfold D.ren at q
    cases q
    exact .non
  | _, .bl b, q, _ => by
    unfold D.ren at q
    cases q
    exact .bl b
  | _, .int i, q, _ => by
    unfold D.ren at q
    cases q
    exact .int i
  | _, .str l, q, _ => by
    unfold D.ren at q
    cases q
    exact .str l
  | _, .tup ds, q, b => by
    unfold D.ren at q
    unfold D.bnd at b
    cases q with
    | tup q r => exact .tup q (RpL.unren h r b)
  | _, .lst ds, q, b => by
    unfold D.ren at q
    unfold D.bnd at b
    cases q with
    | lst q r => exact .lst q (RpL.unren h r b)
  | _, .ob j, q, b => by
    unfold D.ren at q
    unfold D.bnd at b
    cases q with
    | ob q => exact .ob (h _ _ b q)
  | _, .ty n, q, _ => by
    unfold D.ren at q
    cases q
    exact .ty n
theorem RpL.unren {n : Nat} (h : ∀ (j : Nat) (a : Addr), j < n → os[f j]? = some a → os'[j]? = some a) : ∀ {vs : List V} {ds : List D}, RpL K F os vs (D.renL f ds) → D.bndL n ds → RpL K F os' vs ds
  | _, [], q, _ => by
    unfold D.renL at q
    cases q
    exact .nil
  | _, d :: ds, q, b => by
    unfold D.renL at q
    cases q with
    | cons q r => exact .cons (Rp.unren h q b.1) (RpL.unren h r b.2)
end
end
/-- the callee's object i is the caller's -/
def idF (js : List Nat) (n : Nat) (i : Nat) : Nat := match js[i]? with
  | some j => j
  | none => n + (i - js.length)
/-- the caller's table behind the call -/
def putO (js : List Nat) (o : List Ob) (O' : List Ob) : List Ob := (List.range o.length).map (fun j => match js.findIdx? (· == j) with
    | some i => (O'.getD i .dead).ren (idF js o.length)
    | none => o.getD j .dead) ++ (O'.drop js.length).map (Ob.ren (idF js o.length))
/-- one object handed: the simple form -/
theorem putO_nil {o O' : List Ob} : putO [] o O' = o ++ O'.map (Ob.ren (idF [] o.length)) := by
  unfold putO
  congr 1
  refine List.ext_getElem? fun i => ?_
  rcases Nat.lt_or_ge i o.length with h | h
  · simp [h]
  · simp [h]
theorem putO_one {o : List Ob} {j : Nat} {x : Ob} {O' : List Ob} : putO [j] o (x :: O') = o.set j (x.ren (idF [j] o.length)) ++ O'.map (Ob.ren (idF [j] o.length)) := by
  unfold putO
  congr 1
  refine List.ext_getElem? fun i => ?_
  rcases Nat.lt_or_ge i o.length with h | h
  · by_cases e : j = i
    · subst e
      simp [h]
    · simp [h, e, List.getElem?_set_ne]
  · simp [h]
section
variable {s : Sta} {P : D → Sta → Prop} {e : Expr} {es : List Expr} {pos p : Pos} {x : Str}
theorem find_js {js : List Nat} (nd : js.Nodup) {i j : Nat} (h : js[i]? = some j) : js.findIdx? (· == j) = some i := by
  obtain ⟨hi, e⟩ := List.getElem?_eq_some_iff.mp h
  rw [List.findIdx?_eq_some_iff_getElem]
  refine ⟨hi, by simpa using e, fun k hk => ?_⟩
  simp only [beq_iff_eq]
  intro q
  have := (List.getElem_inj nd).mp (q.trans e.symm)
  omega
theorem find_none {js : List Nat} {j : Nat} (h : j ∉ js) : js.findIdx? (· == j) = none := by
  rw [List.findIdx?_eq_none_iff]
  intro x hx
  simp only [beq_eq_false_iff_ne]
  exact fun q => h (q ▸ hx)
theorem ae_callJ {kf : Nat} {R : Spec} (js : List Nat) (nd : js.Nodup) (C : CalA c.prog c.w c.K c.mg c.base kf x R) (hk : kf ≤ c.k)
    (h : AA c (e :: es) s fun ds s1 => ∃ (dl : List D) (Ol : List Ob), ds = D.renL (idF js 0) dl ∧ D.bndL js.length dl ∧ js.length = Ol.length ∧ (∀ (i j : Nat), js[i]? = some j → ∃ ob, Ol[i]? = some ob ∧ s1.o[j]? = some (ob.ren (idF js 0)) ∧ Ob.bnd js.length ob) ∧
      R dl Ol fun d O' => js.length ≤ O'.length → P (D.ren (idF js s1.o.length) d) ⟨s1.r, putO js s1.o O'⟩)
    (hg : IsG c x := by rfl) (hdb : (x == ("__debug__" : Str)) = false := by decide) (he : ∀ env, starEach (e :: es) env = (false, eval e env) :: starEach es env := by intro _; rfl)
    (hpl : ∀ env, (backTo pos (starEach es env)).any (·.1) = false := by intro _; rfl) : AE c (.Call (.Name x p) (e :: es) [] pos) s P := by
  refine ⟨?_⟩
  intro X hX σ τ τv H Rp0 Q hq
  obtain ⟨f, fd, ps, F, hm, kp, hb⟩ := C.ex
  refine WE.of (pe_call (fn_at hX F) (hX.room.mono hk) (gl_of hX hg) (by rw [hX.mg]; exact hm) (by rw [hX.K]; exact kp) (by rw [hX.K]; exact hb) .nil pass0 pa_w hdb (he _) (hpl _)) ?_
  refine h X hX σ τ τv H Rp0 _ fun ds s1 vs H1 h1 hl R1 => ?_
  obtain ⟨dl, Ol, rfl, hb1, hlen, hob, hR⟩ := h1
  obtain ⟨F1, os1, a1, b1, e1, r1⟩ := R1
  obtain ⟨ra, rb⟩ := RpL.split hl r1
  rw [List.append_nil]
  -- the addresses that the callee sees
  have hjl : ∀ {i j : Nat}, js[i]? = some j → j < os1.length := fun {i j} hij => by
    obtain ⟨ob, _, h2, _⟩ := hob i j hij
    rw [a1.len]
    exact (List.getElem?_eq_some_iff.mp h2).1
  let osc : List Addr := js.map fun j => os1.getD j 0
  have hosc : ∀ {i j : Nat}, js[i]? = some j → osc[i]? = os1[j]? := fun {i j} hij => by
    show (js.map _)[i]? = _
    rw [List.getElem?_map, hij]
    show some (os1.getD j 0) = _
    rw [List.getD_eq_getElem?_getD, List.getElem?_eq_getElem (hjl hij)]
    rfl
  have idlt : ∀ {i : Nat} {n : Nat}, i < js.length → ∃ j, js[i]? = some j ∧ idF js n i = j := fun {i n} hi => by
    refine ⟨js[i], List.getElem?_eq_getElem hi, ?_⟩
    unfold idF
    rw [List.getElem?_eq_getElem hi]
  have un : ∀ (i : Nat) (a : Addr), i < js.length → os1[idF js 0 i]? = some a → osc[i]? = some a := fun i a hi q => by
    obtain ⟨j, h1, h2⟩ := idlt (n := 0) hi
    rw [hosc h1, ← h2]
    exact q
  have mem_osc : ∀ {a : Addr}, a ∈ osc → ∃ (i j : Nat), js[i]? = some j ∧ os1[j]? = some a ∧ osc[i]? = some a := fun {a} ha => by
    obtain ⟨i, hi, e⟩ := List.getElem_of_mem ha
    have hi' : i < js.length := by simpa [osc] using hi
    obtain ⟨j, h1, _⟩ := idlt (n := 0) hi'
    have h2 : osc[i]? = some a := by rw [List.getElem?_eq_getElem hi, e]
    exact ⟨i, j, h1, (hosc h1) ▸ h2, h2⟩
  have sub : ∀ {a : Addr}, a ∈ osc → a ∈ os1 := fun ha => by
    obtain ⟨i, j, _, h2, _⟩ := mem_osc ha
    exact List.mem_of_getElem? h2
  have ec : Ent c.w c.K F1 H1 osc Ol := by
    refine ⟨a1.ex, by simp [osc, hlen], ?_, fun a ha => a1.al a (sub ha), fun i a ob q1 q2 => ?_, fun i a ob q1 q2 q3 => ?_⟩
    · refine List.pairwise_iff_getElem.mpr fun i k hi' hk' hik q => ?_
      have hk2 : k < js.length := by simpa [osc] using hk'
      have q : osc[i]? = osc[k]? := by rw [List.getElem?_eq_getElem hi', List.getElem?_eq_getElem hk', q]
      obtain ⟨ji, h1, _⟩ := idlt (n := 0) (show i < js.length by omega)
      obtain ⟨jk, h2, _⟩ := idlt (n := 0) hk2
      rw [hosc h1, hosc h2] at q
      have e3 : ji = jk := by
        rw [List.getElem?_eq_getElem (hjl h1), List.getElem?_eq_getElem (hjl h2)] at q
        exact (List.getElem_inj a1.nd).mp (Option.some.inj q)
      subst e3
      obtain ⟨hi1, e1'⟩ := List.getElem?_eq_some_iff.mp h1
      obtain ⟨hi2, e2'⟩ := List.getElem?_eq_some_iff.mp h2
      have := (List.getElem_inj nd).mp (e1'.trans e2'.symm)
      omega
    · have hi : i < js.length := by
        rw [hlen]
        exact (List.getElem?_eq_some_iff.mp q2).1
      obtain ⟨j, h1, _⟩ := idlt (n := 0) hi
      obtain ⟨ob', h2, h3, h4⟩ := hob i j h1
      rw [q2] at h2
      cases h2
      rw [hosc h1] at q1
      have z := a1.obj j a _ q1 h3
      cases ob with
      | dead => trivial
      | lst ds =>
        obtain ⟨ws, z1, z2⟩ := z
        exact ⟨ws, z1, z2.unren un h4⟩
      | dct tb kvs =>
        obtain ⟨ws, z1, z2⟩ := z
        rw [dct_flat] at z2
        exact ⟨ws, z1.ren (dct_keys _ kvs).symm, z2.unren un h4⟩
      | ext x ds =>
        obtain ⟨ho, ws, z1, z0, z2⟩ := z
        exact ⟨ho, ws, z1, z0, z2.unren un h4⟩
    · have hi : i < js.length := by
        rw [hlen]
        exact (List.getElem?_eq_some_iff.mp q2).1
      obtain ⟨j, h1, _⟩ := idlt (n := 0) hi
      obtain ⟨ob', h2, h3, h4⟩ := hob i j h1
      rw [q2] at h2
      cases h2
      rw [hosc h1] at q1
      refine a1.nf j a _ q1 h3 fun z => q3 ?_
      cases ob with
      | dead => rfl
      | lst ds =>
        unfold Ob.ren at z
        cases z
      | dct tb ds =>
        unfold Ob.ren at z
        cases z
      | ext x ds =>
        unfold Ob.ren at z
        cases z
  refine ⟨dl, F1, osc, Ol, _, ec, ra.unren un hb1, hR, fun d O' F' os' H' v hp ext ent rp => ?_⟩
  -- behind the call
  obtain ⟨t, ht⟩ := ext.pre
  have oscl : osc.length = js.length := by simp [osc]
  have hO' : js.length ≤ O'.length := by
    rw [← ent.len, ht, List.length_append, oscl]
    omega
  let os2 := os1 ++ t
  have tnew : ∀ {a : Addr}, a ∈ t → H1 a = none := fun {a} ha => by
    rcases ext.fresh a (by rw [ht]; exact List.mem_append_right _ ha) with q | q
    · have nd' := ent.nd
      rw [ht] at nd'
      exact absurd rfl ((List.nodup_append.mp nd').2.2 a q a ha)
    · exact q
  have map : ∀ (i : Nat) (a : Addr), os'[i]? = some a → os2[idF js s1.o.length i]? = some a := fun i a q => by
    rw [ht] at q
    by_cases hi : i < js.length
    · obtain ⟨j, h1, h2⟩ := idlt (n := s1.o.length) hi
      rw [List.getElem?_append_left (by omega), hosc h1] at q
      rw [h2]
      show (os1 ++ t)[j]? = _
      rw [List.getElem?_append_left (hjl h1)]
      exact q
    · rw [List.getElem?_append_right (by omega), oscl] at q
      have : idF js s1.o.length i = s1.o.length + (i - js.length) := by
        unfold idF
        rw [List.getElem?_eq_none (by omega)]
      rw [this]
      show (os1 ++ t)[_]? = _
      rw [List.getElem?_append_right (by rw [a1.len]; omega), a1.len, Nat.add_sub_cancel_left]
      exact q
  have p0 : ∃ t, os2 = os1 ++ t := ⟨t, rfl⟩
  have keep : ∀ b, H1 b ≠ none → H' b ≠ none := fun b hb q => by
    by_cases hbo : b ∈ osc
    · exact ent.al b (by rw [ht]; exact List.mem_append_left _ hbo) q
    · cases z : H1 b with
      | none => exact hb z
      | some o =>
        rw [ext.kept b o z hbo] at q
        cases q
  have putl : (putO js s1.o O').length = s1.o.length + (O'.length - js.length) := by
    unfold putO
    simp
  have obj2 : ∀ (j : Nat) (a : Addr) (ob : Ob), os2[j]? = some a → (putO js s1.o O')[j]? = some ob →
      (∃ (i : Nat) (o' : Ob), os'[i]? = some a ∧ O'[i]? = some o' ∧ ob = o'.ren (idF js s1.o.length)) ∨ (a ∉ osc ∧ H1 a ≠ none ∧ a ∈ os1 ∧ os1[j]? = some a ∧ s1.o[j]? = some ob) := fun j a ob q1 q2 => by
    have q1' : (os1 ++ t)[j]? = some a := q1
    by_cases hj : j < os1.length
    · rw [List.getElem?_append_left hj] at q1'
      have hjo : j < s1.o.length := a1.len ▸ hj
      unfold putO at q2
      rw [List.getElem?_append_left (by simpa using hjo), List.getElem?_map, List.getElem?_range hjo] at q2
      by_cases hm : j ∈ js
      · obtain ⟨i, hi, e⟩ := List.getElem_of_mem hm
        have hij : js[i]? = some j := by rw [List.getElem?_eq_getElem hi, e]
        have q3 : some ((O'.getD i .dead).ren (idF js s1.o.length)) = some ob := by
          have := find_js nd hij
          simpa [this] using q2
        refine .inl ⟨i, O'[i]'(by omega), ?_, List.getElem?_eq_getElem _, ?_⟩
        · rw [ht, List.getElem?_append_left (by omega), hosc hij]
          exact q1'
        · have := Option.some.inj q3
          rw [List.getD_eq_getElem?_getD, List.getElem?_eq_getElem (by omega)] at this
          exact this.symm
      · have q3 : some (s1.o.getD j .dead) = some ob := by
          have := find_none hm
          simpa [this] using q2
        have q4 : s1.o[j]? = some ob := by
          rw [← q3, List.getD_eq_getElem?_getD, List.getElem?_eq_getElem hjo]
          rfl
        refine .inr ⟨fun z => ?_, a1.al a (List.mem_of_getElem? q1'), List.mem_of_getElem? q1', q1', q4⟩
        obtain ⟨i, j', h1, h2, _⟩ := mem_osc z
        have := ix_inj a1.nd q1' h2
        subst this
        exact hm (List.mem_of_getElem? h1)
    · rw [List.getElem?_append_right (by omega)] at q1'
      unfold putO at q2
      rw [List.getElem?_append_right (by simp [a1.len] at hj ⊢; omega), List.getElem?_map, List.length_map, List.length_range, List.getElem?_drop] at q2
      cases q3 : O'[js.length + (j - s1.o.length)]? with
      | none =>
        rw [q3] at q2
        cases q2
      | some o' =>
        rw [q3] at q2
        refine .inl ⟨js.length + (j - s1.o.length), o', ?_, q3, (Option.some.inj q2).symm⟩
        rw [ht, List.getElem?_append_right (by omega), oscl, Nat.add_sub_cancel_left, ← a1.len]
        exact q1'
  have F'old : ∀ a, a ∈ os1 → a ∉ osc → F' a = F1 a := fun a ha hn => ext.old a (a1.al a ha) hn
  refine hq _ ⟨s1.r, putO js s1.o O'⟩ v H' (hp hO') ⟨F', os2, ⟨ent.ex, ?_, ?_, fun a ha => ?_, fun j a ob q1 q2 => ?_, fun j a ob q1 q2 q3 => ?_⟩, ⟨b1.ff.trans ext.ff, fun b hb hn => ?_, fun b o hb hn => ?_, ?_, fun a ha => ?_⟩, e1.mono ext.ff p0, .cons (rp.ren map) (rb.mono ext.ff p0)⟩
  · show os2.length = (putO js s1.o O').length
    rw [putl]
    show (os1 ++ t).length = _
    have := ent.len
    rw [ht, List.length_append, oscl] at this
    rw [List.length_append, a1.len]
    omega
  · refine List.nodup_append.mpr ⟨a1.nd, ?_, fun a ha b hb z => ?_⟩
    · have nd' := ent.nd
      rw [ht] at nd'
      exact (List.nodup_append.mp nd').2.1
    · subst z
      exact a1.al a ha (tnew hb)
  · rcases List.mem_append.mp ha with ha | ha
    · exact keep a (a1.al a ha)
    · exact ent.al a (by rw [ht]; exact List.mem_append_right _ ha)
  · rcases obj2 j a ob q1 q2 with ⟨i, o', z1, z2, rfl⟩ | ⟨z1, z2, z3, z4, z5⟩
    · have z := ent.obj i a o' z1 z2
      cases o' with
      | dead => trivial
      | lst ds =>
        obtain ⟨ws, y1, y2⟩ := z
        exact ⟨ws, y1, y2.ren map⟩
      | dct tb kvs =>
        obtain ⟨ws, y1, y2⟩ := z
        refine ⟨ws, y1.ren (dct_keys _ kvs), ?_⟩
        rw [dct_flat]
        exact y2.ren map
      | ext x ds =>
        obtain ⟨ho, ws, y1, y0, y2⟩ := z
        exact ⟨ho, ws, y1, y0, y2.ren map⟩
    · have z := a1.obj j a ob z4 z5
      cases ob with
      | dead => trivial
      | lst ds =>
        obtain ⟨ws, y1, y2⟩ := z
        exact ⟨ws, ext.kept a _ y1 z1, y2.mono ext.ff p0⟩
      | dct tb kvs =>
        obtain ⟨ws, y1, y2⟩ := z
        exact ⟨ws, y1.keep fun o q => ext.kept a o q z1, y2.mono ext.ff p0⟩
      | ext x ds =>
        obtain ⟨ho, ws, y1, y0, y2⟩ := z
        exact ⟨ho, ws, ext.kept a _ y1 z1, x.mono _ _ _ _ _ ext.ff y0, y2.mono ext.ff p0⟩
  · rcases obj2 j a ob q1 q2 with ⟨i, o', z1, z2, rfl⟩ | ⟨z1, z2, z3, z4, z5⟩
    · refine ent.nf i a o' z1 z2 fun z => q3 ?_
      rw [z]
      rfl
    · rw [F'old a z3 z1]
      exact a1.nf j a ob z4 z5 q3
  · have nos : b ∉ os1 := fun z => by
      rcases b1.fresh b z with y | y
      · exact hn y
      · exact hb y
    have hH1 : H1 b ≠ none := fun z => by
      cases y : c.H0 b with
      | none => exact hb y
      | some o =>
        rw [b1.kept b o y hn] at z
        cases z
    rw [ext.old b hH1 fun z => nos (sub z), b1.old b hb hn]
  · have nos : b ∉ os1 := fun z => by
      rcases b1.fresh b z with y | y
      · exact hn y
      · rw [hb] at y
        cases y
    exact ext.kept b o (b1.kept b o hb hn) fun z => nos (sub z)
  · obtain ⟨u, hu⟩ := b1.pre
    exact ⟨u ++ t, by show os1 ++ t = _; rw [hu, List.append_assoc]⟩
  · rcases List.mem_append.mp ha with ha | ha
    · exact b1.fresh a ha
    · have := tnew ha
      by_cases hm' : a ∈ c.os0
      · exact .inl hm'
      · refine .inr ?_
        cases y : c.H0 a with
        | none => rfl
        | some o =>
          rw [b1.kept a o y hm'] at this
          cases this
/-- data without objects are handed -/
theorem ae_call0 {kf : Nat} {R : Spec} (C : CalA c.prog c.w c.K c.mg c.base kf x R) (hk : kf ≤ c.k) (h : AA c (e :: es) s fun ds s1 => D.bndL 0 ds ∧ R ds [] fun d O' => P (D.ren (idF [] s1.o.length) d) ⟨s1.r, s1.o ++ O'.map (Ob.ren (idF [] s1.o.length))⟩)
    (hg : IsG c x := by rfl) (hdb : (x == ("__debug__" : Str)) = false := by decide) (he : ∀ env, starEach (e :: es) env = (false, eval e env) :: starEach es env := by intro _; rfl)
    (hpl : ∀ env, (backTo pos (starEach es env)).any (·.1) = false := by intro _; rfl) : AE c (.Call (.Name x p) (e :: es) [] pos) s P :=
  ae_callJ [] (by simp) C hk (.mk fun X hX σ τ τv H R Q hq => h X hX σ τ τv H R Q fun ds s1 vs H1 ⟨h1, h2⟩ hl R1 => hq ds s1 vs H1 ⟨ds, [], (D.renL_closed h1).symm, h1, rfl, fun i j h => by simp at h,
    C.mono _ _ _ _ (fun d O' q _ => by rw [putO_nil]; exact q) h2⟩ hl R1) hg hdb he hpl
/-- one object is handed -/
theorem ae_call1 {kf : Nat} {R : Spec} (j : Nat) (C : CalA c.prog c.w c.K c.mg c.base kf x R) (hk : kf ≤ c.k) (h : AA c (e :: es) s fun ds s1 => ∃ (dl : List D) (ob : Ob), ds = D.renL (idF [j] 0) dl ∧ D.bndL 1 dl ∧ s1.o[j]? = some ob ∧ Ob.bnd 0 ob ∧
      R dl [ob] fun d O' => ∀ x O2, O' = x :: O2 → P (D.ren (idF [j] s1.o.length) d) ⟨s1.r, s1.o.set j (x.ren (idF [j] s1.o.length)) ++ O2.map (Ob.ren (idF [j] s1.o.length))⟩)
    (hg : IsG c x := by rfl) (hdb : (x == ("__debug__" : Str)) = false := by decide) (he : ∀ env, starEach (e :: es) env = (false, eval e env) :: starEach es env := by intro _; rfl)
    (hpl : ∀ env, (backTo pos (starEach es env)).any (·.1) = false := by intro _; rfl) : AE c (.Call (.Name x p) (e :: es) [] pos) s P :=
  ae_callJ [j] (by simp) C hk (.mk fun X hX σ τ τv H R Q hq => h X hX σ τ τv H R Q fun ds s1 vs H1 ⟨dl, ob, h1, h2, h3, h4, h5⟩ hl R1 => hq ds s1 vs H1 ⟨dl, [ob], h1, h2, rfl, fun i j' h => by
      match i, h with
      | 0, h =>
        cases h
        exact ⟨ob, rfl, by rw [Ob.ren_closed h4]; exact h3, by
          cases ob with
          | dead => trivial
          | dct tb ds => exact D.bndL_le (Nat.zero_le _) h4
          | ext x ds => exact D.bndL_le (Nat.zero_le _) h4
          | lst ds => exact D.bndL_le (Nat.zero_le _) h4⟩,
    C.mono _ _ _ _ (fun d O' q hl => by
      match O', hl, q with
      | x :: O2, _, q =>
        rw [putO_one]
        exact q x O2 rfl) h5⟩ hl R1) hg hdb he hpl
end
section
variable {s : Sta} {P : D → Sta → Prop}
def JP (Mid : Sta → Prop) (P : Out → Prop) : Out → Prop
  | .nx s => Mid s
  | .rt d s => P (.rt d s)
  | .bk s => P (.bk s)
  | .ct s => P (.ct s)
/-- an if whose two ways meet -/
theorem as_ifJ {e : Expr} {t u : List Stmt} {pos : Pos} {P : Out → Prop} (Mid : Sta → Prop) (h : AT c e s fun k s1 => if k = true then ASs c t s1 (JP Mid P) else ASs c u s1 (JP Mid P)) (j : ∀ s, Mid s → P (.nx s)) : AS c (.If e t u pos) s P :=
  as_if (h.mono fun k s1 q => by
    have go : ∀ {st : List Stmt}, ASs c st s1 (JP Mid P) → ASs c st s1 P := fun q => .mk fun X hX σ τ τv H R E hq => q X hX σ τ τv H R E ⟨fun s' σ' H' h1 R1 => hq.nx s' σ' H' (j s' h1) R1, fun d s' σ' v H' h1 R1 => hq.rt d s' σ' v H' h1 R1, fun s' σ' H' h1 R1 => hq.bk s' σ' H' h1 R1, fun s' σ' H' h1 R1 => hq.ct s' σ' H' h1 R1⟩
    cases k with
    | true => exact go q
    | false => exact go q)
/-- the name at place i -/
theorem nm (i : Nat) {x : Str} {pos : Pos} {d : D} (h : P d s) (hi : c.N[i]? = some x := by rfl) (hd : s.r[i]? = some (some d) := by rfl) (hv : Vis c.sc x := by first | exact Or.inl rfl | exact Or.inr (Or.inl rfl) | exact Or.inr (Or.inr rfl))
    (h1 : (x == ("__debug__" : Str)) = false := by decide) (h2 : (x == ("__classdict__" : Str)) = false := by decide) : AE c (.Name x pos) s P := ae_name hi hd h hv h1 h2
end
end G9

namespace G9
open PySem PySem.Spec PyProof.Rows L2
variable {c : SC}
theorem CalA.mk' {P : Program} {w : World} {K : PySem.W.Frag} {mg : Str → Option Value} {base : Heap} {x qual : Str} {st : Stmt} {f : Addr} {fd : FuncData} {ps : List Str} {k : Nat} {R : Spec} (F : Fun K x qual st f fd) (h : FnOk P w K mg base CX0 k f fd ps (spA w K R)) (hm : mg x = some (.ref f)) (hb : Binds K fd ps []) (mono : ∀ ds O Q Q', (∀ d O', Q d O' → Q' d O') → R ds O Q → R ds O Q') : CalA P w K mg base k x R := ⟨⟨f, fd, ps, h, hm, F.kp, hb⟩, mono⟩
theorem CalA.le {P : Program} {w : World} {K : PySem.W.Frag} {mg : Str → Option Value} {base : Heap} {x : Str} {j k : Nat} {R : Spec} (C : CalA P w K mg base j x R) (h : j ≤ k) : CalA P w K mg base k x R := by
  obtain ⟨⟨f, fd, ps, F, a, b, d⟩, m⟩ := C
  exact ⟨⟨f, fd, ps, F.mono h, a, b, d⟩, m⟩
/-! ### plain lists have no objects -/
theorem bndL_map {α : Type} {n : Nat} {f : α → D} {l : List α} (h : ∀ x, D.bnd n (f x)) : D.bndL n (l.map f) := D.bndL_iff.mpr fun d hd => by
  obtain ⟨x, _, rfl⟩ := List.mem_map.mp hd
  exact h x
theorem bnd_ints {n : Nat} {l : List Int} : D.bndL n (l.map D.int) := bndL_map fun _ => trivial
theorem bnd_strs {n : Nat} {l : List (List Nat)} : D.bndL n (l.map D.str) := bndL_map fun _ => trivial
theorem bnd_bls {n : Nat} {l : List Bool} : D.bndL n (l.map D.bl) := bndL_map fun _ => trivial
theorem ren_ints {f : Nat → Nat} {l : List Int} : D.renL f (l.map D.int) = l.map D.int := D.renL_closed bnd_ints
theorem ren_strs {f : Nat → Nat} {l : List (List Nat)} : D.renL f (l.map D.str) = l.map D.str := D.renL_closed bnd_strs
theorem oren_ints {f : Nat → Nat} {l : List Int} : Ob.ren f (.lst (l.map D.int)) = .lst (l.map D.int) := Ob.ren_closed bnd_ints
theorem oren_strs {f : Nat → Nat} {l : List (List Nat)} : Ob.ren f (.lst (l.map D.str)) = .lst (l.map D.str) := Ob.ren_closed bnd_strs
theorem map_at {α : Type} {f : α → D} {ns : List α} {i : Nat} {d : D} (h : (ns.map f)[i]? = some d) : ∃ n, ns[i]? = some n ∧ d = f n := by
  rw [List.getElem?_map] at h
  cases q : ns[i]? with
  | none =>
    rw [q] at h
    cases h
  | some n =>
    rw [q] at h
    exact ⟨n, rfl, (Option.some.inj h).symm⟩
theorem at_map {α : Type} {f : α → D} {ns : List α} {i : Nat} {n : α} (h : ns[i]? = some n) : (ns.map f)[i]? = some (f n) := by
  rw [List.getElem?_map, h]
  rfl
/-- an item at an int in bounds -/
theorem atI_in {α : Type} {xs : List α} {i : Int} (h0 : 0 ≤ i) (h1 : i < xs.length) : ∃ x, xs[i.toNat]? = some x ∧ atI xs i = some x := by
  have hl : i.toNat < xs.length := by omega
  refine ⟨xs[i.toNat], List.getElem?_eq_getElem hl, ?_⟩
  have e : ((i.toNat : Nat) : Int) = i := by omega
  have q := atI_nat (List.getElem?_eq_getElem hl)
  rw [e] at q
  exact q
theorem all_flat_strs (l : List (List Nat)) : (l.map D.str).all flatD = true := by
  rw [List.all_map]
  exact List.all_eq_true.mpr fun _ _ => rfl
theorem all_flat_ints (l : List Int) : (l.map D.int).all flatD = true := by
  rw [List.all_map]
  exact List.all_eq_true.mpr fun _ _ => rfl
theorem inD_strs {x : List Nat} {l : List (List Nat)} : inD (.str x) (l.map D.str) = decide (x ∈ l) := by
  unfold inD
  rw [List.any_map, Bool.eq_iff_iff]
  simp [eqF]
theorem inD_ints {x : Int} {l : List Int} : inD (.int x) (l.map D.int) = decide (x ∈ l) := by
  unfold inD
  rw [List.any_map, Bool.eq_iff_iff]
  simp [eqF]
section
variable {s : Sta} {P : D → Sta → Prop} {a b e : Expr} {pos p : Pos} {x : Str}
/-- a state in another writing -/
theorem ass_at {st : List Stmt} {P : Out → Prop} (s' : Sta) (h : ASs c st s' P) (e : s = s' := by rfl) : ASs c st s P := e ▸ h
/-! ### text * int, list + list -/
def repN (n : Nat) (l : List Nat) : List Nat := (List.replicate n l).flatten
theorem foldl_app {α : Type} : ∀ (ls : List (Array α)) (acc : Array α), (ls.foldl (· ++ ·) acc).toList = acc.toList ++ (ls.map Array.toList).flatten
  | [], acc => by simp
  | x :: r, acc => by
    rw [List.foldl_cons, foldl_app r (acc ++ x)]
    simp
theorem op_mul_str {X : Cx} : OpR X (binaryOp .Mult) (fun x y H Q => ∃ (l : List Nat) (n : Int), x = .str (S l) ∧ y = .int n ∧ -1000 ≤ n ∧ n ≤ 10000 ∧ l.length ≤ 1000 ∧ Q (.str (S (repN n.toNat l))) H) := by
  intro pins s σ H x y v u Q I rx ry h
  obtain ⟨l, n, rfl, rfl, h0, h1, h2, q⟩ := h
  obtain ⟨t, rfl⟩ := rx
  obtain ⟨t', rfl⟩ := ry
  have e : Txt.mul (S l) n = S (repN n.toNat l) := by
    unfold Txt.mul
    by_cases c1 : n < 1
    · rw [if_pos c1]
      have : n.toNat = 0 := by omega
      rw [this]
      rfl
    · rw [if_neg c1]
      by_cases c2 : (n == 1 || (S l).length == 0) = true
      · rw [if_pos c2]
        rw [Bool.or_eq_true, beq_iff_eq, beq_iff_eq, S_len] at c2
        rcases c2 with c2 | c2
        · subst c2
          simp [repN]
        · have : l = [] := List.length_eq_zero_iff.mp c2
          subst this
          simp [repN]
      · rw [if_neg c2]
        have := foldl_app (List.replicate n.toNat l.toArray) #[]
        simp only [List.map_replicate] at this
        show (⟨_⟩ : Str) = ⟨(repN n.toNat l).toArray⟩
        congr 1
        rw [← Array.toArray_toList (xs := List.foldl _ _ _), this]
        simp [repN]
  refine PySem.SB.mul ⟨by simp; omega, fun c1 _ c2 => ?_, fun c1 _ => ?_⟩ fun t' k => ?_
  · rw [S_len] at c2
    have : (10000 : Int) * 1000 ≤ (2 ^ 63 - 1) / n * 1 := by
      have h3 : (2 ^ 63 - 1) / 10000 ≤ (2 ^ 63 - 1) / n := by
        refine Int.le_ediv_of_mul_le (by omega) ?_
        have : (2 ^ 63 - 1) / 10000 * n ≤ (2 ^ 63 - 1) / 10000 * 10000 := Int.mul_le_mul_of_nonneg_left h1 (by decide)
        exact Int.le_trans this (by decide)
      have h4 : (10000 : Int) * 1000 ≤ (2 ^ 63 - 1) / 10000 := by decide
      omega
    omega
  · rw [S_len]
    have h3 : l.length * n.toNat ≤ 1000 * 10000 := Nat.mul_le_mul h2 (by omega)
    have h4 : l.length * n.toNat ≤ sizeLine := Nat.le_trans h3 (by decide)
    unfold Builtin.Str.tooLong
    simp
    exact h4
  · rw [e]
    exact ⟨.str (S (repN n.toNat l)), H, I.tok _, ⟨_, rfl⟩, q⟩
theorem ae_mulS (h : AE c a s fun d1 s1 => AE c b s1 fun d2 s2 => isS d1 fun l => isI d2 fun n => (-1000 ≤ n ∧ n ≤ 10000 ∧ l.length ≤ 1000) ∧ P (.str (repN n.toNat l)) s2) : AE c (.BinOp a .Mult b pos) s P := by
  refine ae_bin (r := fun d1 d2 s P => isS d1 fun l => isI d2 fun n => (-1000 ≤ n ∧ n ≤ 10000 ∧ l.length ≤ 1000) ∧ P (.str (repN n.toNat l)) s) (fun X _ => op_mul_str) (fun X _ => ?_) h
  intro σ τ τv H s v1 v2 d1 d2 P Q R h hq
  obtain ⟨l, rfl, n, rfl, ⟨h0, h1, h2⟩, h⟩ := h
  have e2 := R.int
  have e1 := R.pop.str
  subst e1 e2
  exact ⟨l, n, rfl, rfl, h0, h1, h2, hq _ _ _ _ h (R.pop.pop.push fun _ _ => .str _)⟩
theorem ae_catO (own : Bool) (h : AE c a s fun d1 s1 => AE c b s1 fun d2 s2 => ∃ i j xs ys, d1 = .ob i ∧ d2 = .ob j ∧ s2.o[i]? = some (.lst xs) ∧ s2.o[j]? = some (.lst ys) ∧ xs.length + ys.length ≤ sizeLine ∧ NewL own s2 (xs ++ ys) P) : AE c (.BinOp a .Add b pos) s P := by
  refine ae_bin (rV := fun _ => rCat) (r := fun d1 d2 s2 P => ∃ i j xs ys, d1 = .ob i ∧ d2 = .ob j ∧ s2.o[i]? = some (.lst xs) ∧ s2.o[j]? = some (.lst ys) ∧ xs.length + ys.length ≤ sizeLine ∧ NewL own s2 (xs ++ ys) P) (fun X _ => op_cat) (fun X _ => ?_) h
  intro σ τ τv H s v1 v2 d1 d2 P Q R h hq
  obtain ⟨i, j, xs, ys, rfl, rfl, h1, h2, hz, h⟩ := h
  obtain ⟨p2, vs2, rfl, e2, F, os, _, _, r⟩ := R.obj h2
  have l2 : vs2.length = ys.length := by
    have := r.length
    have l3 := R.pop.len
    simp only [List.length_append] at this
    omega
  have R1 : Rep c s σ (.ob i :: τ) (v1 :: τv) H := R.pop
  obtain ⟨p1, vs1, rfl, e1, F1, os1, _, _, r1⟩ := R1.obj h1
  have l1 : vs1.length = xs.length := by
    have := r1.length
    have l3 := R1.pop.len
    simp only [List.length_append] at this
    omega
  refine ⟨p1, p2, vs1, vs2, rfl, rfl, e1, e2, by omega, fun p hp => ?_⟩
  have R2 : Rep c s σ (xs ++ (ys ++ τ)) (vs1 ++ (vs2 ++ τv)) H := by
    obtain ⟨F, os, a, b, e, r⟩ := R
    cases r with
    | cons q2 r =>
      cases r with
      | cons q1 r =>
        cases q1 with
        | ob q1 =>
          cases q2 with
          | ob q2 =>
            obtain ⟨ws1, z1, z2⟩ := a.obj _ _ _ q1 h1
            obtain ⟨ws2, y1, y2⟩ := a.obj _ _ _ q2 h2
            rw [e1] at z1
            rw [e2] at y1
            cases z1
            cases y1
            exact ⟨F, os, a, b, e, z2.append (y2.append r)⟩
  exact R2.newL hp (fun F os r => by
    obtain ⟨a, b⟩ := RpL.split l1 r
    exact a.append (RpL.split l2 b).1) (fun F os r => (RpL.split l2 (RpL.split l1 r).2).2) h hq
end
end G9

namespace G9
open PySem PySem.Spec PyProof.Rows L2
variable {c : SC}
structure NF (s s' : Sta) : Prop where
  e : s = s'
theorem NF.rfl' {s : Sta} : NF s s := ⟨rfl⟩
theorem ass_at2 {st : List Stmt} {s s' : Sta} {P : Out → Prop} (e : NF s s') (h : ASs c st s' P) : ASs c st s P := e.e ▸ h
theorem le_sl {n : Nat} (h : n ≤ 100000) : n ≤ sizeLine := Nat.le_trans h (by decide)
theorem lt_sl {n : Nat} (h : n ≤ 100000) : n < sizeLine := Nat.lt_of_le_of_lt h (by decide)
theorem cutD_le {α : Type} (l : List α) (lo hi : Option Int) : (cutD l lo hi).length ≤ l.length := by
  unfold cutD
  rw [List.length_take, List.length_drop]
  omega
theorem repN_one (n k : Nat) : (repN n [k]).length = n := by simp [repN]
/-- the slots hold no object from n on -/
def slB (n : Nat) : List (Option D) → Prop
  | [] => True
  | none :: r => slB n r
  | some d :: r => D.bnd n d ∧ slB n r
theorem slB_get {n : Nat} : ∀ {r : List (Option D)}, slB n r → ∀ (i : Nat) (d : D), r[i]? = some (some d) → D.bnd n d
  | [], _, _, _, h => by simp at h
  | none :: r, q, 0, d, h => by simp at h
  | none :: r, q, i + 1, d, h => slB_get (r := r) q i d (by simpa using h)
  | some e :: r, q, 0, d, h => by
    simp at h
    subst h
    exact q.1
  | some e :: r, q, i + 1, d, h => slB_get (r := r) q.2 i d (by simpa using h)
def oB (o : Option D) : Prop := ∀ d, o = some d → D.bnd 0 d
theorem oB_none : oB none := fun _ h => by cases h
theorem oB_some {d : D} (h : D.bnd 0 d) : oB (some d) := fun _ e => by
  cases e
  exact h
theorem slB_o {n : Nat} {o : Option D} {r : List (Option D)} (h : oB o) (q : slB n r) : slB n (o :: r) := by
  cases o with
  | none => exact q
  | some d => exact ⟨D.bnd_le (Nat.zero_le _) (h d rfl), q⟩
end G9

namespace G9
open PySem PySem.Spec PyProof.Rows L2
variable {c : SC}
/-! ### pure data, compared -/
mutual
def pyD : D → Option PyData
  | .non => some .none
  | .bl b => some (.bool b)
  | .int i => some (.int i)
  | .str l => some (.str (S l))
  | .tup ds => match pyDs ds with | some x => some (.tuple x) | none => none
  | .lst ds => match pyDs ds with | some x => some (.list x) | none => none
  | .ob _ => none
  | .ty _ => none
def pyDs : List D → Option (List PyData)
  | [] => some []
  | d :: ds => match pyD d, pyDs ds with | some x, some y => some (x :: y) | _, _ => none
end
mutual
theorem Rp.dp {K : PySem.W.Frag} {F H : Hp} {os : List Addr} (e : Same F H) : ∀ {v : V} {d : D} {p : PyData}, Rp K F os v d → pyD d = some p → Dp K H v p
  | _, .non, _, h, q => by
    cases h
    cases q
    exact .non
  | _, .bl b, _, h, q => by
    cases h
    cases q
    exact .bl b
  | _, .int b, _, h, q => by
    cases h
    cases q
    exact .int b
  | _, .str b, _, h, q => by
    cases h
    cases q
    exact .str _
  | _, .tup ds, _, h, q => by
    cases h with
    | tup h1 h2 =>
      unfold pyD at q
      split at q
      · next x hx =>
        cases q
        exact .tup (sq_t e h1) (RpL.dp e h2 hx)
      · cases q
  | _, .lst ds, _, h, q => by
    cases h with
    | lst h1 h2 =>
      unfold pyD at q
      split at q
      · next x hx =>
        cases q
        exact .lst (sq_l e h1) (RpL.dp e h2 hx)
      · cases q
  | _, .ob j, _, h, q => by cases q
  | _, .ty j, _, h, q => by cases q
theorem RpL.dp {K : PySem.W.Frag} {F H : Hp} {os : List Addr} (e : Same F H) : ∀ {vs : List V} {ds : List D} {ps : List PyData}, RpL K F os vs ds → pyDs ds = some ps → DpAll K H vs ps
  | _, [], _, h, q => by
    cases h
    cases q
    exact .nil
  | _, d :: ds, _, h, q => by
    cases h with
    | cons h1 h2 =>
      unfold pyDs at q
      split at q
      · next x y hx hy =>
        cases q
        exact .cons (Rp.dp e h1 hx) (RpL.dp e h2 hy)
      · cases q
end
def rLtD (K : PySem.W.Frag) : R2 := fun x y H Q => ∃ d e, Dp K H x d ∧ Dp K H y e ∧ PySem.W.alike d e = true ∧ d ≠ .none ∧ d.depth ≤ 64 ∧ Q (.bl (PySem.W.dataLt d e)) H
theorem op_ltD {X : Cx} (hu : X.A.units + 64 < cLine) : OpR X (compareOp .Lt) (rLtD X.K) := by
  intro pins s σ H x y v u Q I rx ry h
  obtain ⟨d, e, hd, he, ha, hn, hz, q⟩ := h
  obtain ⟨as, r1⟩ := Dp.reads I d x v hd rx
  obtain ⟨bs, r2⟩ := Dp.reads I e y u he ry
  have hm : X.A.units + min d.depth e.depth < cLine := by
    have := Nat.min_le_left d.depth e.depth
    omega
  exact PySem.W.rcLt_alike d e X.A s v u as bs r1 r2 ha hn hm X.prog X.w _ _ ⟨.bl _, H, I, rfl, q⟩
theorem Rep.dp2 {s : Sta} {σ : L2.St} {τ : List D} {τv : List V} {H : Hp} {d1 d2 : D} {v1 v2 : V} {p q : PyData} (R : Rep c s σ (d2 :: d1 :: τ) (v2 :: v1 :: τv) H) (h1 : pyD d1 = some p) (h2 : pyD d2 = some q) : Dp c.K H v1 p ∧ Dp c.K H v2 q := by
  obtain ⟨F, os, e, _, _, r⟩ := R
  cases r with
  | cons r2 r =>
    cases r with
    | cons r1 r => exact ⟨Rp.dp e.ex r1 h1, Rp.dp e.ex r2 h2⟩
section
variable {s : Sta} {P : D → Sta → Prop} {PB : Bool → Sta → Prop} {a b e o : Expr} {es : List Expr} {pos p apos cpos : Pos} {x name : Str}
theorem ac_ltD (h : AE c a s fun d1 s1 => AE c b s1 fun d2 s2 => ∃ p q, pyD d1 = some p ∧ pyD d2 = some q ∧ PySem.W.alike p q = true ∧ p ≠ .none ∧ p.depth ≤ 64 ∧ P (.bl (PySem.W.dataLt p q)) s2) : AC c .Lt a b s P := by
  refine ac_op (r := fun d1 d2 s P => ∃ p q, pyD d1 = some p ∧ pyD d2 = some q ∧ PySem.W.alike p q = true ∧ p ≠ .none ∧ p.depth ≤ 64 ∧ P (.bl (PySem.W.dataLt p q)) s) (fun X hX => op_ltD hX.room.units) (fun X hX => ?_) h
  intro σ τ τv H s v1 v2 d1 d2 P Q R h hq
  obtain ⟨p, q, h1, h2, ha, hn, hz, h⟩ := h
  obtain ⟨e1, e2⟩ := R.dp2 h1 h2
  exact ⟨p, q, hX.K ▸ e1, hX.K ▸ e2, ha, hn, hz, hq _ _ _ _ h (R.pop.pop.push fun _ _ => .bl _)⟩
theorem ae_mulW (h : AE c a s fun d1 s1 => AE c b s1 fun d2 s2 => isI d1 fun i => isI d2 fun j => CMulW i j ∧ P (.int (i * j)) s2) : AE c (.BinOp a .Mult b pos) s P :=
  ae_bin (fun X _ => op_mulW) (fun X _ => rop_I fun i j _ _ => .int (i * j)) h
theorem ae_fdivW (h : AE c a s fun d1 s1 => AE c b s1 fun d2 s2 => isI d1 fun i => isI d2 fun j => CDivW i j ∧ P (.int (i / j)) s2) : AE c (.BinOp a .FloorDiv b pos) s P :=
  ae_bin (fun X _ => op_fdivW) (fun X _ => rop_I fun i j _ _ => .int (i / j)) h
/-! ### s.index(sign) -/
theorem occ_find (s sub : Str) (hi : Nat) : ∀ (l : List Nat) (k i : Nat), (∀ a ∈ l, k ≤ a) → l.find? (fun a => decide (a + sub.length ≤ hi) && Builtin.Str.subAt s sub a) = some i → (forIn (m := Id) l ((#[] : Array Nat), k) (StrLaws.occBody s sub hi 1)).run.fst.toList = [i]
  | [], _, _, _, h => by cases h
  | a :: l, k, i, hk, h => by
    rw [List.find?_cons] at h
    simp only [List.forIn_cons, StrLaws.occBody]
    by_cases hc : (a + sub.length ≤ hi ∧ Builtin.Str.subAt s sub a = true)
    · rw [if_pos ⟨⟨⟨by simp, hk a (by simp)⟩, hc.1⟩, hc.2⟩]
      simp only [hc.1, hc.2, decide_true, Bool.and_self] at h
      cases h
      have st : ∀ (l : List Nat) (k : Nat), (forIn (m := Id) l (#[a], k) (StrLaws.occBody s sub hi 1)).run.fst = #[a] := by
        intro l
        induction l with
        | nil => intro k; rfl
        | cons b r ih =>
          intro k
          have hi' : ¬ ((((#[a] : Array Nat).size < 1 ∧ k ≤ b) ∧ b + sub.length ≤ hi) ∧ Builtin.Str.subAt s sub b = true) := fun c => by have := c.1.1.1; simp at this
          simp only [List.forIn_cons, StrLaws.occBody, if_neg hi']
          exact ih k
      exact congrArg Array.toList (st l _)
    · have hi' : ¬ ((((#[] : Array Nat).size < 1 ∧ k ≤ a) ∧ a + sub.length ≤ hi) ∧ Builtin.Str.subAt s sub a = true) := fun c => hc ⟨c.1.2, c.2⟩
      rw [if_neg hi']
      have e : (decide (a + sub.length ≤ hi) && Builtin.Str.subAt s sub a) = false := by
        by_cases h1 : a + sub.length ≤ hi
        · have : Builtin.Str.subAt s sub a = false := by
            cases q : Builtin.Str.subAt s sub a with
            | false => rfl
            | true => exact absurd ⟨h1, q⟩ hc
          simp [this]
        · simp [h1]
      rw [e] at h
      exact occ_find s sub hi l k i (fun b hb => hk b (by simp [hb])) h
theorem sub_one (l : List Nat) (x i : Nat) (hi : i < l.length) : Builtin.Str.subAt (S l) (S [x]) i = decide (l[i]? = some x) := by
  unfold Builtin.Str.subAt
  have e : ((S l).cps.extract i (i + (S [x]).length)) = #[l[i]] := by
    rw [S_len]
    apply Array.ext'
    simp [S]
    rw [List.take_one, List.head?_drop, List.getElem?_eq_getElem hi]
    rfl
  rw [e, List.getElem?_eq_getElem hi]
  show (#[l[i]] == [x].toArray) = _
  rw [Bool.eq_iff_iff]
  simp
theorem occ_one {l : List Nat} {x : Nat} (h : x ∈ l) : Builtin.Str.occurrences (S l) (S [x]) 0 (S l).length 1 = [l.idxOf x] := by
  rw [StrLaws.occ_eq, S_len, Nat.sub_zero]
  refine occ_find _ _ _ _ _ _ (fun a ha => Nat.zero_le a) ?_
  have hlt : l.idxOf x < l.length := List.idxOf_lt_length_iff.mpr h
  rw [List.find?_eq_some_iff_getElem]
  refine ⟨?_, l.idxOf x, by simp; omega, by simp, fun j hj => ?_⟩
  · rw [S_len, sub_one l x _ hlt]
    simp
    exact ⟨hlt, by rw [List.getElem?_eq_getElem hlt, List.getElem_idxOf]⟩
  · have hj2 : j < l.length := by omega
    simp only [List.getElem_range', Nat.zero_add, Nat.one_mul]
    rw [S_len, sub_one l x j hj2]
    have : l[j]? ≠ some x := fun q => by
      have h3 : j < List.findIdx (· == x) l := hj
      have := List.not_of_lt_findIdx h3
      rw [List.getElem?_eq_getElem hj2] at q
      simp at this
      exact this (Option.some.inj q)
    simp [this]
theorem ae_sindex (h : AE c o s fun d s1 => isS d fun l => AE c e s1 fun y s2 => ∃ k, y = .str [k] ∧ k ∈ l ∧ P (.int (l.idxOf k : Nat)) s2)
    (hbase : ∀ env, attributeBase o "index" env (eval o env) = eval o env := by intro _; rfl) (hline : (apos.endLine == cpos.line) = true := by rfl) (hs : ∀ env, starEach [e] env = (false, eval e env) :: starEach [] env := by intro _; rfl)
    (hfew : ∀ env, ((backTo cpos (starEach [e] env)).all (fun x => !x.1) && (backToKw cpos (keywordEach [] env)).all (fun x => x.1.isSome)
      && decide ([e].length + ([] : List Keyword).length + (if ([] : List Keyword).isEmpty then 0 else 1) < 30)) = true := by intro _; rfl) : AE c (.Call (.Attribute o "index" apos) [e] [] cpos) s P := by
  refine ae_bm PySem.F.plainAttrs_str PySem.F.slot_str_index PySem.F.type_str_index (r := fun d ds s P => ∃ l k, d = .str l ∧ ds = [.str [k]] ∧ k ∈ l ∧ P (.int (l.idxOf k : Nat)) s) (fun X hX => mt_sindex) (fun X _ => ?_)
    (h.mono fun d s1 ⟨l, h1, h3⟩ => ⟨by subst h1; exact .inl ⟨rfl, l, rfl⟩, aa_one (h3.mono fun y s2 ⟨k, h4, h5, h6⟩ => ⟨l, k, h1, by rw [h4], h5, h6⟩) hs⟩) hbase hfew hline hs (fun _ => rfl)
  intro σ τ τv H s v vs d ds P Q l R h hq
  obtain ⟨t, k, rfl, rfl, hk, h⟩ := h
  obtain ⟨w, rfl⟩ := one_v l
  have R1 : Rep c s σ (.str t :: .str [k] :: τ) (v :: w :: τv) H := R.temps fun F os r => by
    cases r with
    | cons a r =>
      cases r with
      | cons b r => exact .cons b (.cons a r)
  have e1 := R1.str
  have e2 := R1.pop.str
  subst e1 e2
  exact ⟨S t, S [k], _, _, rfl, rfl, occ_one hk, hq _ _ _ _ h (R1.pop.pop.push fun _ _ => .int _)⟩
/-- a call that hands no object and brings none back -/
theorem ae_callP {kf : Nat} {R : Spec} (C : CalA c.prog c.w c.K c.mg c.base kf x R) (hk : kf ≤ c.k) (h : AA c (e :: es) s fun ds s1 => D.bndL 0 ds ∧ R ds [] fun d O' => O' = [] ∧ D.bnd 0 d ∧ P d s1)
    (hg : IsG c x := by rfl) (hdb : (x == ("__debug__" : Str)) = false := by decide) (he : ∀ env, starEach (e :: es) env = (false, eval e env) :: starEach es env := by intro _; rfl)
    (hpl : ∀ env, (backTo pos (starEach es env)).any (·.1) = false := by intro _; rfl) : AE c (.Call (.Name x p) (e :: es) [] pos) s P :=
  ae_call0 C hk (.mk fun X hX σ τ τv H R Q hq => h X hX σ τ τv H R Q fun ds s1 vs H1 ⟨h1, h2⟩ hl R1 => hq ds s1 vs H1 ⟨h1, C.mono _ _ _ _ (fun d O' ⟨q1, q2, q3⟩ => by
    subst q1
    rw [D.ren_closed q2, List.map_nil, List.append_nil]
    exact q3) h2⟩ hl R1) hg hdb he hpl
end
end G9

namespace G9
open PySem PySem.Spec PyProof.Rows L2
variable {c : SC}
section
variable {s : Sta} {P : D → Sta → Prop} {PB : Bool → Sta → Prop} {a b e o : Expr} {es : List Expr} {pos p apos cpos : Pos} {x name : Str}
theorem bv_abs : bootBuiltins "abs" = some (.builtin "abs") := by decide +kernel
theorem bv_max : bootBuiltins "max" = some (.builtin "max") := by decide +kernel
theorem bv_min : bootBuiltins "min" = some (.builtin "min") := by decide +kernel
theorem ae_abs (hm : c.mg "abs" = none) (h : AE c e s fun d s1 => isI d fun i => P (.int (if i < 0 then -i else i)) s1) (hg : IsG c "abs" := by rfl)
    (he : ∀ env, starEach [e] env = (false, eval e env) :: starEach [] env := by intro _; rfl) : AE c (.Call (.Name "abs" p) [e] [] pos) s P := by
  refine ae_callB (r := fun ds s P => ∃ i, ds = [.int i] ∧ P (.int (if i < 0 then -i else i)) s) (fun X hX => call_abs) (fun X _ => ?_) hm bv_abs (aa_one (h.mono fun d s1 ⟨i, h1, h2⟩ => ⟨i, by rw [h1], h2⟩) he) hg (by decide) (by decide) he (fun _ => rfl)
  intro σ τ τv H s vs ds P Q l R h hq
  obtain ⟨i, rfl, h⟩ := h
  obtain ⟨v, rfl⟩ := one_v l
  have R1 : Rep c s σ (.int i :: τ) (v :: τv) H := R
  have e1 := R1.int
  subst e1
  exact ⟨i, rfl, hq _ _ _ _ h (R1.pop.push fun _ _ => .int _)⟩
theorem aa_two' {e2 : Expr} {P2 : List D → Sta → Prop} (h : AE c e s fun d s1 => AE c e2 s1 fun d2 s2 => P2 [d, d2] s2) (he : ∀ env, starEach [e, e2] env = (false, eval e env) :: starEach [e2] env := by intro _; rfl) (he2 : ∀ env, starEach [e2] env = (false, eval e2 env) :: starEach [] env := by intro _; rfl) : AA c [e, e2] s P2 := aa_two h he he2
theorem ae_max2 {e2 : Expr} (hm : c.mg "max" = none) (h : AE c e s fun d s1 => AE c e2 s1 fun d2 s2 => isI d fun i => isI d2 fun j => P (.int (max i j)) s2) (hg : IsG c "max" := by rfl)
    (he : ∀ env, starEach [e, e2] env = (false, eval e env) :: starEach [e2] env := by intro _; rfl) (he2 : ∀ env, starEach [e2] env = (false, eval e2 env) :: starEach [] env := by intro _; rfl) (hpl : ∀ env, (backTo pos (starEach [e2] env)).any (·.1) = false := by intro _; rfl) : AE c (.Call (.Name "max" p) [e, e2] [] pos) s P := by
  refine ae_callB (r := fun ds s P => ∃ i j, ds = [.int i, .int j] ∧ P (.int (max i j)) s) (fun X hX => call_max2 hX.calm) (fun X _ => ?_) hm bv_max (aa_two' (h.mono fun d s1 q => q.mono fun d2 s2 ⟨i, h1, j, h2, h3⟩ => ⟨i, j, by rw [h1, h2], h3⟩) he he2) hg (by decide) (by decide) he hpl
  intro σ τ τv H s vs ds P Q l R h hq
  obtain ⟨i, j, rfl, h⟩ := h
  obtain ⟨v, w, rfl⟩ := two_v l
  have R1 : Rep c s σ (.int i :: .int j :: τ) (v :: w :: τv) H := R
  have e1 := R1.int
  have e2 := R1.pop.int
  subst e1 e2
  refine ⟨i, j, rfl, hq _ _ _ _ h (R1.pop.pop.push fun _ _ => ?_)⟩
  have : (if j > i then j else i) = max i j := by
    split <;> omega
  rw [this]
  exact .int _
/-- xs.extend(ys) -/
theorem ae_extend (h : AE c o s fun d s1 => (∃ j ds, d = .ob j ∧ s1.o[j]? = some (.lst ds)) ∧ AE c e s1 fun y s2 => ∃ j k ds es, d = .ob j ∧ y = .ob k ∧ s2.o[j]? = some (.lst ds) ∧ s2.o[k]? = some (.lst es) ∧ ds.length + es.length ≤ sizeLine ∧ P .non ⟨s2.r, s2.o.set j (.lst (ds ++ es))⟩)
    (hbase : ∀ env, attributeBase o "extend" env (eval o env) = eval o env := by intro _; rfl) (hline : (apos.endLine == cpos.line) = true := by rfl) (hs : ∀ env, starEach [e] env = (false, eval e env) :: starEach [] env := by intro _; rfl)
    (hfew : ∀ env, ((backTo cpos (starEach [e] env)).all (fun x => !x.1) && (backToKw cpos (keywordEach [] env)).all (fun x => x.1.isSome)
      && decide ([e].length + ([] : List Keyword).length + (if ([] : List Keyword).isEmpty then 0 else 1) < 30)) = true := by intro _; rfl) : AE c (.Call (.Attribute o "extend" apos) [e] [] cpos) s P := by
  refine ae_bm PySem.F.plainAttrs_list PySem.F.slot_list_extend PySem.F.type_list_extend (r := fun d ds s P => ∃ y, ds = [y] ∧ ∃ j k ds es, d = .ob j ∧ y = .ob k ∧ s.o[j]? = some (.lst ds) ∧ s.o[k]? = some (.lst es) ∧ ds.length + es.length ≤ sizeLine ∧ P .non ⟨s.r, s.o.set j (.lst (ds ++ es))⟩) (fun X hX => mt_extend) (fun X _ => ?_)
    (h.mono fun d s1 ⟨⟨j, ds, h1, h2⟩, h3⟩ => ⟨by subst h1; exact tyM_o h2, aa_one (h3.mono fun y s2 h => ⟨y, rfl, h⟩) hs⟩) hbase hfew hline hs (fun _ => rfl)
  intro σ τ τv H s v vs d ds P Q l R h hq
  obtain ⟨y, rfl, j, k, es, fs, rfl, rfl, ho, hk, hz, h⟩ := h
  obtain ⟨w, rfl⟩ := one_v l
  have R1 : Rep c s σ (.ob j :: .ob k :: τ) (v :: w :: τv) H := R.temps fun F os r => by
    cases r with
    | cons a r =>
      cases r with
      | cons b r => exact .cons b (.cons a r)
  obtain ⟨p, ws, rfl, hp, _⟩ := R1.obj ho
  obtain ⟨p2, ws2, rfl, hp2, _⟩ := R1.pop.obj hk
  have R0 : Rep c s σ (.ob j :: (fs ++ τ)) (.ref p :: (ws2 ++ τv)) H ∧ ws.length = es.length ∧ ws2.length = fs.length := by
    obtain ⟨F, os, a, b, e, r⟩ := R1
    cases r with
    | cons q r =>
      cases r with
      | cons q2 r =>
        cases id q with
        | ob q0 =>
          cases q2 with
          | ob q3 =>
            obtain ⟨us, u1, u2⟩ := a.obj j _ _ q0 ho
            rw [hp] at u1
            cases u1
            obtain ⟨us2, u3, u4⟩ := a.obj k _ _ q3 hk
            rw [hp2] at u3
            cases u3
            exact ⟨⟨F, os, a, b, e, .cons q (u4.append r)⟩, u2.length, u4.length⟩
  obtain ⟨R0, l1, l2⟩ := R0
  refine ⟨p, p2, ws, ws2, rfl, rfl, hp, hp2, by omega, hq _ _ _ _ h ?_⟩
  have R2 := R0.mut (ds' := es ++ fs) (vs := ws ++ ws2) ho fun F os ws' r1 e1 r2 => by
    rw [hp] at e1
    cases e1
    exact r1.append (RpL.split l2 r2).1
  exact (R2.pop.pops l2).push fun _ _ => .non
/-- xs.pop(i) -/
theorem ae_popAt (h : AE c o s fun d s1 => (∃ j ds, d = .ob j ∧ s1.o[j]? = some (.lst ds)) ∧ AE c e s1 fun y s2 => ∃ (j k : Nat) (ds : List D) (x : D), d = .ob j ∧ y = .int (k : Nat) ∧ k < 100000 ∧ s2.o[j]? = some (.lst ds) ∧ ds[k]? = some x ∧ P x ⟨s2.r, s2.o.set j (.lst (ds.eraseIdx k))⟩)
    (hbase : ∀ env, attributeBase o "pop" env (eval o env) = eval o env := by intro _; rfl) (hline : (apos.endLine == cpos.line) = true := by rfl) (hs : ∀ env, starEach [e] env = (false, eval e env) :: starEach [] env := by intro _; rfl)
    (hfew : ∀ env, ((backTo cpos (starEach [e] env)).all (fun x => !x.1) && (backToKw cpos (keywordEach [] env)).all (fun x => x.1.isSome)
      && decide ([e].length + ([] : List Keyword).length + (if ([] : List Keyword).isEmpty then 0 else 1) < 30)) = true := by intro _; rfl) : AE c (.Call (.Attribute o "pop" apos) [e] [] cpos) s P := by
  refine ae_bm PySem.F.plainAttrs_list PySem.F.slot_list_pop PySem.F.type_list_pop (r := fun d ds s P => ∃ y, ds = [y] ∧ ∃ (j k : Nat) (ds : List D) (x : D), d = .ob j ∧ y = .int (k : Nat) ∧ k < 100000 ∧ s.o[j]? = some (.lst ds) ∧ ds[k]? = some x ∧ P x ⟨s.r, s.o.set j (.lst (ds.eraseIdx k))⟩) (fun X hX => mt_popAt) (fun X _ => ?_)
    (h.mono fun d s1 ⟨⟨j, ds, h1, h2⟩, h3⟩ => ⟨by subst h1; exact tyM_o h2, aa_one (h3.mono fun y s2 h => ⟨y, rfl, h⟩) hs⟩) hbase hfew hline hs (fun _ => rfl)
  intro σ τ τv H s v vs d ds P Q l R h hq
  obtain ⟨y, rfl, j, k, es, x, rfl, rfl, hk0, ho, hx, h⟩ := h
  obtain ⟨w, rfl⟩ := one_v l
  have R1 : Rep c s σ (.ob j :: .int (k : Nat) :: τ) (v :: w :: τv) H := R.temps fun F os r => by
    cases r with
    | cons a r =>
      cases r with
      | cons b r => exact .cons b (.cons a r)
  have ew := R1.pop.int
  subst ew
  obtain ⟨p, ws, rfl, hp, _⟩ := R1.obj ho
  have hkl : k < es.length := (List.getElem?_eq_some_iff.mp hx).1
  have R0 : (∃ w, ws[k]? = some w ∧ Rep c s σ (.ob j :: x :: τ) (.ref p :: w :: τv) H) ∧ ws.length = es.length := by
    obtain ⟨F, os, a, b, e, r⟩ := R1
    cases r with
    | cons q r =>
      cases r with
      | cons q2 r =>
        cases id q with
        | ob q0 =>
          obtain ⟨us, u1, u2⟩ := a.obj j _ _ q0 ho
          rw [hp] at u1
          cases u1
          obtain ⟨w, hw1, hw2⟩ := u2.get hx
          exact ⟨⟨w, hw1, F, os, a, b, e, .cons q (.cons hw2 r)⟩, u2.length⟩
  obtain ⟨⟨w, hw, R0⟩, hl⟩ := R0
  have hsi : seqIndex? (k : Nat) ws.length = some k := by
    unfold seqIndex?
    simp
    omega
  refine ⟨p, ws, (k : Nat), k, w, rfl, rfl, hp, by omega, by omega, hsi, hw, hq _ _ _ _ h ?_⟩
  have R2 := R0.mut (ds' := es.eraseIdx k) (vs := ws.eraseIdx k) ho fun F os ws' r1 e1 r2 => by
    rw [hp] at e1
    cases e1
    rw [List.eraseIdx_eq_take_drop_succ, List.eraseIdx_eq_take_drop_succ]
    exact (r1.take k).append (r1.drop (k + 1))
  exact R2.pop
end
end G9

namespace G9
open PySem PySem.Spec PyProof.Rows L2
variable {c : SC}
section
variable {s : Sta} {σ : L2.St} {τ : List D} {τv : List V} {H : Hp}
theorem Rep.sw {d1 d2 : D} {v1 v2 : V} (R : Rep c s σ (d1 :: d2 :: τ) (v1 :: v2 :: τv) H) : Rep c s σ (d2 :: d1 :: τ) (v2 :: v1 :: τv) H := R.temps fun F os r => by
  cases r with
  | cons a r =>
    cases r with
    | cons b r => exact .cons b (.cons a r)
theorem Rep.rot {d1 d2 d3 : D} {v1 v2 v3 : V} (R : Rep c s σ (d1 :: d2 :: d3 :: τ) (v1 :: v2 :: v3 :: τv) H) : Rep c s σ (d1 :: d3 :: d2 :: τ) (v1 :: v3 :: v2 :: τv) H := R.temps fun F os r => by
  cases r with
  | cons a r =>
    cases r with
    | cons b r =>
      cases r with
      | cons c r => exact .cons a (.cons c (.cons b r))
/-- a block's variable is set, the block's others are unset -/
theorem Rep.setw {i0 : Nat} {vs : List Nat} {scope : Scope} {yd : D} {y : V} (R : Rep c s σ (yd :: τ) (y :: τv) H) (q4 : ∀ v ∈ vs, ∀ d, s.r[v]? ≠ some (some d)) : Rep c ⟨s.r.set i0 (some yd), s.o⟩ ((L2.wipe σ vs).set i0 (some y)) τ τv H := by
  have R7 : Rep c ⟨wipeD s.r vs, s.o⟩ (L2.wipe σ vs) (yd :: τ) (y :: τv) H := R.wipe (vs := vs) (scope := scope)
  have R9 := R7.set (i := i0)
  obtain ⟨F, os, a, b, e, r⟩ := R9
  refine ⟨F, os, a, b, ⟨?_, fun k dd hk => ?_⟩, r⟩
  · have := e.len
    simp only [List.length_set, wipeD_len] at this ⊢
    exact this
  · refine e.get k dd ?_
    show ((wipeD s.r vs).set i0 (some yd))[k]? = _
    simp only [List.getElem?_set] at hk ⊢
    rw [wipeD_len]
    by_cases hk0 : i0 = k
    · rw [if_pos hk0] at hk ⊢
      exact hk
    · rw [if_neg hk0] at hk ⊢
      exact wipeD_id q4 k dd hk
theorem Rep.unw {vs : List Nat} {σ2 : L2.St} {scope : Scope} (R : Rep c s σ2 τ τv H) (hw : L2.wipe σ2 vs = L2.wipe σ vs) : Rep c ⟨wipeD s.r vs, s.o⟩ σ τ τv H := by
  have R' : Rep (c.blk scope) s σ2 τ τv H := R
  exact R'.unwipe hw
theorem wipeD_wipeD {r : List (Option D)} {vs : List Nat} : wipeD (wipeD r vs) vs = wipeD r vs := by
  refine List.ext_getElem? fun i => ?_
  by_cases hl : i < r.length
  · have key : ∀ (us : List Nat) (q : List (Option D)), i < q.length → (wipeD q us)[i]? = if i ∈ us then some none else q[i]? := fun us => by
      induction us with
      | nil => intro q hq; simp [wipeD]
      | cons u us ih =>
        intro q hq
        unfold wipeD
        by_cases e : u = i
        · subst e
          rw [List.getElem?_set_self (by rw [wipeD_len]; exact hq)]
          simp
        · rw [List.getElem?_set_ne e, ih q hq]
          have : (i ∈ u :: us) ↔ i ∈ us := by
            simp [Ne.symm e]
          simp only [this]
    rw [key _ _ (by rw [wipeD_len]; exact hl), key _ _ hl]
    split <;> rfl
  · rw [List.getElem?_eq_none (by rw [wipeD_len, wipeD_len]; omega), List.getElem?_eq_none (by rw [wipeD_len]; omega)]
end
section
variable {s : Sta} {P : D → Sta → Prop} {elt iter iter1 : Expr} {scope : Scope} {pos px px1 : Pos} {x x1 : Str} {i0 i1 : Nat} {own : Bool}
/-- what the inner for of a comprehension asks; L the list's object -/
def LcI (c : SC) (elt : Expr) (i1 : Nat) (vs1 : List Nat) (L : Nat) (acc0 : List D) (K : List D → Sta → Prop) (ys : List D) (Φ : Sta → Prop) (s2 : Sta) : Prop :=
  ∃ I1 : Nat → List D → Sta → Prop, I1 0 acc0 s2 ∧ (∀ j acc s, I1 j acc s → Φ s ∧ s.o[L]? = some (.lst acc) ∧ (∀ v ∈ vs1, ∀ d, s.r[v]? ≠ some (some d))) ∧
    (∀ j acc e s, ys[j]? = some e → I1 j acc s → AE c elt ⟨s.r.set i1 (some e), s.o⟩ fun y s4 => s4.o[L]? = some (.lst acc) ∧ acc.length < sizeLine ∧ ∃ s5, Gc s2.o.length ⟨wipeD s4.r vs1, s4.o.set L (.lst (acc ++ [y]))⟩ s5 ∧ I1 (j + 1) (acc ++ [y]) s5) ∧
    (∀ acc s, I1 ys.length acc s → K acc s)
def LcP2 (c : SC) (scope : Scope) (elt iter1 : Expr) (x1 : Str) (px1 : Pos) (i0 i1 : Nat) (vs : List Nat) (own : Bool) (P : D → Sta → Prop) (xs : List D) (Φ : Sta → Prop) (s1 : Sta) : Prop :=
  ∃ I : Nat → List D → Sta → Prop, I 0 [] ⟨wipeD s1.r vs, s1.o ++ [.lst []]⟩ ∧ (∀ i acc s, I i acc s → Φ s ∧ s.o[s1.o.length]? = some (.lst acc) ∧ (∀ v ∈ vs, ∀ d, s.r[v]? ≠ some (some d))) ∧
    (∀ i acc d s, xs[i]? = some d → I i acc s → AI (c.blk scope) (.Name x1 px1) iter1 ⟨s.r.set i0 (some d), s.o⟩ (LcI (c.blk scope) elt i1 [i1] s1.o.length acc fun acc' s' => ∃ s6, Gc (s1.o.length + 1) ⟨wipeD s'.r vs, s'.o⟩ s6 ∧ I (i + 1) acc' s6)) ∧
    (∀ acc s, I xs.length acc s → NewC own s1.o.length acc s P)
theorem lc2_read {X : Cx} (hX : XC c X) {vs : List Nat} (h : AI c (.Name x px) iter s (LcP2 c scope elt iter1 x1 px1 i0 i1 vs own P)) (hi0 : i0 ∈ vs) (hi1 : i1 ∈ vs)
    {σ : L2.St} {τ : List D} {τv : List V} {H : Hp} (R : Rep c s σ τ τv H) {Q : VK} (hq : FinE c P σ τ τv Q) :
    tLc2 (WI X (.Name x px) iter) (gName i0) (fun σ H Q => Q true H) (fun σ H Q => ∀ s0 H0 C cl fp, WI (X.blk s0 H0 scope (compEnvC scope cl C X.env) fp) (.Name x1 px1) iter1 σ H Q) (gName i1) (fun σ H Q => Q true H)
      (fun σ H Q => ∀ s0 H0 C cl fp, WE (X.blk s0 H0 scope (compEnvC scope cl C X.env) fp) elt σ H Q) vs [i1] σ H Q := by
  refine h X hX σ τ τv H R _ fun J d v xs Φ s1 H1 h1 R1 ok => ?_
  obtain ⟨I, h0, hI, turn, done⟩ := h1
  intro Dd hD
  obtain ⟨l1, l2⟩ := R1.ol
  have R2 : Rep c ⟨s1.r, s1.o ++ [.lst []]⟩ σ (.ob s1.o.length :: d :: τ) (.ref Dd :: v :: τv) (upd H1 Dd (.lst [])) := R1.own hD fun F os r => .nil
  have R3 : Rep c ⟨wipeD s1.r vs, s1.o ++ [.lst []]⟩ σ (.ob s1.o.length :: d :: τ) (.ref Dd :: v :: τv) (upd H1 Dd (.lst [])) := R2.unw (scope := scope) rfl
  have gco : ∀ {s s4 : Sta} {H : Hp} {σ : L2.St}, Rep c s σ (.ob s1.o.length :: d :: τ) (.ref Dd :: v :: τv) H → Gc (s1.o.length + 1) s s4 → Rep c s4 σ (.ob s1.o.length :: d :: τ) (.ref Dd :: v :: τv) H := fun R g => R.gc g (Nat.le_succ_of_le l1) ⟨by unfold D.bnd; exact Nat.lt_succ_self _, D.bndL_le (Nat.le_succ _) l2⟩
  refine ⟨fun i m H => m = xs.length - i ∧ i ≤ xs.length ∧ ∃ acc s, I i acc s ∧ Rep c s σ (.ob s1.o.length :: d :: τ) (.ref Dd :: v :: τv) H, ⟨xs.length, by simp, Nat.zero_le _, [], _, h0, R3⟩, ?_⟩
  rintro i m H2 ⟨rfl, hi, acc, s2, hI2, R4⟩
  obtain ⟨q1, q2, q4⟩ := hI i acc s2 hI2
  by_cases hlt : i < xs.length
  · obtain ⟨g1, g2⟩ := ok.go i s2 σ _ _ H2 q1 R4.sw hlt
    refine .inr ⟨g1, fun H' => ∃ acc s', I (i + 1) acc s' ∧ Rep c s' σ (.ob s1.o.length :: d :: τ) (.ref Dd :: v :: τv) H', fun H' q => ⟨xs.length - (i + 1), by omega, rfl, by omega, q⟩, fun y H' hy => ?_⟩
    obtain ⟨yd, hy1, R5⟩ := g2 y H' hy
    have R8 : Rep (c.blk scope) ⟨s2.r.set i0 (some yd), s2.o⟩ ((wipe σ vs).set i0 (some y)) (.ob s1.o.length :: d :: τ) (.ref Dd :: v :: τv) H' := R5.rot.setw (scope := scope) q4
    have hw : wipe ((wipe σ vs).set i0 (some y)) vs = wipe σ vs := by rw [wipe_set_mem hi0, wipe_wipe]
    refine ⟨by rw [hw], ?_⟩
    generalize hσ2 : (wipe σ vs).set i0 (some y) = σ2 at *
    have T := turn i acc yd s2 hy1 hI2
    refine Eq.mpr (if_pos (rfl : true = true)) ?_
    intro s0 H0 C cl fp
    refine T _ (xc_blk hX s0 H0 C cl fp) _ _ _ H' R8 _ fun J1 d1 v1 ys Φ1 s3 H3 h3 R9 ok1 => ?_
    obtain ⟨I1, k0, kI, kturn, kdone⟩ := h3
    obtain ⟨m1, m2⟩ := R9.ol
    have R10 : Rep (c.blk scope) s3 σ2 (.ob s1.o.length :: d1 :: d :: τ) (.ref Dd :: v1 :: v :: τv) H3 := R9.sw
    refine ⟨fun j m H => m = ys.length - j ∧ j ≤ ys.length ∧ ∃ acc s, I1 j acc s ∧ Rep (c.blk scope) s σ2 (.ob s1.o.length :: d1 :: d :: τ) (.ref Dd :: v1 :: v :: τv) H, ⟨ys.length, by simp, Nat.zero_le _, acc, s3, k0, R10⟩, ?_⟩
    rintro j m' H4 ⟨rfl, hj, acc1, s4, hI4, R11⟩
    obtain ⟨r1, r2, r4⟩ := kI j acc1 s4 hI4
    by_cases hlt1 : j < ys.length
    · obtain ⟨g3, g4⟩ := ok1.go j s4 σ2 _ _ H4 r1 R11.sw hlt1
      refine .inr ⟨g3, fun H' => ∃ acc s', I1 (j + 1) acc s' ∧ Rep (c.blk scope) s' σ2 (.ob s1.o.length :: d1 :: d :: τ) (.ref Dd :: v1 :: v :: τv) H', fun H' q => ⟨ys.length - (j + 1), by omega, rfl, by omega, q⟩, fun z H5 hz => ?_⟩
      obtain ⟨zd, hz1, R12⟩ := g4 z H5 hz
      have R13 : Rep (c.blk scope) ⟨s4.r.set i1 (some zd), s4.o⟩ ((wipe σ2 [i1]).set i1 (some z)) (.ob s1.o.length :: d1 :: d :: τ) (.ref Dd :: v1 :: v :: τv) H5 := R12.rot.setw (scope := scope) r4
      have hw1 : wipe ((wipe σ2 [i1]).set i1 (some z)) [i1] = wipe σ2 [i1] := by rw [wipe_set_mem (List.mem_singleton.mpr rfl), wipe_wipe]
      refine ⟨by rw [hw1], ?_⟩
      refine Eq.mpr (if_pos (rfl : true = true)) ?_
      intro s0 H0 C cl fp
      refine kturn j acc1 zd s4 hz1 hI4 _ (xc_blk hX s0 H0 C cl fp) _ _ _ H5 R13 _ fun e s5 w H6 h6 Ra => ?_
      obtain ⟨ho, hz0, s6, g, hI5⟩ := h6
      have Rb := Ra.sw
      obtain ⟨p, ws, e1, hp, F, os, _, _, r⟩ := Rb.obj ho
      cases e1
      have hl : ws.length = acc1.length := by
        have := r.length
        have l2 := Rb.pop.len
        simp only [List.length_append, List.length_cons] at this l2 ⊢
        omega
      refine ⟨ws, hp, by omega, acc1 ++ [e], s6, hI5, ?_⟩
      have Rc := Rb.mut (ds' := acc1 ++ [e]) (vs := ws ++ [w]) ho fun F os ws' r1 e1 r2 => by
        rw [hp] at e1
        cases e1
        cases r2 with
        | cons a _ => exact r1.append (.cons a .nil)
      have Rd' := Rc.sw.pop.unw (scope := scope) (σ := σ2) (vs := [i1]) hw1
      exact Rd'.gc g m1 ⟨m2.2.1, m2.1, m2.2.2⟩
    · have e : j = ys.length := by omega
      subst e
      refine .inl ⟨ok1.stop s4 σ2 _ _ H4 r1 R11.sw, ?_⟩
      obtain ⟨s6, g, hI6⟩ := kdone acc1 s4 hI4
      have Ra : Rep c s4 σ2 (.ob s1.o.length :: d :: τ) (.ref Dd :: v :: τv) H4 := R11.sw.pop
      exact ⟨acc1, s6, hI6, gco (Ra.unw (scope := scope) hw) g⟩
  · have e : i = xs.length := by omega
    subst e
    exact .inl ⟨ok.stop s2 σ _ _ H2 q1 R4.sw, Rep.newC R4.pop2 q2 (done acc s2 hI2) l1 l2.2 hq⟩
theorem ae_lc2 (N0 : List Str) (sc0 : Scope) (own : Bool) (i0 i1 : Nat) (ow : List (Str × Nat)) (ok : blkC N0 sc0 scope ow = true) (hi0 : i0 ∈ ow.map (·.2)) (hi1 : i1 ∈ ow.map (·.2)) (hN : c.N[i0]? = some x) (hN1 : c.N[i1]? = some x1) (hx : (relS scope c.sc).names.lookup x = some .local) (hx1 : (relS scope c.sc).names.lookup x1 = some .local)
    (h : AI c (.Name x px) iter s (LcP2 c scope elt iter1 x1 px1 i0 i1 (ow.map (·.2)) own P))
    (hs : ∀ env y, foldedSetIterable iter env y = pure y := by intro _ _; rfl) (hs1 : ∀ env y, foldedSetIterable iter1 env y = pure y := by intro _ _; rfl) (eN : c.N = N0 := by rfl) (eS : c.sc = sc0 := by rfl) : AE c (.ListComp elt [⟨.Name x px, iter, [], 0⟩, ⟨.Name x1 px1, iter1, [], 0⟩] scope pos) s P := by
  refine ⟨?_⟩
  intro X hX σ τ τv H R Q hq
  refine WE.of (pe_lc2 (own := ow) (vs1 := [i1]) (g := gName i0) (g1 := gName i1) hX.calm (by rw [hX.N]; exact hX.nd) pi_w (blkOk_by (by rw [hX.N, hX.sc, eN, eS]; exact ok)) (fun i hi => by rw [List.mem_singleton] at hi; rw [hi]; exact hi1) (fun s0 H0 C cl fp => ?_) (fun s0 H0 C cl fp => pts_nil) (fun s0 H0 C cl fp => ⟨fun p s σ H R I q => q s0 H0 C cl fp p s I⟩) (fun s0 H0 C cl fp => ?_) (fun s0 H0 C cl fp => pts_nil)
    (fun s0 H0 C cl fp => ⟨fun p s σ H Q I q => q s0 H0 C cl fp p s I⟩) (hs _) hs1) (lc2_read hX h hi0 hi1 R hq)
  · have hY := xc_blk hX (scope := scope) s0 H0 C cl fp
    exact pg_name (by rw [hY.N]; exact hY.nd) (by rw [hY.N]; exact hN) (loc_of hY (.inl hx)) (fn_of' hY (.inr hx))
  · have hY := xc_blk hX (scope := scope) s0 H0 C cl fp
    exact pg_name (by rw [hY.N]; exact hY.nd) (by rw [hY.N]; exact hN1) (loc_of hY (.inl hx1)) (fn_of' hY (.inr hx1))
theorem as_lc2 {PO' : Out → Prop} {y : Str} {py spos : Pos} {iy : Nat} (N0 : List Str) (sc0 : Scope) (own : Bool) (i0 i1 : Nat) (ow : List (Str × Nat)) (hy : c.N[iy]? = some y) (hyl : c.sc.names.lookup y = some .local) (hk : c.sc.kind = .function) (hln : (py.line == pos.line) = true) (ha : (scope.names.any fun (n, k) => n == y && (k == .local || k == .cell)) = false)
    (ok : blkC N0 sc0 scope ow = true) (hi0 : i0 ∈ ow.map (·.2)) (hi1 : i1 ∈ ow.map (·.2)) (hN : c.N[i0]? = some x) (hN1 : c.N[i1]? = some x1) (hx : (relS scope c.sc).names.lookup x = some .local) (hx1 : (relS scope c.sc).names.lookup x1 = some .local)
    (h : AI c (.Name x px) iter s (LcP2 c scope elt iter1 x1 px1 i0 i1 (ow.map (·.2)) own (fun d s => PO' (.nx ⟨s.r.set iy (some d), s.o⟩))))
    (hs : ∀ env y, foldedSetIterable iter env y = pure y := by intro _ _; rfl) (hs1 : ∀ env y, foldedSetIterable iter1 env y = pure y := by intro _ _; rfl) (eN : c.N = N0 := by rfl) (eS : c.sc = sc0 := by rfl) : AS c (.Assign [.Name y py] (.ListComp elt [⟨.Name x px, iter, [], 0⟩, ⟨.Name x1 px1, iter1, [], 0⟩] scope pos) spos) s PO' := by
  refine ⟨?_⟩
  intro X hX σ τ τv H R E hq
  refine WS.of (ps_setLc2 (own := ow) (vs1 := [i1]) (g := gName i0) (g1 := gName i1) hX.calm (by rw [hX.N]; exact hX.nd) (by rw [hX.N]; exact hy) (by rw [hX.sc]; exact hyl) (sw_true (by rw [hX.sc]; exact hk) (by rw [hX.sc]; exact hyl) hln ha) pi_w (blkOk_by (by rw [hX.N, hX.sc, eN, eS]; exact ok)) (fun i hi => by rw [List.mem_singleton] at hi; rw [hi]; exact hi1) (fun s0 H0 C cl fp => ?_) (fun s0 H0 C cl fp => pts_nil) (fun s0 H0 C cl fp => ⟨fun p s σ H R I q => q s0 H0 C cl fp p s I⟩) (fun s0 H0 C cl fp => ?_) (fun s0 H0 C cl fp => pts_nil)
    (fun s0 H0 C cl fp => ⟨fun p s σ H Q I q => q s0 H0 C cl fp p s I⟩) (hs _) hs1) (lc2_read (Q := fun x H1 => gName iy x σ H1 E.nx) hX h hi0 hi1 R (fun d s' v H' hp R' => hq.nx _ _ _ hp R'.set))
  · have hY := xc_blk hX (scope := scope) s0 H0 C cl fp
    exact pg_name (by rw [hY.N]; exact hY.nd) (by rw [hY.N]; exact hN) (loc_of hY (.inl hx)) (fn_of' hY (.inr hx))
  · have hY := xc_blk hX (scope := scope) s0 H0 C cl fp
    exact pg_name (by rw [hY.N]; exact hY.nd) (by rw [hY.N]; exact hN1) (loc_of hY (.inl hx1)) (fn_of' hY (.inr hx1))
end
end G9

namespace G9
open PySem PySem.Spec PyProof.Rows L2
variable {c : SC}
section
variable {s : Sta} {P : D → Sta → Prop} {PB : Bool → Sta → Prop} {a b e o : Expr} {es : List Expr} {pos p apos cpos : Pos} {x name : Str}
/-- t + u -/
theorem ae_catT (h : AE c a s fun d1 s1 => AE c b s1 fun d2 s2 => isT d1 fun xs => isT d2 fun ys => xs.length + ys.length ≤ sizeLine ∧ P (.tup (xs ++ ys)) s2) : AE c (.BinOp a .Add b pos) s P := by
  refine ae_bin (rV := fun X => rCatA X.K) (r := fun d1 d2 s2 P => isT d1 fun xs => isT d2 fun ys => xs.length + ys.length ≤ sizeLine ∧ P (.tup (xs ++ ys)) s2) (fun X _ => op_catA) (fun X hX => ?_) h
  intro σ τ τv H s v1 v2 d1 d2 P Q R h hq
  obtain ⟨xs, rfl, ys, rfl, hz, h⟩ := h
  obtain ⟨p2, vs2, rfl, q2, l2, R2⟩ := R.rdt
  obtain ⟨F, os, a, b, e, ra⟩ := R2
  obtain ⟨r2, rb⟩ := RpL.split l2 ra
  cases rb with
  | cons t2 rc =>
    cases rc with
    | cons t1 r =>
      cases id t1 with
      | @tup p1 vs1 _ q1 r1 =>
        have l1 := r1.length
        rw [hX.K]
        refine ⟨p1, p2, vs1, vs2, rfl, rfl, sq_t a.ex q1, q2, by omega, fun e0 => ?_, fun e0 e1 => ?_, fun e0 e1 p hp => ?_⟩
        · subst e0
          cases r1
          exact hq _ _ _ _ h ⟨F, os, a, b, e, .cons t2 r⟩
        · subst e1
          cases r2
          rw [List.append_nil] at h
          exact hq _ _ _ _ h ⟨F, os, a, b, e, .cons t1 r⟩
        · have R3 : Rep c s σ (xs ++ (ys ++ τ)) (vs1 ++ (vs2 ++ τv)) H := ⟨F, os, a, b, e, r1.append (r2.append r)⟩
          have R4 := R3.lay (d := .tup (xs ++ ys)) (o := .tup (vs1 ++ vs2)) hp fun F os r e => by
            obtain ⟨x1, x2⟩ := RpL.split l1 r
            obtain ⟨x3, x4⟩ := RpL.split l2 x2
            exact .tup (.inl (.inl e)) (x1.append x3)
          refine hq _ _ _ _ h (R4.temps fun F os r => ?_)
          cases r with
          | cons r0 r =>
            obtain ⟨_, x2⟩ := RpL.split l1 r
            exact .cons r0 (RpL.split l2 x2).2
theorem cutD_all {α : Type} {l : List α} {lo hi : Option Int} (h : HT.sIx l.length 0 lo = 0 ∧ HT.sIx l.length l.length hi = l.length) : cutD l lo hi = l := by
  unfold cutD
  rw [h.1, h.2, List.drop_zero, Nat.sub_zero, List.take_length]
/-- t[lo:hi] -/
theorem ae_slT {lo hi : Option Expr} {p2 : Pos} (h : AE c e s fun d s1 => isT d fun ds => AO c lo s1 fun i s2 => AO c hi s2 fun j s3 => P (.tup (cutD ds i j)) s3) : AE c (.Subscript e (.Slice lo hi none p2) pos) s P := by
  refine ⟨?_⟩
  intro X hX σ τ τv H R Q hq
  refine WE.of (pe_slice sl_tupA pe_w po_w po_w) (h X hX σ τ τv H R _ fun d s1 v H1 h1 R1 => ?_)
  obtain ⟨ds, rfl, h1⟩ := h1
  refine h1 X hX σ _ _ H1 R1 _ fun i s2 H2 h2 R2 => h2 X hX σ _ _ H2 R2 _ fun j s3 H3 h3 R3 => ?_
  obtain ⟨a, vs, rfl, q, l, R4⟩ := R3.rdt
  rw [hX.K]
  refine ⟨a, vs, rfl, q, fun hw => ?_, fun hw p hp => ?_⟩
  · rw [l] at hw
    have h3 : P (.tup (cutD ds i j)) s3 := h3
    rw [cutD_all hw] at h3
    exact hq _ _ _ _ h3 R3
  · have R5 := R4.lay (d := .tup (cutD ds i j)) (o := .tup (cutV vs i j)) hp fun F os r e => by
      obtain ⟨r1, _⟩ := RpL.split l r
      exact .tup (.inl (.inl e)) r1.cutl
    refine hq _ _ _ _ h3 (R5.temps fun F os r => ?_)
    cases r with
    | cons r0 r =>
      obtain ⟨_, r2⟩ := RpL.split l r
      cases r2 with
      | cons _ r4 => exact .cons r0 r4
/-- tuple(xs) -/
theorem ae_tupleOf (hm : c.mg "tuple" = none) (h : AE c e s fun d s1 => ∃ es, RdL s1 d es ∧ P (.tup es) s1) (hg : IsG c "tuple" := by rfl)
    (he : ∀ env, starEach [e] env = (false, eval e env) :: starEach [] env := by intro _; rfl) : AE c (.Call (.Name "tuple" p) [e] [] pos) s P := by
  refine ae_callT (rV := fun X xs H Q => ∃ p ys, xs = [.ref p] ∧ ((SqL X.K H p ys ∧ ∀ l, H l = none → Q (.ref l) (upd H l (.tup ys))) ∨ (SqT X.K H p ys ∧ Q (.ref p) H))) (r := fun ds s P => ∃ d es, ds = [d] ∧ RdL s d es ∧ P (.tup es) s) (fun X hX => call_tuple_of) (fun X hX => ?_) hm (by decide +kernel) (aa_one (h.mono fun d s1 ⟨es, h1, h2⟩ => ⟨d, es, rfl, h1, h2⟩) he) hg (by decide) (by decide) he (fun _ => rfl)
  intro σ τ τv H s vs ds P Q l R h hq
  obtain ⟨d, es, rfl, hs, h⟩ := h
  obtain ⟨v, rfl⟩ := one_v l
  have R1 : Rep c s σ (d :: τ) (v :: τv) H := R
  obtain ⟨a, ws, rfl, q, l2, R2⟩ := R1.rdl hs
  rw [hX.K]
  refine ⟨a, ws, rfl, .inl ⟨q, fun p hp => ?_⟩⟩
  have R3 := R2.lay (d := .tup es) (o := .tup ws) hp fun F os r e => .tup (.inl (.inl e)) (RpL.split l2 r).1
  refine hq _ _ _ _ h (R3.temps fun F os r => ?_)
  cases r with
  | cons r0 r =>
    obtain ⟨_, r2⟩ := RpL.split l2 r
    cases r2 with
    | cons _ r4 => exact .cons r0 r4
end
end G9

namespace G9
open PySem PySem.Spec PyProof.Rows L2
variable {c : SC}
/-- what stands in a state points at objects that are there -/
structure Bd (s : Sta) : Prop where
  r : ∀ (i : Nat) (d : D), s.r[i]? = some (some d) → D.bnd s.o.length d
  o : ∀ ob ∈ s.o, Ob.bnd s.o.length ob
theorem bd_of {s : Sta} {σ : L2.St} {τ : List D} {τv : List V} {H : Hp} (R : Rep c s σ τ τv H) : Bd s := by
  refine ⟨fun i d h => ?_, fun ob hob => ?_⟩
  · obtain ⟨v, _, R1⟩ := R.slot h
    exact R1.ol.2.1
  · obtain ⟨j, hj, e⟩ := List.getElem_of_mem hob
    cases ob with
    | dead => trivial
    | lst ds =>
      obtain ⟨F, os, a, b, e', r⟩ := R
      have hjl : j < os.length := by rw [a.len]; exact hj
      have hjo : os[j]? = some os[j] := List.getElem?_eq_getElem hjl
      obtain ⟨vs, q1, q2⟩ := a.obj j _ _ hjo (by rw [List.getElem?_eq_getElem hj, e])
      have R2 : Rep c s σ (ds ++ []) (vs ++ []) H := ⟨F, os, a, b, e', q2.append .nil⟩
      have := R2.ol.2
      rw [List.append_nil] at this
      exact this
    | dct tb kvs =>
      obtain ⟨F, os, a, b, e', r⟩ := R
      have hjl : j < os.length := by rw [a.len]; exact hj
      have hjo : os[j]? = some os[j] := List.getElem?_eq_getElem hjl
      obtain ⟨vs, q1, q2⟩ := a.obj j _ _ hjo (by rw [List.getElem?_eq_getElem hj, e])
      have R2 : Rep c s σ (_ ++ []) (_ ++ []) H := ⟨F, os, a, b, e', q2.append .nil⟩
      have := R2.ol.2
      rw [List.append_nil] at this
      exact this
    | ext x ds =>
      obtain ⟨F, os, a, b, e', r⟩ := R
      have hjl : j < os.length := by rw [a.len]; exact hj
      have hjo : os[j]? = some os[j] := List.getElem?_eq_getElem hjl
      obtain ⟨ho, vs, q1, q0, q2⟩ := a.obj j _ _ hjo (by rw [List.getElem?_eq_getElem hj, e])
      have R2 : Rep c s σ (_ ++ []) (_ ++ []) H := ⟨F, os, a, b, e', q2.append .nil⟩
      have := R2.ol.2
      rw [List.append_nil] at this
      exact this
section
variable {s : Sta} {P : D → Sta → Prop} {elt tg iter : Expr} {ifs : List Expr} {scope : Scope} {pos px : Pos} {x : Str} {i0 : Nat}
theorem ae_bd {e : Expr} (h : Bd s → AE c e s P) : AE c e s P := .mk fun X hX σ τ τv H R Q hq => h (bd_of R) X hX σ τ τv H R Q hq
theorem ass_bd {st : List Stmt} {PO' : Out → Prop} (h : Bd s → ASs c st s PO') : ASs c st s PO' := .mk fun X hX σ τ τv H R E hq => h (bd_of R) X hX σ τ τv H R E hq
theorem ai_bd {KK : List D → (Sta → Prop) → Sta → Prop} (h : AI c tg iter s fun xs Φ s1 => Bd s1 → KK xs Φ s1) : AI c tg iter s KK := .mk fun X hX σ τ τv H R Q hq => h X hX σ τ τv H R Q fun J d v xs Φ s1 H1 h1 R1 ok => hq J d v xs Φ s1 H1 (h1 (bd_of R1)) R1 ok
theorem wipe_none {r : List (Option D)} : ∀ {vs : List Nat} {v : Nat}, v ∈ vs → ∀ d, (wipeD r vs)[v]? ≠ some (some d)
  | [], _, h, _, _ => by cases h
  | u :: us, v, h, d, q => by
    unfold wipeD at q
    by_cases e : u = v
    · subst e
      rw [List.getElem?_set] at q
      rw [if_pos rfl] at q
      split at q <;> cases q
    · rw [List.getElem?_set_ne e] at q
      rcases List.mem_cons.mp h with z | z
      · exact e z.symm
      · exact wipe_none z d q
theorem wipeD_set {r : List (Option D)} {vs : List Nat} {v : Nat} {o : Option D} (h : v ∈ vs) : wipeD (r.set v o) vs = wipeD r vs := by
  refine List.ext_getElem? fun i => ?_
  have key : ∀ (us : List Nat) (q : List (Option D)) (i : Nat), i < q.length → (wipeD q us)[i]? = if i ∈ us then some none else q[i]? := fun us => by
    induction us with
    | nil => intro q i hq; simp [wipeD]
    | cons u us ih =>
      intro q i hq
      unfold wipeD
      by_cases e : u = i
      · subst e
        rw [List.getElem?_set_self (by rw [wipeD_len]; exact hq)]
        simp
      · rw [List.getElem?_set_ne e, ih q i hq]
        have : (i ∈ u :: us) ↔ i ∈ us := by simp [Ne.symm e]
        simp only [this]
  by_cases hl : i < r.length
  · rw [key _ _ _ (by simpa using hl), key _ _ _ hl]
    by_cases hi : i ∈ vs
    · rw [if_pos hi, if_pos hi]
    · rw [if_neg hi, if_neg hi, List.getElem?_set_ne (fun e : v = i => hi (by rw [← e]; exact h))]
  · rw [List.getElem?_eq_none (by rw [wipeD_len]; simp; omega), List.getElem?_eq_none (by rw [wipeD_len]; omega)]
/-- a comprehension whose turns leave the state as it is; its list is not changed later. t: which items are kept, ys: what they give -/
def LcM (c : SC) (scope : Scope) (elt : Expr) (ifs : List Expr) (i0 : Nat) (vs : List Nat) (P : D → Sta → Prop) (xs : List D) (Φ : Sta → Prop) (s1 : Sta) : Prop :=
  ∃ (t : D → Bool) (g : D → D), (∀ acc, Φ ⟨wipeD s1.r vs, s1.o ++ [.lst acc]⟩) ∧ xs.length ≤ sizeLine ∧ (∀ d ∈ xs, D.bnd s1.o.length (g d)) ∧
    (∀ d acc, d ∈ xs → AF (c.blk scope) ifs ⟨(wipeD s1.r vs).set i0 (some d), s1.o ++ [.lst acc]⟩ fun b s2 => b = t d ∧ s2 = ⟨(wipeD s1.r vs).set i0 (some d), s1.o ++ [.lst acc]⟩) ∧
    (∀ d acc, d ∈ xs → t d = true → AE (c.blk scope) elt ⟨(wipeD s1.r vs).set i0 (some d), s1.o ++ [.lst acc]⟩ fun e s3 => e = g d ∧ s3 = ⟨(wipeD s1.r vs).set i0 (some d), s1.o ++ [.lst acc]⟩) ∧
    P (.lst ((xs.filter t).map g)) ⟨wipeD s1.r vs, s1.o⟩
theorem AF.mono {P Q : Bool → Sta → Prop} (h : AF c ifs s P) (q : ∀ b s, P b s → Q b s) : AF c ifs s Q := by
  match ifs, h with
  | [], h => exact q _ _ h
  | [t], h => exact .mk fun X hX σ τ τv H R Q' hq => AT.run h X hX σ τ τv H R Q' fun b s1 H1 h1 R1 => hq b s1 H1 (q _ _ h1) R1
theorem lcm_lcp {vs : List Nat} (hi0 : i0 ∈ vs) {xs : List D} {Φ : Sta → Prop} {s1 : Sta} (b : Bd s1) (h : LcM c scope elt ifs i0 vs P xs Φ s1) : LcP c scope elt tg ifs i0 vs false P xs Φ s1 := by
  obtain ⟨t, g, h1, h2, h3, h4, h5, h6⟩ := h
  refine ⟨fun i acc s => acc = (((xs.take i).filter t).map g) ∧ s = ⟨wipeD s1.r vs, s1.o ++ [.lst acc]⟩, ⟨rfl, rfl⟩, ?_, ?_, ?_, h2⟩
  · rintro i acc s ⟨rfl, rfl⟩
    refine ⟨h1 _, by simp, ?_, fun v hv d => wipe_none hv d⟩
    rw [List.length_map]
    refine Nat.le_trans (List.length_filter_le _ _) ?_
    rw [List.length_take]
    exact Nat.min_le_left _ _
  · rintro i acc d s hd ⟨rfl, rfl⟩
    have hm : d ∈ xs := List.mem_of_getElem? hd
    have tk : xs.take (i + 1) = xs.take i ++ [d] := by
      rw [List.take_add_one, hd]
      rfl
    have hw : wipeD ((wipeD s1.r vs).set i0 (some d)) vs = wipeD s1.r vs := by rw [wipeD_set hi0, wipeD_wipeD]
    refine (h4 d _ hm).mono fun b s2 q => ?_
    obtain ⟨rfl, rfl⟩ := q
    by_cases ht : t d = true
    · rw [if_pos ht]
      refine (h5 d _ hm ht).mono fun e s3 q => ?_
      obtain ⟨rfl, rfl⟩ := q
      refine ⟨by simp, _, .refl, ?_, ?_⟩
      · rw [tk, List.filter_append, List.map_append]
        simp [List.filter_cons, ht]
      · show (⟨wipeD _ vs, (s1.o ++ [Ob.lst _]).set s1.o.length (.lst _)⟩ : Sta) = _
        rw [hw, List.set_append_right _ _ (Nat.le_refl _), Nat.sub_self]
        rfl
    · rw [if_neg ht]
      refine ⟨_, .refl, ?_, ?_⟩
      · rw [tk, List.filter_append]
        simp [List.filter_cons, ht]
      · show (⟨wipeD _ vs, _⟩ : Sta) = _
        rw [hw]
  · rintro acc s ⟨rfl, rfl⟩
    rw [List.take_length]
    have e2 : (s1.o ++ [Ob.lst ((xs.filter t).map g)]).take s1.o.length = s1.o := by simp
    show D.bndL _ _ ∧ _ ∧ _ ∧ _
    refine ⟨?_, ?_, ?_, ?_⟩
    · refine D.bndL_iff.mpr fun d hd => ?_
      obtain ⟨y, hy, rfl⟩ := List.mem_map.mp hd
      exact h3 y (List.mem_filter.mp hy).1
    · intro i d hd
      exact b.r i d (wipeD_get hd).2
    · intro ob hob
      have hob' : ob ∈ s1.o := by
        have : ob ∈ (s1.o ++ [Ob.lst ((xs.filter t).map g)]).take s1.o.length := hob
        rw [e2] at this
        exact this
      exact b.o ob hob'
    · show P _ ⟨_, (s1.o ++ [Ob.lst ((xs.filter t).map g)]).take s1.o.length⟩
      rw [e2]
      exact h6
theorem ae_lcm (N0 : List Str) (sc0 : Scope) (i0 : Nat) (ow : List (Str × Nat)) (ok : blkC N0 sc0 scope ow = true) (hi0 : i0 ∈ ow.map (·.2)) (hN : c.N[i0]? = some x) (hx : (relS scope c.sc).names.lookup x = some .local) (hlen : ifs.length ≤ 1) (h : AI c (.Name x px) iter s (LcM c scope elt ifs i0 (ow.map (·.2)) P))
    (hs : ∀ env y, foldedSetIterable iter env y = pure y := by intro _ _; rfl) (eN : c.N = N0 := by rfl) (eS : c.sc = sc0 := by rfl) : AE c (.ListComp elt [⟨.Name x px, iter, ifs, 0⟩] scope pos) s P :=
  ae_lc N0 sc0 false i0 ow ok hi0 hN hx hlen (ai_bd <| .mk fun X hX σ τ τv H R Q hq => h X hX σ τ τv H R Q fun J d v xs Φ s1 H1 h1 R1 ok => hq J d v xs Φ s1 H1 (fun b => lcm_lcp hi0 b h1) R1 ok) hs eN eS
theorem as_lcm {PO' : Out → Prop} {y : Str} {py spos : Pos} {iy : Nat} (N0 : List Str) (sc0 : Scope) (i0 : Nat) (ow : List (Str × Nat)) (hy : c.N[iy]? = some y) (hyl : c.sc.names.lookup y = some .local) (hk : c.sc.kind = .function) (hln : (py.line == pos.line) = true) (ha : (scope.names.any fun (n, k) => n == y && (k == .local || k == .cell)) = false)
    (ok : blkC N0 sc0 scope ow = true) (hi0 : i0 ∈ ow.map (·.2)) (hN : c.N[i0]? = some x) (hx : (relS scope c.sc).names.lookup x = some .local) (hlen : ifs.length ≤ 1) (h : AI c (.Name x px) iter s (LcM c scope elt ifs i0 (ow.map (·.2)) (fun d s => PO' (.nx ⟨s.r.set iy (some d), s.o⟩))))
    (hs : ∀ env y, foldedSetIterable iter env y = pure y := by intro _ _; rfl) (eN : c.N = N0 := by rfl) (eS : c.sc = sc0 := by rfl) : AS c (.Assign [.Name y py] (.ListComp elt [⟨.Name x px, iter, ifs, 0⟩] scope pos) spos) s PO' :=
  as_lc N0 sc0 false i0 ow hy hyl hk hln ha ok hi0 hN hx hlen (ai_bd <| .mk fun X hX σ τ τv H R Q hq => h X hX σ τ τv H R Q fun J d v xs Φ s1 H1 h1 R1 ok => hq J d v xs Φ s1 H1 (fun b => lcm_lcp hi0 b h1) R1 ok) hs eN eS
end
end G9

namespace G9
open PySem PySem.Spec PyProof.Rows L2
variable {c : SC}
/-! ### rules that take the values as they come (for the macros of gen.py) -/
theorem OpR.orr {X : Cx} {f : Value → Value → Sem Value} {r1 r2 : R2} (h1 : OpR X f r1) (h2 : OpR X f r2) : OpR X f (fun x y H Q => r1 x y H Q ∨ r2 x y H Q) := by
  intro pins s σ H x y v u Q I rx ry q
  rcases q with q | q
  · exact h1 pins s σ H x y v u Q I rx ry q
  · exact h2 pins s σ H x y v u Q I rx ry q
theorem ROp.orr {rV1 rV2 : V → V → Hp → VK → Prop} {r1 r2 : D → D → Sta → (D → Sta → Prop) → Prop} (h1 : ROp c rV1 r1) (h2 : ROp c rV2 r2) : ROp c (fun x y H Q => rV1 x y H Q ∨ rV2 x y H Q) (fun d1 d2 s P => r1 d1 d2 s P ∨ r2 d1 d2 s P) := by
  intro σ τ τv H s v1 v2 d1 d2 P Q R h hq
  rcases h with h | h
  · exact .inl (h1 σ τ τv H s v1 v2 d1 d2 P Q R h hq)
  · exact .inr (h2 σ τ τv H s v1 v2 d1 d2 P Q R h hq)
theorem rop_catT {K : PySem.W.Frag} (e : K = c.K) : ROp c (rCatA K) (fun d1 d2 s2 P => isT d1 fun xs => isT d2 fun ys => xs.length + ys.length ≤ sizeLine ∧ P (.tup (xs ++ ys)) s2) := by
  have e0K := e
  clear e
  intro σ τ τv H s v1 v2 d1 d2 P Q R h hq
  obtain ⟨xs, rfl, ys, rfl, hz, h⟩ := h
  obtain ⟨p2, vs2, rfl, q2, l2, R2⟩ := R.rdt
  obtain ⟨F, os, a, b, e, ra⟩ := R2
  obtain ⟨r2, rb⟩ := RpL.split l2 ra
  cases rb with
  | cons t2 rc =>
    cases rc with
    | cons t1 r =>
      cases id t1 with
      | @tup p1 vs1 _ q1 r1 =>
        have l1 := r1.length
        rw [e0K]
        refine ⟨p1, p2, vs1, vs2, rfl, rfl, sq_t a.ex q1, q2, by omega, fun e0 => ?_, fun e0 e1 => ?_, fun e0 e1 p hp => ?_⟩
        · subst e0
          cases r1
          exact hq _ _ _ _ h ⟨F, os, a, b, e, .cons t2 r⟩
        · subst e1
          cases r2
          rw [List.append_nil] at h
          exact hq _ _ _ _ h ⟨F, os, a, b, e, .cons t1 r⟩
        · have R3 : Rep c s σ (xs ++ (ys ++ τ)) (vs1 ++ (vs2 ++ τv)) H := ⟨F, os, a, b, e, r1.append (r2.append r)⟩
          have R4 := R3.lay (d := .tup (xs ++ ys)) (o := .tup (vs1 ++ vs2)) hp fun F os r e => by
            obtain ⟨x1, x2⟩ := RpL.split l1 r
            obtain ⟨x3, x4⟩ := RpL.split l2 x2
            exact .tup (.inl (.inl e)) (x1.append x3)
          refine hq _ _ _ _ h (R4.temps fun F os r => ?_)
          cases r with
          | cons r0 r =>
            obtain ⟨_, x2⟩ := RpL.split l1 r
            exact .cons r0 (RpL.split l2 x2).2
section
variable {s : Sta} {P : D → Sta → Prop} {PB : Bool → Sta → Prop} {a b e : Expr} {es : List Expr} {pos p : Pos} {x : Str}
theorem eNil : ("" : Str) = S [] := by decide +kernel
theorem ae_min2 {e2 : Expr} (hm : c.mg "min" = none) (h : AE c e s fun d s1 => AE c e2 s1 fun d2 s2 => isI d fun i => isI d2 fun j => P (.int (min i j)) s2) (hg : IsG c "min" := by rfl)
    (he : ∀ env, starEach [e, e2] env = (false, eval e env) :: starEach [e2] env := by intro _; rfl) (he2 : ∀ env, starEach [e2] env = (false, eval e2 env) :: starEach [] env := by intro _; rfl) (hpl : ∀ env, (backTo pos (starEach [e2] env)).any (·.1) = false := by intro _; rfl) : AE c (.Call (.Name "min" p) [e, e2] [] pos) s P := by
  refine ae_callB (r := fun ds s P => ∃ i j, ds = [.int i, .int j] ∧ P (.int (min i j)) s) (fun X hX => call_min2 hX.calm) (fun X _ => ?_) hm bv_min (aa_two' (h.mono fun d s1 q => q.mono fun d2 s2 ⟨i, h1, j, h2, h3⟩ => ⟨i, j, by rw [h1, h2], h3⟩) he he2) hg (by decide) (by decide) he hpl
  intro σ τ τv H s vs ds P Q l R h hq
  obtain ⟨i, j, rfl, h⟩ := h
  obtain ⟨v, w, rfl⟩ := two_v l
  have R1 : Rep c s σ (.int i :: .int j :: τ) (v :: w :: τv) H := R
  have e1 := R1.int
  have e2 := R1.pop.int
  subst e1 e2
  refine ⟨i, j, rfl, hq _ _ _ _ h (R1.pop.pop.push fun _ _ => ?_)⟩
  have : (if j < i then j else i) = min i j := by
    split <;> omega
  rw [this]
  exact .int _
/-- what `+` asks of its values -/
def AddR (d1 d2 : D) (s : Sta) (P : D → Sta → Prop) : Prop := r2I (fun _ _ => True) (fun i j => .int (i + j)) d1 d2 s P ∨ ((isS d1 fun l => isS d2 fun m => l.length + m.length ≤ sizeLine ∧ P (.str (l ++ m)) s) ∨ (isT d1 fun xs => isT d2 fun ys => xs.length + ys.length ≤ sizeLine ∧ P (.tup (xs ++ ys)) s))
theorem add_i {i j : Int} (h : P (.int (i + j)) s) : AddR (.int i) (.int j) s P := .inl ⟨i, rfl, j, rfl, trivial, h⟩
theorem add_s {l m : List Nat} (hz : l.length + m.length ≤ sizeLine) (h : P (.str (l ++ m)) s) : AddR (.str l) (.str m) s P := .inr (.inl ⟨l, rfl, m, rfl, hz, h⟩)
theorem add_t {l m : List D} (hz : l.length + m.length ≤ sizeLine) (h : P (.tup (l ++ m)) s) : AddR (.tup l) (.tup m) s P := .inr (.inr ⟨l, rfl, m, rfl, hz, h⟩)
theorem ae_plus (h : AE c a s fun d1 s1 => AE c b s1 fun d2 s2 => AddR d1 d2 s2 P) : AE c (.BinOp a .Add b pos) s P :=
  ae_bin (rV := fun X x y H Q => rI0 (fun i j => .int (i + j)) x y H Q ∨ ((∃ i j, x = .str i ∧ y = .str j ∧ i.length + j.length ≤ sizeLine ∧ Q (.str (i ++ j)) H) ∨ rCatA X.K x y H Q)) (r := AddR)
    (fun X hX => OpR.orr op_add (OpR.orr op_add_str op_catA))
    (fun X hX => ROp.orr (rop_I0 fun i j _ _ => .int (i + j)) (ROp.orr (rop_S (C := fun l m => l.length + m.length ≤ sizeLine) (fun l m h => by rw [S_len, S_len]; exact h) fun l m _ F os => by
      rw [S_app]
      exact .str _) (rop_catT hX.K))) h
/-- what `<` asks -/
def LtR (d1 d2 : D) (s : Sta) (P : D → Sta → Prop) : Prop := r2I (fun _ _ => True) (fun i j => .bl (decide (i < j))) d1 d2 s P ∨ ((isS d1 fun l => isS d2 fun m => P (.bl (decide (l < m))) s) ∨ ∃ p q, pyD d1 = some p ∧ pyD d2 = some q ∧ PySem.W.alike p q = true ∧ p ≠ .none ∧ p.depth ≤ 64 ∧ P (.bl (PySem.W.dataLt p q)) s)
theorem lt_i {i j : Int} (h : P (.bl (decide (i < j))) s) : LtR (.int i) (.int j) s P := .inl ⟨i, rfl, j, rfl, trivial, h⟩
theorem lt_s {l m : List Nat} (h : P (.bl (decide (l < m))) s) : LtR (.str l) (.str m) s P := .inr (.inl ⟨l, rfl, m, rfl, h⟩)
theorem lt_d {d1 d2 : D} {p q : PyData} (h1 : pyD d1 = some p) (h2 : pyD d2 = some q) (h3 : PySem.W.alike p q = true) (h4 : p ≠ .none) (h5 : p.depth ≤ 64) (h : P (.bl (PySem.W.dataLt p q)) s) : LtR d1 d2 s P := .inr (.inr ⟨p, q, h1, h2, h3, h4, h5, h⟩)
theorem rop_ltS : ROp c (fun x y H Q => ∃ i j, x = .str i ∧ y = .str j ∧ Q (.bl (decide (i.cps.toList < j.cps.toList))) H) (fun d1 d2 s P => isS d1 fun l => isS d2 fun m => P (.bl (decide (l < m))) s) := by
  intro σ τ τv H s v1 v2 d1 d2 P Q R h hq
  obtain ⟨l, rfl, m, rfl, h⟩ := h
  have e2 := R.str
  have e1 := R.pop.str
  subst e1 e2
  refine ⟨_, _, rfl, rfl, hq _ _ _ _ h (R.pop.pop.push fun F os => ?_)⟩
  rw [S_list, S_list]
  exact .bl _
theorem rop_ltD {K : PySem.W.Frag} (e : K = c.K) : ROp c (rLtD K) (fun d1 d2 s P => ∃ p q, pyD d1 = some p ∧ pyD d2 = some q ∧ PySem.W.alike p q = true ∧ p ≠ .none ∧ p.depth ≤ 64 ∧ P (.bl (PySem.W.dataLt p q)) s) := by
  intro σ τ τv H s v1 v2 d1 d2 P Q R h hq
  obtain ⟨p, q, h1, h2, ha, hn, hz, h⟩ := h
  obtain ⟨e1, e2⟩ := R.dp2 h1 h2
  exact ⟨p, q, e ▸ e1, e ▸ e2, ha, hn, hz, hq _ _ _ _ h (R.pop.pop.push fun _ _ => .bl _)⟩
theorem ac_ltU (h : AE c a s fun d1 s1 => AE c b s1 fun d2 s2 => LtR d1 d2 s2 P) : AC c .Lt a b s P :=
  ac_op (rV := fun X x y H Q => rI0 (fun i j => .bl (decide (i < j))) x y H Q ∨ ((∃ i j, x = .str i ∧ y = .str j ∧ Q (.bl (decide (i.cps.toList < j.cps.toList))) H) ∨ rLtD X.K x y H Q)) (r := LtR)
    (fun X hX => OpR.orr op_lt (OpR.orr op_lt_str (op_ltD hX.room.units)))
    (fun X hX => ROp.orr (rop_I0 fun i j _ _ => .bl _) (ROp.orr rop_ltS (rop_ltD hX.K))) h
/-- subscripts of lists, tuples, texts -/
def SubR (d1 d2 : D) (s : Sta) (P : D → Sta → Prop) : Prop := (isI d2 fun i => ∃ e, IxD s d1 i e ∧ P e s) ∨ (isS d1 fun l => isI d2 fun i => ∃ k, l.length ≤ sizeLine ∧ atI l i = some k ∧ P (.str [k]) s)
theorem sub_i {d e : D} {i : Int} (hx : IxD s d i e) (h : P e s) : SubR d (.int i) s P := .inl ⟨i, rfl, e, hx, h⟩
theorem sub_s {l : List Nat} {i : Int} {k : Nat} (hz : l.length ≤ sizeLine) (hx : atI l i = some k) (h : P (.str [k]) s) : SubR (.str l) (.int i) s P := .inr ⟨l, rfl, i, rfl, k, hz, hx, h⟩
theorem ae_subU (h : AE c a s fun d1 s1 => AE c b s1 fun d2 s2 => SubR d1 d2 s2 P) (hs : PlainIx b := by intro _ _; rfl) : AE c (.Subscript a b pos) s P := by
  refine ⟨?_⟩
  intro X hX σ τ τv H R Q hq
  refine WE.of (pe_ix (IxR.or (IxR.or ix_list ix_tup) ix_str) pe_w pe_w hs) (h X hX σ τ τv H R _ fun d1 s1 v1 H1 h1 R1 => h1 X hX σ _ _ H1 R1 _ fun d2 s2 v2 H2 h2 R2 => ?_)
  rcases h2 with h2 | h2
  · refine .inl ?_
    rw [hX.K]
    exact rop_ix _ _ _ _ _ _ _ _ _ _ _ R2 h2 hq
  · obtain ⟨l, rfl, i, rfl, k, hl, hk, h2⟩ := h2
    have e2 := R2.int
    have e1 := R2.pop.str
    subst e1 e2
    refine .inr ⟨S l, i, k, rfl, rfl, by rw [S_len]; exact hl, by rw [S_list]; exact hk, hq _ _ _ _ h2 (R2.pop.pop.push fun _ _ => ?_)⟩
    exact .str [k]
/-- in -/
def InR (neg : Bool) (d1 d2 : D) (s : Sta) (P : D → Sta → Prop) : Prop := (∃ ds, SeqD s d2 ds ∧ flatD d1 = true ∧ ds.all flatD = true ∧ P (.bl (if neg then !inD d1 ds else inD d1 ds)) s) ∨ (∃ k m, d1 = .str [k] ∧ d2 = .str m ∧ P (.bl (if neg then !decide (k ∈ m) else decide (k ∈ m))) s)
theorem in_q {neg : Bool} {d1 d2 : D} {ds : List D} (hs : SeqD s d2 ds) (h1 : flatD d1 = true) (h2 : ds.all flatD = true) (h : P (.bl (if neg then !inD d1 ds else inD d1 ds)) s) : InR neg d1 d2 s P := .inl ⟨ds, hs, h1, h2, h⟩
theorem in_s {neg : Bool} {k : Nat} {m : List Nat} (h : P (.bl (if neg then !decide (k ∈ m) else decide (k ∈ m))) s) : InR neg (.str [k]) (.str m) s P := .inr ⟨k, m, rfl, rfl, h⟩
theorem rop_inS : ROp c (fun x y H Q => ∃ k j, x = .str (S [k]) ∧ y = .str j ∧ Q (.bl (decide (k ∈ j.cps.toList))) H) (fun d1 d2 s P => ∃ k m, d1 = .str [k] ∧ d2 = .str m ∧ P (.bl (decide (k ∈ m))) s) := by
  intro σ τ τv H s v1 v2 d1 d2 P Q R h hq
  obtain ⟨k, m, rfl, rfl, h⟩ := h
  have e2 := R.str
  have e1 := R.pop.str
  subst e1 e2
  refine ⟨k, _, rfl, rfl, hq _ _ _ _ h (R.pop.pop.push fun F os => ?_)⟩
  rw [S_list]
  exact .bl _
theorem rop_notInS : ROp c (fun x y H Q => ∃ k j, x = .str (S [k]) ∧ y = .str j ∧ Q (.bl (!decide (k ∈ j.cps.toList))) H) (fun d1 d2 s P => ∃ k m, d1 = .str [k] ∧ d2 = .str m ∧ P (.bl (!decide (k ∈ m))) s) := by
  intro σ τ τv H s v1 v2 d1 d2 P Q R h hq
  obtain ⟨k, m, rfl, rfl, h⟩ := h
  have e2 := R.str
  have e1 := R.pop.str
  subst e1 e2
  refine ⟨k, _, rfl, rfl, hq _ _ _ _ h (R.pop.pop.push fun F os => ?_)⟩
  rw [S_list]
  exact .bl _
theorem ac_inU (h : AE c a s fun d1 s1 => AE c b s1 fun d2 s2 => InR false d1 d2 s2 P) : AC c .In a b s P :=
  ac_op (rV := fun X x y H Q => rIn c.K false x y H Q ∨ (∃ k j, x = .str (S [k]) ∧ y = .str j ∧ Q (.bl (decide (k ∈ j.cps.toList))) H)) (r := InR false)
    (fun X hX => OpR.orr (by rw [← hX.K]; exact op_in_seq) op_in_sign) (fun X hX => ROp.orr rop_in rop_inS) h
theorem ac_notInU (h : AE c a s fun d1 s1 => AE c b s1 fun d2 s2 => InR true d1 d2 s2 P) : AC c .NotIn a b s P :=
  ac_op (rV := fun X x y H Q => rIn c.K true x y H Q ∨ (∃ k j, x = .str (S [k]) ∧ y = .str j ∧ Q (.bl (!decide (k ∈ j.cps.toList))) H)) (r := InR true)
    (fun X hX => OpR.orr (by rw [← hX.K]; exact op_notIn_seq) op_notIn_sign) (fun X hX => ROp.orr rop_in rop_notInS) h
/-- slices of texts, tuples, lists -/
def SlcR (d : D) (i j : Option Int) (s : Sta) (P : D → Sta → Prop) : Prop := (∃ l, d = .str l ∧ l.length ≤ sizeLine ∧ P (.str (cutD l i j)) s) ∨ ((∃ ds, d = .tup ds ∧ P (.tup (cutD ds i j)) s) ∨ ∃ ds, RdL s d ds ∧ P (.lst (cutD ds i j)) s)
theorem slc_s {l : List Nat} {i j : Option Int} (hz : l.length ≤ sizeLine) (h : P (.str (cutD l i j)) s) : SlcR (.str l) i j s P := .inl ⟨l, rfl, hz, h⟩
theorem slc_t {ds : List D} {i j : Option Int} (h : P (.tup (cutD ds i j)) s) : SlcR (.tup ds) i j s P := .inr (.inl ⟨ds, rfl, h⟩)
theorem slc_l {ds : List D} {d : D} {i j : Option Int} (hd : RdL s d ds) (h : P (.lst (cutD ds i j)) s) : SlcR d i j s P := .inr (.inr ⟨ds, hd, h⟩)
theorem ae_slU {lo hi : Option Expr} {p2 : Pos} (h : AE c e s fun d s1 => AO c lo s1 fun i s2 => AO c hi s2 fun j s3 => SlcR d i j s3 P) : AE c (.Subscript e (.Slice lo hi none p2) pos) s P := by
  refine ⟨?_⟩
  intro X hX σ τ τv H R Q hq
  refine WE.of (pe_slice (L2.SlR.or sl_str (L2.SlR.or sl_tupA sl_list)) pe_w po_w po_w) (h X hX σ τ τv H R _ fun d s1 v H1 h1 R1 => h1 X hX σ _ _ H1 R1 _ fun i s2 H2 h2 R2 => h2 X hX σ _ _ H2 R2 _ fun j s3 H3 h3 R3 => ?_)
  rcases h3 with ⟨l, rfl, hz, h3⟩ | ⟨ds, rfl, h3⟩ | ⟨ds, hd, h3⟩
  · have e1 := R3.str
    subst e1
    refine .inl ⟨S l, rfl, by rw [S_len]; exact hz, hq _ _ _ _ h3 (R3.pop.push fun F os => ?_)⟩
    have : cutS (S l) i j = S (cutD l i j) := by
      unfold cutS cutD
      rw [S_list, S_len]
    rw [this]
    exact .str _
  · refine .inr (.inl ?_)
    obtain ⟨a, vs, rfl, q, l, R4⟩ := R3.rdt
    rw [hX.K]
    refine ⟨a, vs, rfl, q, fun hw => ?_, fun hw p hp => ?_⟩
    · rw [l] at hw
      have h3 : P (.tup (cutD ds i j)) s3 := h3
      rw [cutD_all hw] at h3
      exact hq _ _ _ _ h3 R3
    · have R5 := R4.lay (d := .tup (cutD ds i j)) (o := .tup (cutV vs i j)) hp fun F os r e => by
        obtain ⟨r1, _⟩ := RpL.split l r
        exact .tup (.inl (.inl e)) r1.cutl
      refine hq _ _ _ _ h3 (R5.temps fun F os r => ?_)
      cases r with
      | cons r0 r =>
        obtain ⟨_, r2⟩ := RpL.split l r
        cases r2 with
        | cons _ r4 => exact .cons r0 r4
  · refine .inr (.inr ?_)
    obtain ⟨a, vs, rfl, q, l, R4⟩ := R3.rdl hd
    rw [hX.K]
    refine ⟨a, vs, rfl, q, fun p hp => ?_⟩
    have R5 := R4.lay (d := .lst (cutD ds i j)) (o := .lst (cutV vs i j)) hp fun F os r e => by
      obtain ⟨r1, _⟩ := RpL.split l r
      exact .lst (.inl (.inl e)) r1.cutl
    refine hq _ _ _ _ h3 (R5.temps fun F os r => ?_)
    cases r with
    | cons r0 r =>
      obtain ⟨_, r2⟩ := RpL.split l r
      cases r2 with
      | cons _ r4 => exact .cons r0 r4

end
end G9

namespace G9
open PySem PySem.Spec PyProof.Rows L2
variable {c : SC}
section
variable {s : Sta} {P : D → Sta → Prop} {PO' : Out → Prop} {a b e o : Expr} {es : List Expr} {pos p apos cpos : Pos} {x : Str}
theorem take_app {α : Type} (l m : List α) : (l ++ m).take l.length = l := by simp
/-- what an expression made and needs no more is forgotten -/
theorem ae_pure (h : Bd s → AE c e s fun d s1 => s1.r = s.r ∧ (∃ G, s1.o = s.o ++ G) ∧ D.bnd s.o.length d ∧ P d s) : AE c e s P :=
  ae_bd fun b => .mk fun X hX σ τ τv H R Q hq => by
    obtain ⟨l1, l2⟩ := R.ol
    refine h b X hX σ τ τv H R Q fun d s1 v H1 ⟨e1, ⟨G, e2⟩, hb, hp⟩ R1 => hq d s v H1 hp ?_
    have e3 : s1.o.take s.o.length = s.o := by rw [e2, take_app]
    have g : Gc s.o.length s1 ⟨s.r, s1.o.take s.o.length⟩ := .cut s.o.length s.r (Nat.le_refl _) (by rw [e1]) (fun i d' q => ⟨by rw [e1]; exact q, b.r i d' q⟩) (by rw [e3]; exact b.o)
    rw [e3] at g
    exact R1.gc g l1 ⟨hb, l2⟩
/-- objects from the n-th on are forgotten ahead of a statement -/
theorem ass_cut {st : List Stmt} {O G : List Ob} {r : List (Option D)} (h : ASs c st ⟨r, O⟩ PO') (hr : slB O.length r) (hO : ∀ ob ∈ O, Ob.bnd O.length ob) (hm : c.os0.length ≤ O.length) (hτ : ∀ σ τ τv H, Rep c ⟨r, O ++ G⟩ σ τ τv H → D.bndL O.length τ) : ASs c st ⟨r, O ++ G⟩ PO' := .mk fun X hX σ τ τv H R E hq => by
  have e3 : (O ++ G).take O.length = O := take_app _ _
  have g : Gc O.length ⟨r, O ++ G⟩ ⟨r, (O ++ G).take O.length⟩ := .cut O.length r (Nat.le_refl _) rfl (fun i d q => ⟨q, slB_get hr i d q⟩) (by show ∀ ob ∈ (O ++ G).take O.length, _; rw [e3]; exact hO)
  rw [e3] at g
  exact h X hX σ τ τv H (R.gc g hm (hτ _ _ _ _ R)) E hq
def blk (t : List Nat) : List (List Nat) := (t.map fun k => [k]) ++ [[]]
theorem blk_len (t : List Nat) : (blk t).length = t.length + 1 := by simp [blk]
theorem signs_blk (t : List Nat) : signs t ++ [D.str []] = (blk t).map D.str := by simp [signs, blk]
/-- list(e) + [""] -/
theorem ae_blk {p1 p2 p3 p4 : Pos} {j : Nat} (hm : c.mg "list" = none) (h : AE c e s fun d s1 => isS d fun l => l.length ≤ 1000 ∧ s1 = s ∧ P (.lst ((blk l).map D.str)) s) (hg : IsG c "list" := by rfl)
    (he : ∀ env, starEach [e] env = (false, eval e env) :: starEach [] env := by intro _; rfl) : AE c (.BinOp (.Call (.Name "list" p) [e] [] p1) .Add (.List [.Constant (.str "") j p2] p3) p4) s P := by
  have sl : sizeLine = 16777216 := rfl
  refine ae_pure fun b => ae_catO false (ae_listS true hm (h.mono fun d s1 ⟨l, e1, hz, e2, q⟩ => ?_) hg he)
  subst e1 e2
  refine ⟨l, rfl, by omega, ?_⟩
  rw [if_pos rfl]
  refine ae_lstO (aa_cons (ae_str eNil (aa_nil ⟨Nat.le_of_ble_eq_true rfl, ?_⟩)) fun _ => rfl)
  have hX : (s1.o ++ [Ob.lst (signs l)] ++ [Ob.lst [D.str []]])[s1.o.length]? = some (.lst (signs l)) := by simp
  have hY : (s1.o ++ [Ob.lst (signs l)] ++ [Ob.lst [D.str []]])[s1.o.length + 1]? = some (.lst [D.str []]) := by simp
  have hZ : (s1.o ++ [Ob.lst (signs l)]).length = s1.o.length + 1 := by simp
  refine ⟨s1.o.length, s1.o.length + 1, _, _, rfl, by rw [← hZ], hX, hY, by simp [signs]; omega, ?_⟩
  rw [signs_blk]
  refine (show _ ∧ _ from ⟨rfl, ⟨_, List.append_assoc _ _ _⟩, ?_, q⟩)
  unfold D.bnd
  exact D.bndL_iff.mpr fun d hd => by
    obtain ⟨x, _, rfl⟩ := List.mem_map.mp hd
    trivial
/-- xs.index(y) -/
theorem ae_lindex (h : AE c o s fun d s1 => (∃ ds, RdL s1 d ds) ∧ AE c e s1 fun y s2 => ∃ (ds : List D) (j : Nat) (z : D), RdL s2 d ds ∧ flatD y = true ∧ ds.all flatD = true ∧ ds[j]? = some z ∧ eqF z y = true ∧ (∀ (m : Nat) (z' : D), m < j → ds[m]? = some z' → eqF z' y = false) ∧ P (.int (j : Nat)) s2)
    (hbase : ∀ env, attributeBase o "index" env (eval o env) = eval o env := by intro _; rfl) (hline : (apos.endLine == cpos.line) = true := by rfl) (hs : ∀ env, starEach [e] env = (false, eval e env) :: starEach [] env := by intro _; rfl)
    (hfew : ∀ env, ((backTo cpos (starEach [e] env)).all (fun x => !x.1) && (backToKw cpos (keywordEach [] env)).all (fun x => x.1.isSome)
      && decide ([e].length + ([] : List Keyword).length + (if ([] : List Keyword).isEmpty then 0 else 1) < 30)) = true := by intro _; rfl) : AE c (.Call (.Attribute o "index" apos) [e] [] cpos) s P := by
  refine ae_bm PySem.F.plainAttrs_list PySem.F.slot_list_index PySem.F.type_list_index (r := fun d ds s P => ∃ y, ds = [y] ∧ ∃ (ds : List D) (j : Nat) (z : D), RdL s d ds ∧ flatD y = true ∧ ds.all flatD = true ∧ ds[j]? = some z ∧ eqF z y = true ∧ (∀ (m : Nat) (z' : D), m < j → ds[m]? = some z' → eqF z' y = false) ∧ P (.int (j : Nat)) s) (fun X hX => mt_index) (fun X hX => ?_)
    (h.mono fun d s1 ⟨⟨ds, h1⟩, h3⟩ => ⟨.inr ⟨rfl, ds, h1⟩, aa_one (h3.mono fun y s2 h => ⟨y, rfl, h⟩) hs⟩) hbase hfew hline hs (fun _ => rfl)
  intro σ τ τv H s v vs d ds P Q l R h hq
  obtain ⟨y, rfl, ds, j, z, hd, fy, fd, hz, ez, hlt, h⟩ := h
  obtain ⟨w, rfl⟩ := one_v l
  have R0 : Rep c s σ (y :: d :: τ) (w :: v :: τv) H := R
  obtain ⟨a, vs, rfl, q, ln, R2⟩ := R0.sw.rdl hd
  obtain ⟨F, os, _, _, _, r⟩ := R2
  obtain ⟨r1, r2⟩ := RpL.split ln r
  cases r2 with
  | cons _ r3 =>
    cases r3 with
    | cons ry _ =>
      obtain ⟨zv, hzv, rz⟩ := r1.get hz
      have fz : flatD z = true := List.all_eq_true.mp fd z (List.mem_of_getElem? hz)
      refine ⟨a, vs, w, j, zv, rfl, rfl, by rw [hX.K]; exact q, flat_ok ry fy, flats_ok r1 fd, hzv, by rw [eqF_ok rz ry fz fy]; exact ez, fun m z' hm hz' => ?_, hq _ _ _ _ h (R0.pop.pop.push fun _ _ => .int _)⟩
      obtain ⟨d', hd', rd'⟩ := r1.getv hz'
      rw [eqF_ok rd' ry (List.all_eq_true.mp fd d' (List.mem_of_getElem? hd')) fy]
      exact hlt m d' hm hd'
/-! ### == and in of data -/
theorem rop_eqD {K : PySem.W.Frag} (e : K = c.K) : ROp c (rEqD K) fun d1 d2 s P => ∃ p q, pyD d1 = some p ∧ pyD d2 = some q ∧ SeqAt.shaped p = true ∧ SeqAt.shaped q = true ∧ P (.bl (PyData.eqv p q)) s := by
  intro σ τ τv H s v1 v2 d1 d2 P Q R h hq
  obtain ⟨p, q, h1, h2, a, b, h⟩ := h
  obtain ⟨e1, e2⟩ := R.dp2 h1 h2
  exact ⟨p, q, e ▸ e1, e ▸ e2, a, b, hq _ _ _ _ h (R.pop.pop.push fun _ _ => .bl _)⟩
theorem rop_neD {K : PySem.W.Frag} (e : K = c.K) : ROp c (rNeD K) fun d1 d2 s P => ∃ p q, pyD d1 = some p ∧ pyD d2 = some q ∧ SeqAt.shaped p = true ∧ SeqAt.shaped q = true ∧ P (.bl (!PyData.eqv p q)) s := by
  intro σ τ τv H s v1 v2 d1 d2 P Q R h hq
  obtain ⟨p, q, h1, h2, a, b, h⟩ := h
  obtain ⟨e1, e2⟩ := R.dp2 h1 h2
  exact ⟨p, q, e ▸ e1, e ▸ e2, a, b, hq _ _ _ _ h (R.pop.pop.push fun _ _ => .bl _)⟩
def EqR (neg : Bool) (d1 d2 : D) (s : Sta) (P : D → Sta → Prop) : Prop := (∃ k, scalD d1 d2 = some k ∧ P (.bl (if neg then !k else k)) s) ∨ ∃ p q, pyD d1 = some p ∧ pyD d2 = some q ∧ SeqAt.shaped p = true ∧ SeqAt.shaped q = true ∧ P (.bl (if neg then !PyData.eqv p q else PyData.eqv p q)) s
theorem eq_k {neg : Bool} {d1 d2 : D} {k : Bool} (h1 : scalD d1 d2 = some k) (h : P (.bl (if neg then !k else k)) s) : EqR neg d1 d2 s P := .inl ⟨k, h1, h⟩
theorem eq_d {neg : Bool} {d1 d2 : D} {p q : PyData} (h1 : pyD d1 = some p) (h2 : pyD d2 = some q) (h3 : SeqAt.shaped p = true) (h4 : SeqAt.shaped q = true) (h : P (.bl (if neg then !PyData.eqv p q else PyData.eqv p q)) s) : EqR neg d1 d2 s P := .inr ⟨p, q, h1, h2, h3, h4, h⟩
theorem ac_eqU (h : AE c a s fun d1 s1 => AE c b s1 fun d2 s2 => EqR false d1 d2 s2 P) : AC c .Eq a b s P :=
  ac_op (rV := fun X x y H Q => L2.rEq x y H Q ∨ rEqD X.K x y H Q) (r := EqR false) (fun X hX => OpR.orr op_eq (op_eqD hX.room.units)) (fun X hX => ROp.orr rop_eq (rop_eqD hX.K)) h
theorem ac_neU (h : AE c a s fun d1 s1 => AE c b s1 fun d2 s2 => EqR true d1 d2 s2 P) : AC c .NotEq a b s P :=
  ac_op (rV := fun X x y H Q => L2.rNe x y H Q ∨ rNeD X.K x y H Q) (r := EqR true) (fun X hX => OpR.orr op_ne (op_neD hX.room.units)) (fun X hX => ROp.orr rop_ne (rop_neD hX.K)) h
theorem _root_.L2.Room.units65 {k : Nat} {A : Around} (r : Room k A) : A.units + 65 < cLine := by
  have := r.un
  omega
theorem Rep.dpL {s : Sta} {σ : L2.St} {τ : List D} {τv : List V} {H : Hp} {d1 d2 : D} {v1 v2 : V} {ds : List D} {p : PyData} {q : List PyData} (R : Rep c s σ (d2 :: d1 :: τ) (v2 :: v1 :: τv) H) (h1 : pyD d1 = some p) (hd : RdL s d2 ds) (h2 : pyDs ds = some q) : Dp c.K H v1 p ∧ Dp c.K H v2 (.list q) := by
  obtain ⟨a, vs, rfl, sq, ln, R2⟩ := R.rdl hd
  obtain ⟨F, os, e, _, _, r⟩ := R2
  obtain ⟨r1, r2⟩ := RpL.split ln r
  cases r2 with
  | cons _ r3 =>
    cases r3 with
    | cons ry _ => exact ⟨Rp.dp e.ex ry h1, .lst sq (RpL.dp e.ex r1 h2)⟩
theorem rop_inD {K : PySem.W.Frag} (e : K = c.K) : ROp c (rInD K) fun d1 d2 s P => ∃ p ds q, RdL s d2 ds ∧ pyD d1 = some p ∧ pyDs ds = some q ∧ SeqAt.shaped p = true ∧ SeqAt.shaped (.list q) = true ∧ P (.bl (q.any fun z => PyData.eqv z p)) s := by
  intro σ τ τv H s v1 v2 d1 d2 P Q R h hq
  obtain ⟨p, ds, q, hd, h1, h2, a, b, h⟩ := h
  obtain ⟨e1, e2⟩ := R.dpL h1 hd h2
  exact ⟨p, q, e ▸ e1, e ▸ e2, a, b, hq _ _ _ _ h (R.pop.pop.push fun _ _ => .bl _)⟩
theorem rop_notInD {K : PySem.W.Frag} (e : K = c.K) : ROp c (rNotInD K) fun d1 d2 s P => ∃ p ds q, RdL s d2 ds ∧ pyD d1 = some p ∧ pyDs ds = some q ∧ SeqAt.shaped p = true ∧ SeqAt.shaped (.list q) = true ∧ P (.bl (!q.any fun z => PyData.eqv z p)) s := by
  intro σ τ τv H s v1 v2 d1 d2 P Q R h hq
  obtain ⟨p, ds, q, hd, h1, h2, a, b, h⟩ := h
  obtain ⟨e1, e2⟩ := R.dpL h1 hd h2
  exact ⟨p, q, e ▸ e1, e ▸ e2, a, b, hq _ _ _ _ h (R.pop.pop.push fun _ _ => .bl _)⟩
theorem ac_inDD (h : AE c a s fun d1 s1 => AE c b s1 fun d2 s2 => ∃ p ds q, RdL s2 d2 ds ∧ pyD d1 = some p ∧ pyDs ds = some q ∧ SeqAt.shaped p = true ∧ SeqAt.shaped (.list q) = true ∧ P (.bl (q.any fun z => PyData.eqv z p)) s2) : AC c .In a b s P :=
  ac_op (rV := fun X => rInD X.K) (fun X hX => op_inD hX.room.units65) (fun X hX => rop_inD hX.K) h
theorem ac_notInDD (h : AE c a s fun d1 s1 => AE c b s1 fun d2 s2 => ∃ p ds q, RdL s2 d2 ds ∧ pyD d1 = some p ∧ pyDs ds = some q ∧ SeqAt.shaped p = true ∧ SeqAt.shaped (.list q) = true ∧ P (.bl (!q.any fun z => PyData.eqv z p)) s2) : AC c .NotIn a b s P :=
  ac_op (rV := fun X => rNotInD X.K) (fun X hX => op_notInD hX.room.units65) (fun X hX => rop_notInD hX.K) h
/-! ### tuples of natural numbers -/
def nD (r : List Nat) : List D := r.map fun x => .int (x : Nat)
theorem bnd_nD {n : Nat} (r : List Nat) : D.bndL n (nD r) := bndL_map fun _ => trivial
theorem nD_len (r : List Nat) : (nD r).length = r.length := by simp [nD]
theorem all_flat_nD (l : List Nat) : (nD l).all flatD = true := by
  unfold nD
  rw [List.all_map]
  exact List.all_eq_true.mpr fun _ _ => rfl
theorem inD_nD {x : Nat} {l : List Nat} : inD (.int (x : Nat)) (nD l) = decide (x ∈ l) := by
  unfold inD nD
  rw [List.any_map, Bool.eq_iff_iff]
  simp [eqF]
  constructor
  · rintro ⟨y, hy, e⟩
    have : y = x := by omega
    exact this ▸ hy
  · exact fun h => ⟨x, h, rfl⟩
/-! ### a call that takes the draws (the object j, at the place i) and plain data, and gives plain data -/
theorem ae_dcall {kf : Nat} {R : Spec} {xd : Str} {pd : Pos} (i j : Nat) (C : CalA c.prog c.w c.K c.mg c.base kf x R) (hk : kf ≤ c.k) (hi : c.N[i]? = some xd) (hd : s.r[i]? = some (some (.ob j)))
    (h : AA c es s fun ds s1 => D.bndL 0 ds ∧ ∃ ns : List Int, s1.o[j]? = some (.lst (ns.map D.int)) ∧ R (.ob 0 :: ds) [.lst (ns.map D.int)] fun d O' => ∃ ns', O' = [.lst (List.map D.int ns')] ∧ D.bnd 0 d ∧ P d ⟨s1.r, s1.o.set j (.lst (ns'.map D.int))⟩)
    (hv : Vis c.sc xd := by first | exact Or.inl rfl | exact Or.inr (Or.inl rfl) | exact Or.inr (Or.inr rfl))
    (hg : IsG c x := by rfl) (hdb : (x == ("__debug__" : Str)) = false := by decide) (h1 : (xd == ("__debug__" : Str)) = false := by decide) (h2 : (xd == ("__classdict__" : Str)) = false := by decide) (he : ∀ env, starEach (.Name xd pd :: es) env = (false, eval (.Name xd pd) env) :: starEach es env := by intro _; rfl)
    (hpl : ∀ env, (backTo pos (starEach es env)).any (·.1) = false := by intro _; rfl) : AE c (.Call (.Name x p) (.Name xd pd :: es) [] pos) s P := by
  refine ae_call1 j C hk (aa_cons (ae_name hi hd ?_ hv h1 h2) he) hg hdb he hpl
  refine .mk fun X hX σ τ τv H R Q hq => h X hX σ τ τv H R Q fun ds s1 vs H1 ⟨hb, ns, ho, hR⟩ hl R1 => hq ds s1 vs H1 ?_ hl R1
  refine ⟨.ob 0 :: ds, .lst (ns.map D.int), ?_, ⟨by unfold D.bnd; decide, D.bndL_le (Nat.zero_le _) hb⟩, ho, bnd_ints, C.mono _ _ _ _ (fun d O' ⟨ns', e, hb', q⟩ x' O2 e2 => ?_) hR⟩
  · show _ = _ :: _
    rw [D.renL_closed hb]
    rfl
  · rw [e] at e2
    cases e2
    rw [oren_ints, D.ren_closed hb']
    simpa using q
theorem ae_dcallO {kf : Nat} {R : Spec} {xd : Str} {pd : Pos} (i j : Nat) (C : CalA c.prog c.w c.K c.mg c.base kf x R) (hk : kf ≤ c.k) (hi : c.N[i]? = some xd) (hd : s.r[i]? = some (some (.ob j)))
    (h : AA c es s fun ds s1 => D.bndL 0 ds ∧ ∃ ns : List Int, s1.o[j]? = some (.lst (ns.map D.int)) ∧ R (.ob 0 :: ds) [.lst (ns.map D.int)] fun d O' => ∃ ns' xs, O' = [.lst (List.map D.int ns'), .lst xs] ∧ d = .ob 1 ∧ D.bndL 0 xs ∧ P (.ob s1.o.length) ⟨s1.r, s1.o.set j (.lst (ns'.map D.int)) ++ [.lst xs]⟩)
    (hv : Vis c.sc xd := by first | exact Or.inl rfl | exact Or.inr (Or.inl rfl) | exact Or.inr (Or.inr rfl))
    (hg : IsG c x := by rfl) (hdb : (x == ("__debug__" : Str)) = false := by decide) (h1 : (xd == ("__debug__" : Str)) = false := by decide) (h2 : (xd == ("__classdict__" : Str)) = false := by decide) (he : ∀ env, starEach (.Name xd pd :: es) env = (false, eval (.Name xd pd) env) :: starEach es env := by intro _; rfl)
    (hpl : ∀ env, (backTo pos (starEach es env)).any (·.1) = false := by intro _; rfl) : AE c (.Call (.Name x p) (.Name xd pd :: es) [] pos) s P := by
  refine ae_call1 j C hk (aa_cons (ae_name hi hd ?_ hv h1 h2) he) hg hdb he hpl
  refine .mk fun X hX σ τ τv H R Q hq => h X hX σ τ τv H R Q fun ds s1 vs H1 ⟨hb, ns, ho, hR⟩ hl R1 => hq ds s1 vs H1 ?_ hl R1
  refine ⟨.ob 0 :: ds, .lst (ns.map D.int), ?_, ⟨by unfold D.bnd; decide, D.bndL_le (Nat.zero_le _) hb⟩, ho, bnd_ints, C.mono _ _ _ _ (fun d O' ⟨ns', xs, e, ed, hb', q⟩ x' O2 e2 => ?_) hR⟩
  · show _ = _ :: _
    rw [D.renL_closed hb]
    rfl
  · rw [e] at e2
    cases e2
    subst ed
    rw [oren_ints]
    have e3 : List.map (Ob.ren (idF [j] s1.o.length)) [Ob.lst xs] = [Ob.lst xs] := by
      rw [List.map_cons, Ob.ren_closed (o := .lst xs) hb']
      rfl
    rw [e3]
    exact q
theorem flat_sgl (ws : List Nat) : (ws.map fun k => [k]).flatten = ws := by
  induction ws with
  | nil => rfl
  | cons x r ih =>
    rw [List.map_cons, List.flatten_cons, ih]
    rfl
end
end G9

namespace G9
open PySem PySem.Spec PyProof.Rows L2
variable {c : SC}
/-! ### comprehensions with any names as target -/
/-- a target that stores only at the places vs -/
structure AGw (c : SC) (tg : Expr) (vs : List Nat) (d : D) (s : Sta) (P : Sta → Prop) : Prop where
  run : ∀ X, XC c X → ∀ σ τ τv v H, Rep c s σ (d :: τ) (v :: τv) H → ∀ Q : L2.St → Hp → Prop, (∀ s' σ' H', P s' → Rep c s' σ' τ τv H' → wipe σ' vs = wipe σ vs → Q σ' H') → WG X tg v σ H Q
structure AGws (c : SC) (ts : List Expr) (vs : List Nat) (ds : List D) (s : Sta) (P : Sta → Prop) : Prop where
  run : ∀ X, XC c X → ∀ σ τ τv us H, us.length = ds.length → Rep c s σ (ds ++ τ) (us ++ τv) H → ∃ t, PGs X ts t ∧ ∀ Q : L2.St → Hp → Prop, (∀ s' σ' H', P s' → Rep c s' σ' τ τv H' → wipe σ' vs = wipe σ vs → Q σ' H') → t us σ H Q
section
variable {s : Sta} {P : D → Sta → Prop} {elt tg iter : Expr} {ifs : List Expr} {scope : Scope} {pos px : Pos} {x : Str} {i0 : Nat} {own : Bool} {vs : List Nat}
theorem agw_name {i : Nat} {d : D} {PS' : Sta → Prop} (hi : c.N[i]? = some x) (h : PS' ⟨s.r.set i (some d), s.o⟩) (hv : i ∈ vs := by simp) (hx : Loc c.sc x := by first | exact Or.inl rfl | exact Or.inr rfl) (hf : c.all = true ∨ c.sc.names.lookup x = some .local := by first | exact .inl rfl | exact .inr rfl) : AGw c (.Name x pos) vs d s PS' := by
  refine ⟨?_⟩
  intro X hX σ τ τv v H R Q hq
  exact WG.of (pg_name (by rw [hX.N]; exact hX.nd) (by rw [hX.N]; exact hi) (loc_of hX hx) (fn_of' hX hf)) (hq _ _ _ h R.set (wipe_set_mem hv))
theorem agws_nil {PS' : Sta → Prop} (h : PS' s) : AGws c [] vs [] s PS' := ⟨fun X hX σ τ τv us H l R => ⟨_, pgs_nil, fun Q hq => by
  obtain rfl : us = [] := List.length_eq_zero_iff.mp l
  exact ⟨rfl, hq _ _ _ h R rfl⟩⟩⟩
theorem agws_name {ts : List Expr} {i : Nat} {d : D} {ds : List D} {PS' : Sta → Prop} (hi : c.N[i]? = some x) (h : AGws c ts vs ds ⟨s.r.set i (some d), s.o⟩ PS') (hv : i ∈ vs := by simp) (hx : Loc c.sc x := by first | exact Or.inl rfl | exact Or.inr rfl) (hf : c.all = true ∨ c.sc.names.lookup x = some .local := by first | exact .inl rfl | exact .inr rfl)
    (hs : ∀ env, (assignEach (.Name x pos :: ts) env).map (·.2) = assign (.Name x pos) env :: (assignEach ts env).map (·.2) := by intro _; rfl) : AGws c (.Name x pos :: ts) vs (d :: ds) s PS' := by
  refine ⟨?_⟩
  intro X hX σ τ τv us H l R
  match us, l with
  | v :: us, l =>
    have R1 : Rep c ⟨s.r.set i (some d), s.o⟩ (σ.set i (some v)) (ds ++ τ) (us ++ τv) H := Rep.set (by simpa using R)
    obtain ⟨t, ht, hq⟩ := h.run X hX (σ.set i (some v)) τ τv us H (Nat.succ.inj l) R1
    exact ⟨_, pgs_cons (pg_name (by rw [hX.N]; exact hX.nd) (by rw [hX.N]; exact hi) (loc_of hX hx) (fn_of' hX hf)) ht (hs _), fun Q q => ⟨v, us, rfl, hq Q fun s' σ' H' p R' e => q s' σ' H' p R' (by rw [e, wipe_set_mem hv])⟩⟩
theorem agw_tup {ts : List Expr} {k : Nat} {ds : List D} {PS' : Sta → Prop} (h : AGws c ts vs ds s PS') (hn : ∀ env, (assignEach ts env).length = ds.length := by intro _; rfl) (hst : ∀ env, (assignEach ts env).findIdx? (·.1) = none := by intro _; rfl) : AGw c (.Tuple ts k pos) vs (.tup ds) s PS' := by
  refine ⟨?_⟩
  intro X hX σ τ τv v H R Q hq
  obtain ⟨a, us, rfl, q, l, R1⟩ := R.rdt
  have R2 : Rep c s σ (ds ++ τ) (us ++ τv) H := R1.temps fun F os r => by
    obtain ⟨r1, r2⟩ := RpL.split l r
    exact r1.append r2.tail
  obtain ⟨t, ht, hq'⟩ := h.run X hX σ τ τv us H l R2
  refine WG.of (pg_tup hX.calm ht (hn _) (hst _)) ⟨a, us, rfl, ?_, l, hq' Q hq⟩
  rw [hX.K]
  exact q
/-- what a comprehension asks, any target -/
def LcQ (c : SC) (scope : Scope) (elt tg : Expr) (ifs : List Expr) (vs : List Nat) (own : Bool) (P : D → Sta → Prop) (xs : List D) (Φ : Sta → Prop) (s1 : Sta) : Prop :=
  ∃ I : Nat → List D → Sta → Prop, I 0 [] ⟨wipeD s1.r vs, s1.o ++ [.lst []]⟩ ∧ (∀ i acc s, I i acc s → Φ s ∧ s.o[s1.o.length]? = some (.lst acc) ∧ acc.length ≤ i ∧ (∀ v ∈ vs, ∀ d, s.r[v]? ≠ some (some d))) ∧
    (∀ i acc d s, xs[i]? = some d → I i acc s → AGw (c.blk scope) tg vs d s fun sT => AF (c.blk scope) ifs sT fun b s2 =>
      if b = true then AE (c.blk scope) elt s2 fun e s3 => s3.o[s1.o.length]? = some (.lst acc) ∧ ∃ s4, Gc (s1.o.length + 1) ⟨wipeD s3.r vs, s3.o.set s1.o.length (.lst (acc ++ [e]))⟩ s4 ∧ I (i + 1) (acc ++ [e]) s4
      else ∃ s4, Gc (s1.o.length + 1) ⟨wipeD s2.r vs, s2.o⟩ s4 ∧ I (i + 1) acc s4) ∧
    (∀ acc s, I xs.length acc s → NewC own s1.o.length acc s P) ∧ xs.length ≤ sizeLine
theorem lc_readQ {X : Cx} (hX : XC c X) {ow : List (Str × Nat)} (h : AI c tg iter s fun xs Φ s1 => LcQ c scope elt tg ifs (ow.map (·.2)) own P xs Φ s1)
    {σ : L2.St} {τ : List D} {τv : List V} {H : Hp} (R : Rep c s σ τ τv H) {Q : VK} (hq : FinE c P σ τ τv Q) (hlen : ifs.length ≤ 1) :
    tLc (WI X tg iter) (fun y σ H Q => ∀ s0 H0 C cl fp, WG (X.blk s0 H0 scope (compEnvC scope cl C X.env) fp) tg y σ H Q) (fun σ H Q => ∀ s0 H0 C cl fp, match ifs with
        | [] => Q true H
        | [t] => WT (X.blk s0 H0 scope (compEnvC scope cl C X.env) fp) t σ H Q
        | _ => False) (fun σ H Q => ∀ s0 H0 C cl fp, WE (X.blk s0 H0 scope (compEnvC scope cl C X.env) fp) elt σ H Q) (ow.map (·.2)) σ H Q := by
  refine h X hX σ τ τv H R _ fun J d v xs Φ s1 H1 h1 R1 ok => ?_
  obtain ⟨I, h0, hI, turn, done, hz⟩ := h1
  intro Dd hD
  obtain ⟨l1, l2⟩ := R1.ol
  generalize hvs : ow.map (·.2) = vs at *
  have R2 : Rep c ⟨s1.r, s1.o ++ [.lst []]⟩ σ (.ob s1.o.length :: d :: τ) (.ref Dd :: v :: τv) (upd H1 Dd (.lst [])) := R1.own hD fun F os r => .nil
  have R3 : Rep c ⟨wipeD s1.r vs, s1.o ++ [.lst []]⟩ σ (.ob s1.o.length :: d :: τ) (.ref Dd :: v :: τv) (upd H1 Dd (.lst [])) := by
    have := (R2.wipe (vs := vs) (scope := scope)).unwipe (σ := σ) (vs := vs) wipe_wipe
    have e : wipeD (wipeD s1.r vs) vs = wipeD s1.r vs := by
      have go : ∀ {ws us : List Nat} {r : List (Option D)}, (∀ i ∈ ws, i ∈ us) → wipeD (wipeD r ws) us = wipeD r us := by
        intro ws us r
        have one : ∀ {us : List Nat} {r : List (Option D)} {w : Nat}, w ∈ us → wipeD (r.set w none) us = wipeD r us := by
          intro us
          induction us with
          | nil => intro r w h; cases h
          | cons u us ih =>
            intro r w h
            unfold wipeD
            by_cases e : w ∈ us
            · rw [ih e]
            · have e2 : w = u := by
                rcases List.mem_cons.mp h with q | q
                · exact q
                · exact absurd q e
              subst e2
              have go2 : ∀ {ws : List Nat}, w ∉ ws → wipeD (r.set w none) ws = (wipeD r ws).set w none := by
                intro ws hw
                induction ws with
                | nil => rfl
                | cons y ws ih2 =>
                  unfold wipeD
                  rw [ih2 fun q => hw (List.mem_cons_of_mem _ q), List.set_comm _ _ (show w ≠ y from fun e => hw (by rw [e]; exact List.mem_cons_self))]
              rw [go2 e, List.set_set]
        induction ws generalizing r with
        | nil => intro _; rfl
        | cons w ws ih =>
          intro h
          show wipeD ((wipeD r ws).set w none) us = _
          rw [one (h w List.mem_cons_self), ih fun i hi => h i (List.mem_cons_of_mem _ hi)]
      exact go fun i h => h
    exact e ▸ this
  refine ⟨fun i m H => m = xs.length - i ∧ i ≤ xs.length ∧ ∃ acc s, I i acc s ∧ Rep c s σ (.ob s1.o.length :: d :: τ) (.ref Dd :: v :: τv) H, ⟨xs.length, by simp, Nat.zero_le _, [], _, h0, R3⟩, ?_⟩
  rintro i m H2 ⟨rfl, hi, acc, s2, hI2, R4⟩
  have sw : ∀ {s : Sta} {σ : L2.St} {H : Hp} {c : SC} {d1 d2 : D} {v1 v2 : V} {τ : List D} {τv : List V}, Rep c s σ (d1 :: d2 :: τ) (v1 :: v2 :: τv) H → Rep c s σ (d2 :: d1 :: τ) (v2 :: v1 :: τv) H := fun R => R.temps fun F os r => by
    cases r with
    | cons a r =>
      cases r with
      | cons b r => exact .cons b (.cons a r)
  obtain ⟨q1, q2, q3, q4⟩ := hI i acc s2 hI2
  by_cases hlt : i < xs.length
  · obtain ⟨g1, g2⟩ := ok.go i s2 σ _ _ H2 q1 (sw R4) hlt
    refine .inr ⟨g1, fun H' => ∃ acc s', I (i + 1) acc s' ∧ Rep c s' σ (.ob s1.o.length :: d :: τ) (.ref Dd :: v :: τv) H', fun H' q => ⟨xs.length - (i + 1), by omega, rfl, by omega, q⟩, fun y H' hy => ?_⟩
    obtain ⟨yd, hy1, R5⟩ := g2 y H' hy
    have R6 : Rep c s2 σ (yd :: .ob s1.o.length :: d :: τ) (y :: .ref Dd :: v :: τv) H' := R5.temps fun F os r => by
      cases r with
      | cons a r =>
        cases r with
        | cons b r =>
          cases r with
          | cons c r => exact .cons a (.cons c (.cons b r))
    have R7 := R6.wipe (vs := vs) (scope := scope)
    have R8 : Rep (c.blk scope) s2 (wipe σ vs) (yd :: .ob s1.o.length :: d :: τ) (y :: .ref Dd :: v :: τv) H' := by
      obtain ⟨F, os, a, b, e, r⟩ := R7
      refine ⟨F, os, a, b, ⟨?_, fun k dd hk => ?_⟩, r⟩
      · have := e.len
        simp only [wipeD_len] at this ⊢
        exact this
      · exact e.get k dd (wipeD_id q4 k dd hk)
    intro t0 G0 C0 cl0 fp0
    refine AGw.run (turn i acc yd s2 hy1 hI2) _ (xc_blk hX t0 G0 C0 cl0 fp0) _ _ _ _ _ R8 _ fun sT σT HT T RT hwT => ?_
    have hw : wipe σT vs = wipe σ vs := by rw [hwT, wipe_wipe]
    refine ⟨by rw [hw], ?_⟩
    have fin1 : ∀ (s3 : Sta) (H3 : Hp), (∃ s4, Gc (s1.o.length + 1) ⟨wipeD s3.r vs, s3.o⟩ s4 ∧ I (i + 1) acc s4) → Rep (c.blk scope) s3 σT (.ob s1.o.length :: d :: τ) (.ref Dd :: v :: τv) H3 →
        ∃ acc s', I (i + 1) acc s' ∧ Rep c s' σ (.ob s1.o.length :: d :: τ) (.ref Dd :: v :: τv) H3 := fun s3 H3 h R => by
      obtain ⟨s4, g, hI4⟩ := h
      have R1' := R.unwipe (σ := σ) (vs := vs) hw
      exact ⟨acc, s4, hI4, R1'.gc g (Nat.le_succ_of_le l1) ⟨by unfold D.bnd; exact Nat.lt_succ_self _, D.bndL_le (Nat.le_succ _) l2⟩⟩
    have fin2 : ∀ (s3 : Sta) (H3 : Hp), AE (c.blk scope) elt s3 (fun e s3 => s3.o[s1.o.length]? = some (.lst acc) ∧ ∃ s4, Gc (s1.o.length + 1) ⟨wipeD s3.r vs, s3.o.set s1.o.length (.lst (acc ++ [e]))⟩ s4 ∧ I (i + 1) (acc ++ [e]) s4) → Rep (c.blk scope) s3 σT (.ob s1.o.length :: d :: τ) (.ref Dd :: v :: τv) H3 →
        ∀ s0 H0 C cl fp, WE (X.blk s0 H0 scope (compEnvC scope cl C X.env) fp) elt σT H3 fun w H4 => ∃ acc, H4 Dd = some (.lst acc) ∧ acc.length < sizeLine ∧ ∃ acc' s', I (i + 1) acc' s' ∧ Rep c s' σ (.ob s1.o.length :: d :: τ) (.ref Dd :: v :: τv) (upd H4 Dd (.lst (acc ++ [w]))) := fun s3 H3 h R s0 H0 C cl fp => by
      refine h _ (xc_blk hX s0 H0 C cl fp) _ _ _ H3 R _ fun e s4 w H4 h4 Ra => ?_
      obtain ⟨ho, s5, g, hI5⟩ := h4
      have Rb := sw Ra
      obtain ⟨p, ws, e1, hp, F, os, _, _, r⟩ := Rb.obj ho
      cases e1
      have hl : ws.length = acc.length := by
        have := r.length
        have l2 := Rb.pop.len
        simp only [List.length_append, List.length_cons] at this l2 ⊢
        omega
      refine ⟨ws, hp, by omega, acc ++ [e], s5, hI5, ?_⟩
      have Rc := Rb.mut (ds' := acc ++ [e]) (vs := ws ++ [w]) ho fun F os ws' r1 e1 r2 => by
        rw [hp] at e1
        cases e1
        cases r2 with
        | cons a _ => exact r1.append (.cons a .nil)
      have Rd' := (sw Rc).pop.unwipe (σ := σ) (vs := vs) hw
      exact Rd'.gc g (Nat.le_succ_of_le l1) ⟨by unfold D.bnd; exact Nat.lt_succ_self _, D.bndL_le (Nat.le_succ _) l2⟩
    match ifs, hlen, T with
    | [], _, T =>
      intro s0 H0 C cl fp
      have T' : AE (c.blk scope) elt sT _ := T
      show ∀ s0 H0 C cl fp, _
      exact fin2 _ _ T' RT
    | [t], _, T =>
      intro s0 H0 C cl fp
      refine AT.run T _ (xc_blk hX s0 H0 C cl fp) _ _ _ HT RT _ fun b s3 H3 h3 R9 => ?_
      cases b with
      | true => exact fin2 s3 H3 h3 R9
      | false => exact fin1 s3 H3 h3 R9
  · have e : i = xs.length := by omega
    subst e
    exact .inl ⟨ok.stop s2 σ _ _ H2 q1 (sw R4), Rep.newC R4.pop2 q2 (done acc s2 hI2) l1 l2.2 hq⟩
theorem ae_lcq (N0 : List Str) (sc0 : Scope) (own : Bool) (ow : List (Str × Nat)) (ok : blkC N0 sc0 scope ow = true) (hlen : ifs.length ≤ 1) (h : AI c tg iter s fun xs Φ s1 => LcQ c scope elt tg ifs (ow.map (·.2)) own P xs Φ s1)
    (hs : ∀ env y, foldedSetIterable iter env y = pure y := by intro _ _; rfl) (eN : c.N = N0 := by rfl) (eS : c.sc = sc0 := by rfl) : AE c (.ListComp elt [⟨tg, iter, ifs, 0⟩] scope pos) s P := by
  refine ⟨?_⟩
  intro X hX σ τ τv H R Q hq
  exact WE.of (pe_lc (own := ow) hX.calm (by rw [hX.N]; exact hX.nd) pi_w (blkOk_by (by rw [hX.N, hX.sc, eN, eS]; exact ok)) (fun s0 H0 C cl fp => ⟨fun p s σ H v u Q I r q => q s0 H0 C cl fp p s u I r⟩) (fun s0 H0 C cl fp => pts_of hlen s0 H0 C cl fp) (fun s0 H0 C cl fp => ⟨fun p s σ H Q I q => q s0 H0 C cl fp p s I⟩) (hs _)) (lc_readQ hX h R hq hlen)
theorem as_lcq {PO' : Out → Prop} {y : Str} {py spos : Pos} {iy : Nat} (N0 : List Str) (sc0 : Scope) (own : Bool) (ow : List (Str × Nat)) (hy : c.N[iy]? = some y) (hyl : c.sc.names.lookup y = some .local) (hk : c.sc.kind = .function) (hln : (py.line == pos.line) = true) (ha : (scope.names.any fun (n, k) => n == y && (k == .local || k == .cell)) = false)
    (ok : blkC N0 sc0 scope ow = true) (hlen : ifs.length ≤ 1) (h : AI c tg iter s fun xs Φ s1 => LcQ c scope elt tg ifs (ow.map (·.2)) own (fun d s => PO' (.nx ⟨s.r.set iy (some d), s.o⟩)) xs Φ s1)
    (hs : ∀ env y, foldedSetIterable iter env y = pure y := by intro _ _; rfl) (eN : c.N = N0 := by rfl) (eS : c.sc = sc0 := by rfl) : AS c (.Assign [.Name y py] (.ListComp elt [⟨tg, iter, ifs, 0⟩] scope pos) spos) s PO' := by
  refine ⟨?_⟩
  intro X hX σ τ τv H R E hq
  exact WS.of (ps_setLc (own := ow) hX.calm (by rw [hX.N]; exact hX.nd) (by rw [hX.N]; exact hy) (by rw [hX.sc]; exact hyl) (sw_true (by rw [hX.sc]; exact hk) (by rw [hX.sc]; exact hyl) hln ha) pi_w (blkOk_by (by rw [hX.N, hX.sc, eN, eS]; exact ok)) (fun s0 H0 C cl fp => ⟨fun p s σ H v u Q I r q => q s0 H0 C cl fp p s u I r⟩) (fun s0 H0 C cl fp => pts_of hlen s0 H0 C cl fp) (fun s0 H0 C cl fp => ⟨fun p s σ H Q I q => q s0 H0 C cl fp p s I⟩) (hs _))
    (lc_readQ (Q := fun x H1 => gName iy x σ H1 E.nx) hX h R (fun d s' v H' hp R' => hq.nx _ _ _ hp R'.set) hlen)
/-- a comprehension whose turns leave the state as it is, over a list of data l; f: what the iterator gives for it, g: what the turn gives -/
def LcL (c : SC) (scope : Scope) (elt tg : Expr) (ifs : List Expr) (vs : List Nat) (own : Bool) (P : D → Sta → Prop) (xs : List D) (Φ : Sta → Prop) (s1 : Sta) : Prop :=
  ∃ (α : Type) (l : List α) (f g : α → D) (t : α → Bool), xs = l.map f ∧ (∀ acc, Φ ⟨wipeD s1.r vs, s1.o ++ [.lst acc]⟩) ∧ l.length ≤ sizeLine ∧ (∀ a ∈ l, D.bnd s1.o.length (g a)) ∧
    (∀ a acc, a ∈ l → AGw (c.blk scope) tg vs (f a) ⟨wipeD s1.r vs, s1.o ++ [.lst acc]⟩ fun sT => wipeD sT.r vs = wipeD s1.r vs ∧ sT.o = s1.o ++ [.lst acc] ∧ AF (c.blk scope) ifs sT fun b s2 => s2 = sT ∧ b = t a ∧ (b = true → AE (c.blk scope) elt sT fun e s3 => s3 = sT ∧ e = g a)) ∧
    if own = true then P (.ob s1.o.length) ⟨wipeD s1.r vs, s1.o ++ [.lst ((l.filter t).map g)]⟩ else P (.lst ((l.filter t).map g)) ⟨wipeD s1.r vs, s1.o⟩
theorem lcl_lcq {xs : List D} {Φ : Sta → Prop} {s1 : Sta} (b : Bd s1) (h : LcL c scope elt tg ifs vs own P xs Φ s1) : LcQ c scope elt tg ifs vs own P xs Φ s1 := by
  obtain ⟨α, l, f, g, t, rfl, h1, h2, h3, h4, h6⟩ := h
  refine ⟨fun i acc s => acc = (((l.take i).filter t).map g) ∧ s = ⟨wipeD s1.r vs, s1.o ++ [.lst acc]⟩, ⟨rfl, rfl⟩, ?_, ?_, ?_, by simpa using h2⟩
  · rintro i acc s ⟨rfl, rfl⟩
    refine ⟨h1 _, by simp, ?_, fun v hv d => wipe_none hv d⟩
    rw [List.length_map]
    refine Nat.le_trans (List.length_filter_le _ _) ?_
    rw [List.length_take]
    exact Nat.min_le_left _ _
  · rintro i acc d s hd ⟨rfl, rfl⟩
    obtain ⟨a, ha, rfl⟩ := map_at hd
    have hm : a ∈ l := List.mem_of_getElem? ha
    have tk : l.take (i + 1) = l.take i ++ [a] := by
      rw [List.take_add_one, ha]
      rfl
    refine ⟨fun X hX σ τ τv v H R Q hq => (h4 a _ hm).run X hX σ τ τv v H R Q fun s' σ' H' q R' e => hq s' σ' H' ?_ R' e⟩
    obtain ⟨q1, q2, q3⟩ := q
    refine q3.mono fun b s2 q => ?_
    obtain ⟨rfl, rfl, q⟩ := q
    by_cases ht : t a = true
    · rw [if_pos ht]
      refine (q ht).mono fun e s3 q => ?_
      obtain ⟨rfl, rfl⟩ := q
      refine ⟨by rw [q2]; simp, _, .refl, ?_, ?_⟩
      · rw [tk, List.filter_append, List.map_append]
        simp [List.filter_cons, ht]
      · rw [q1, q2, List.set_append_right _ _ (Nat.le_refl _), Nat.sub_self]
        rfl
    · rw [if_neg ht]
      refine ⟨_, .refl, ?_, ?_⟩
      · rw [tk, List.filter_append]
        simp [List.filter_cons, ht]
      · rw [q1, q2]
  · rintro acc s ⟨rfl, rfl⟩
    rw [List.length_map, List.take_length]
    cases own with
    | true => exact h6
    | false =>
      have e2 : (s1.o ++ [Ob.lst ((l.filter t).map g)]).take s1.o.length = s1.o := by simp
      show D.bndL _ _ ∧ _ ∧ _ ∧ _
      refine ⟨?_, ?_, ?_, ?_⟩
      · refine D.bndL_iff.mpr fun d hd => ?_
        obtain ⟨y, hy, rfl⟩ := List.mem_map.mp hd
        exact h3 y (List.mem_filter.mp hy).1
      · intro i d hd
        exact b.r i d (wipeD_get hd).2
      · intro ob hob
        have hob' : ob ∈ s1.o := by
          have : ob ∈ (s1.o ++ [Ob.lst ((l.filter t).map g)]).take s1.o.length := hob
          rw [e2] at this
          exact this
        exact b.o ob hob'
      · show P _ ⟨_, (s1.o ++ [Ob.lst ((l.filter t).map g)]).take s1.o.length⟩
        rw [e2]
        exact h6
theorem ae_lcl (N0 : List Str) (sc0 : Scope) (own : Bool) (ow : List (Str × Nat)) (ok : blkC N0 sc0 scope ow = true) (hlen : ifs.length ≤ 1) (h : AI c tg iter s (LcL c scope elt tg ifs (ow.map (·.2)) own P))
    (hs : ∀ env y, foldedSetIterable iter env y = pure y := by intro _ _; rfl) (eN : c.N = N0 := by rfl) (eS : c.sc = sc0 := by rfl) : AE c (.ListComp elt [⟨tg, iter, ifs, 0⟩] scope pos) s P :=
  ae_lcq N0 sc0 own ow ok hlen (ai_bd <| .mk fun X hX σ τ τv H R Q hq => h X hX σ τ τv H R Q fun J d v xs Φ s1 H1 h1 R1 ok => hq J d v xs Φ s1 H1 (fun b => lcl_lcq b h1) R1 ok) hs eN eS
theorem as_lcl {PO' : Out → Prop} {y : Str} {py spos : Pos} {iy : Nat} (N0 : List Str) (sc0 : Scope) (own : Bool) (ow : List (Str × Nat)) (hy : c.N[iy]? = some y) (hyl : c.sc.names.lookup y = some .local) (hk : c.sc.kind = .function) (hln : (py.line == pos.line) = true) (ha : (scope.names.any fun (n, k) => n == y && (k == .local || k == .cell)) = false)
    (ok : blkC N0 sc0 scope ow = true) (hlen : ifs.length ≤ 1) (h : AI c tg iter s (LcL c scope elt tg ifs (ow.map (·.2)) own (fun d s => PO' (.nx ⟨s.r.set iy (some d), s.o⟩))))
    (hs : ∀ env y, foldedSetIterable iter env y = pure y := by intro _ _; rfl) (eN : c.N = N0 := by rfl) (eS : c.sc = sc0 := by rfl) : AS c (.Assign [.Name y py] (.ListComp elt [⟨tg, iter, ifs, 0⟩] scope pos) spos) s PO' :=
  as_lcq N0 sc0 own ow hy hyl hk hln ha ok hlen (ai_bd <| .mk fun X hX σ τ τv H R Q hq => h X hX σ τ τv H R Q fun J d v xs Φ s1 H1 h1 R1 ok => hq J d v xs Φ s1 H1 (fun b => lcl_lcq b h1) R1 ok) hs eN eS
end
end G9

namespace G9
open PySem PySem.Spec PyProof.Rows L2
variable {c : SC}
/-! ### dicts -/
theorem ObOk.grow {w : World} {K : PySem.W.Frag} {F H : Hp} {os os' : List Addr} {a : Addr} {ob : Ob} (h : ObOk w K F os H a ob) (p : ∃ t, os' = os ++ t) : ObOk w K F os' H a ob := by
  cases ob with
  | dead => trivial
  | lst ds =>
    obtain ⟨vs, q1, q2⟩ := h
    exact ⟨vs, q1, q2.mono (Same.refl _) p⟩
  | dct tb ds =>
    obtain ⟨vs, q1, q2⟩ := h
    exact ⟨vs, q1, q2.mono (Same.refl _) p⟩
  | ext x ds =>
    obtain ⟨ho, vs, q1, q0, q2⟩ := h
    exact ⟨ho, vs, q1, q0, q2.mono (Same.refl _) p⟩
section
variable {s : Sta} {σ : L2.St} {τ : List D} {τv : List V} {H : Hp}
theorem Rep.ownG {ho : HO} {ob0 : Ob} {p : Addr} (R : Rep c s σ τ τv H) (hp : H p = none) (h : ∀ F os, RpL c.K F os τv τ → ObOk c.w c.K F os (upd H p ho) p ob0) : Rep c ⟨s.r, s.o ++ [ob0]⟩ σ (.ob s.o.length :: τ) (.ref p :: τv) (upd H p ho) := by
  obtain ⟨F, os, a, b, e, r⟩ := R
  have fp : F p = none := a.ex.free hp
  have nos : p ∉ os := fun q => a.al p q hp
  have p1 : ∃ t, os ++ [p] = os ++ t := ⟨[p], rfl⟩
  have at1 : ∀ {j : Nat} {x : Addr}, (os ++ [p])[j]? = some x → os[j]? = some x ∨ (j = os.length ∧ x = p) := fun {j x} q => by
    rcases Nat.lt_or_ge j os.length with hl | hl
    · rw [List.getElem?_append_left hl] at q
      exact .inl q
    · rw [List.getElem?_append_right hl] at q
      rcases Nat.eq_or_lt_of_le hl with z | z
      · rw [← z, Nat.sub_self] at q
        exact .inr ⟨z.symm, (Option.some.inj q).symm⟩
      · rw [List.getElem?_eq_none (by simp; omega)] at q
        cases q
  have ol : ∀ {j : Nat} {x : Addr} {ob : Ob}, os[j]? = some x → (s.o ++ [ob0])[j]? = some ob → s.o[j]? = some ob := fun {j x ob} h1 h2 => by
    have hl : j < os.length := by
      rcases Nat.lt_or_ge j os.length with q | q
      · exact q
      · rw [List.getElem?_eq_none q] at h1
        cases h1
    rw [List.getElem?_append_left (a.len ▸ hl)] at h2
    exact h2
  refine ⟨F, os ++ [p], ⟨fun x u q => ?_, by simp [a.len], ?_, fun x hx q => ?_, fun j x ob h1 h2 => ?_, fun j x ob h1 h2 h3 => ?_⟩, ⟨b.ff, b.old, fun x u hx hn => ?_, ?_, fun x hx => ?_⟩, e.mono (Same.refl _) p1, .cons (.ob ?_) (r.mono (Same.refl _) p1)⟩
  · rw [upd_ne (ne_of_none q fp)]
    exact a.ex x u q
  · refine List.nodup_append.mpr ⟨a.nd, by simp, fun x hx y hy => ?_⟩
    simp at hy
    subst hy
    exact fun z => nos (z ▸ hx)
  · rcases List.mem_append.mp hx with hx | hx
    · have : x ≠ p := fun z => nos (z ▸ hx)
      rw [upd_ne this] at q
      exact a.al x hx q
    · simp at hx
      subst hx
      rw [upd_same] at q
      cases q
  · rcases at1 h1 with h1 | ⟨rfl, rfl⟩
    · have hx : x ≠ p := fun z => nos (z ▸ List.mem_of_getElem? h1)
      have q := a.obj j x ob h1 (ol h1 h2)
      cases ob with
      | dead => trivial
      | lst es =>
        obtain ⟨ws, q1, q2⟩ := q
        exact ⟨ws, by rw [upd_ne hx]; exact q1, q2.mono (Same.refl _) p1⟩
      | dct tb es =>
        obtain ⟨ws, q1, q2⟩ := q
        exact ⟨ws, q1.at (upd_ne hx), q2.mono (Same.refl _) p1⟩
      | ext x ds =>
        obtain ⟨ho, ws, q1, q0, q2⟩ := q
        exact ⟨ho, ws, by rw [upd_ne hx]; exact q1, q0, q2.mono (Same.refl _) p1⟩
    · rw [a.len, List.getElem?_append_right (Nat.le_refl _), Nat.sub_self] at h2
      cases h2
      exact (h F os r).grow p1
  · rcases at1 h1 with h1 | ⟨rfl, rfl⟩
    · exact a.nf j x ob h1 (ol h1 h2) h3
    · exact fp
  · have hx' : x ≠ p := fun z => by
      subst z
      rw [b.kept x u hx hn] at hp
      cases hp
    rw [upd_ne hx']
    exact b.kept x u hx hn
  · obtain ⟨t, e1⟩ := b.pre
    exact ⟨t ++ [p], by rw [e1, List.append_assoc]⟩
  · rcases List.mem_append.mp hx with hx | hx
    · exact b.fresh x hx
    · simp at hx
      subst hx
      by_cases hm : x ∈ c.os0
      · exact .inl hm
      · refine .inr ?_
        cases q : c.H0 x with
        | none => rfl
        | some u =>
          rw [b.kept x u q hm] at hp
          cases hp
  · rw [← a.len, List.getElem?_append_right (Nat.le_refl _), Nat.sub_self]
    rfl
theorem Rep.objM {j : Nat} {ob0 : Ob} {v : V} (R : Rep c s σ (.ob j :: τ) (v :: τv) H) (h : s.o[j]? = some ob0) (hd : ob0 ≠ .dead) : ∃ p F os, v = .ref p ∧ Same F H ∧ ObOk c.w c.K F os H p ob0 ∧ RpL c.K F os τv τ ∧ ∀ (ho : HO) (ob1 : Ob), ObOk c.w c.K F os (upd H p ho) p ob1 → Rep c ⟨s.r, s.o.set j ob1⟩ σ (.ob j :: τ) (.ref p :: τv) (upd H p ho) := by
  obtain ⟨F, os, a, b, e, r⟩ := R
  cases r with
  | cons q r =>
    cases q with
    | @ob _ p q =>
      have q12 := a.obj j _ _ q h
      refine ⟨p, F, os, rfl, a.ex, q12, r, fun ho ob1 hv => ?_⟩
      have fp : F p = none := a.nf j _ _ q h hd
      have hm : p ∈ os := List.mem_of_getElem? q
      have hjl : j < os.length := by
        rcases Nat.lt_or_ge j os.length with z | z
        · exact z
        · rw [List.getElem?_eq_none z] at q
          cases q
      have nn : ∀ {i : Nat} {x : Addr}, os[i]? = some x → i ≠ j → x ≠ p := fun {i x} h1 h2 z => by
        subst z
        exact h2 (ix_inj a.nd h1 q)
      refine ⟨F, os, ⟨fun x u z => ?_, by simp [a.len], a.nd, fun x hx z => ?_, fun i x ob h1 h2 => ?_, fun i x ob h1 h2 h3 => ?_⟩, ⟨b.ff, b.old, fun x u hx hn => ?_, b.pre, b.fresh⟩, e, .cons (.ob q) r⟩
      · rw [upd_ne (ne_of_none z fp)]
        exact a.ex x u z
      · by_cases hxp : x = p
        · subst hxp
          rw [upd_same] at z
          cases z
        · rw [upd_ne hxp] at z
          exact a.al x hx z
      · by_cases hij : i = j
        · subst hij
          rw [List.getElem?_set_self (a.len ▸ hjl)] at h2
          cases h2
          rw [q] at h1
          cases h1
          exact hv
        · rw [List.getElem?_set_ne (Ne.symm hij)] at h2
          have z := a.obj i x ob h1 h2
          cases ob with
          | dead => trivial
          | lst es =>
            obtain ⟨us, z1, z2⟩ := z
            exact ⟨us, by rw [upd_ne (nn h1 hij)]; exact z1, z2⟩
          | dct tb es =>
            obtain ⟨us, z1, z2⟩ := z
            exact ⟨us, z1.at (upd_ne (nn h1 hij)), z2⟩
          | ext x es =>
            obtain ⟨ho, us, z1, z0, z2⟩ := z
            exact ⟨ho, us, by rw [upd_ne (nn h1 hij)]; exact z1, z0, z2⟩
      · by_cases hij : i = j
        · subst hij
          rw [q] at h1
          cases h1
          exact fp
        · rw [List.getElem?_set_ne (Ne.symm hij)] at h2
          exact a.nf i x ob h1 h2 h3
      · have hx' : x ≠ p := fun z => by
          subst z
          rcases b.fresh x hm with z | z
          · exact hn z
          · rw [hx] at z
            cases z
        rw [upd_ne hx']
        exact b.kept x u hx hn
theorem Rep.objG {j : Nat} {ob0 : Ob} {v : V} (R : Rep c s σ (.ob j :: τ) (v :: τv) H) (h : s.o[j]? = some ob0) : ∃ p F os, v = .ref p ∧ Same F H ∧ ObOk c.w c.K F os H p ob0 ∧ RpL c.K F os τv τ := by
  obtain ⟨F, os, a, b, e, r⟩ := R
  cases r with
  | cons q r =>
    cases q with
    | ob q => exact ⟨_, F, os, rfl, a.ex, a.obj j _ _ q h, r⟩
end
mutual
theorem Rp.nk {X : Cx} {pins : List (Addr × Obj)} {σ : L2.St} {H : Hp} {s : Shared} (I : Inv X pins σ H s) {F : Hp} {os : List Addr} (e : Same F H) : ∀ {v : V} {d : D} {k : NestedKey} {u : Value}, Rp X.K F os v d → nkD d = some k → RelV v u → NestedIs s.heap k u
  | _, .non, _, _, h, q, r => by
    cases h
    cases q
    cases r
    exact .none
  | _, .bl b, _, _, h, q, r => by
    cases h
    cases q
    cases r
    exact .bool rfl
  | _, .int b, _, _, h, q, r => by
    cases h
    cases q
    obtain ⟨t, rfl⟩ := r
    exact .int _ t
  | _, .str b, _, _, h, q, r => by
    cases h
    cases q
    obtain ⟨t, rfl⟩ := r
    exact .text _ t
  | _, .tup ds, _, _, h, q, r => by
    cases h with
    | tup h1 h2 =>
      unfold nkD at q
      split at q
      · next x hx =>
        cases q
        cases r
        obtain ⟨its, rv, ⟨o, ho, hc, n, hd⟩, _⟩ := I.tuple (sq_t e h1)
        exact .tup ho hc hd (by simpa using RpL.nk I e h2 hx rv)
      · cases q
  | _, .lst ds, _, _, h, q, _ => by cases q
  | _, .ob j, _, _, h, q, _ => by cases q
  | _, .ty j, _, _, h, q, _ => by cases q
theorem RpL.nk {X : Cx} {pins : List (Addr × Obj)} {σ : L2.St} {H : Hp} {s : Shared} (I : Inv X pins σ H s) {F : Hp} {os : List Addr} (e : Same F H) : ∀ {vs : List V} {ds : List D} {ks : List NestedKey} {us : List Value}, RpL X.K F os vs ds → nkDs ds = some ks → Vals vs us → NestedAll s.heap ks us
  | _, [], _, _, h, q, r => by
    cases h
    cases q
    cases r
    exact .nil
  | _, d :: ds, _, _, h, q, r => by
    cases h with
    | cons h1 h2 =>
      unfold nkDs at q
      split at q
      · next x y hx hy =>
        cases q
        cases r with
        | cons r1 r2 => exact .cons (Rp.nk I e h1 hx r1) (RpL.nk I e h2 hy r2)
      · cases q
end
/-- a dict's abstract entries and its data -/
inductive NKV (K : PySem.W.Frag) (F : Hp) (os : List Addr) : List (NestedKey × Addr × V) → List (D × D) → Prop
  | nil : NKV K F os [] []
  | cons {k : NestedKey} {b : Addr} {v : V} {d e : D} {nk : List (NestedKey × Addr × V)} {kvs : List (D × D)} : Rp K F os (.ref b) d → nkD d = some k → Rp K F os v e → NKV K F os nk kvs → NKV K F os ((k, b, v) :: nk) ((d, e) :: kvs)
theorem NKV.keys {K : PySem.W.Frag} {F : Hp} {os : List Addr} {nk : List (NestedKey × Addr × V)} {kvs : List (D × D)} (h : NKV K F os nk kvs) : (kvs.map (·.1)).map nkD = nk.map (fun p => some p.1) := by
  induction h with
  | nil => rfl
  | cons _ q _ _ ih =>
    simp only [List.map_cons]
    rw [q, ih]
theorem NKV.rk {K : PySem.W.Frag} {F : Hp} {os : List Addr} {nk : List (NestedKey × Addr × V)} {kvs : List (D × D)} (h : NKV K F os nk kvs) : RpL K F os (nk.map fun p => V.ref p.2.1) (kvs.map (·.1)) := by
  induction h with
  | nil => exact .nil
  | cons q _ _ _ ih => exact .cons q ih
theorem NKV.rv {K : PySem.W.Frag} {F : Hp} {os : List Addr} {nk : List (NestedKey × Addr × V)} {kvs : List (D × D)} (h : NKV K F os nk kvs) : RpL K F os (nk.map fun p => p.2.2) (kvs.map (·.2)) := by
  induction h with
  | nil => exact .nil
  | cons _ _ q _ ih => exact .cons q ih
theorem nkv_mk {K : PySem.W.Frag} {F : Hp} {os : List Addr} : ∀ {nk : List (NestedKey × Addr × V)} {kvs : List (D × D)}, (kvs.map (·.1)).map nkD = nk.map (fun p => some p.1) → RpL K F os (nk.map fun p => V.ref p.2.1) (kvs.map (·.1)) → RpL K F os (nk.map fun p => p.2.2) (kvs.map (·.2)) → NKV K F os nk kvs
  | [], [], _, _, _ => .nil
  | [], _ :: _, h, _, _ => by cases h
  | _ :: _, [], h, _, _ => by cases h
  | (k, b, v) :: nk, (d, e) :: kvs, h, h1, h2 => by
    simp only [List.map_cons] at h h1 h2
    cases h1 with
    | cons a1 a2 =>
      cases h2 with
      | cons b1 b2 =>
        obtain ⟨e1, e2⟩ := List.cons.inj h
        exact .cons a1 e1 b1 (nkv_mk e2 a2 b2)
theorem dct_iff {w : World} {K : PySem.W.Frag} {F H : Hp} {os : List Addr} {a : Addr} {kvs : List (D × D)} : ObOk w K F os H a (.dct .t kvs) ↔ ∃ nk, H a = some (dN w a nk) ∧ nk.length ≤ sizeLine ∧ NKV K F os nk kvs ∧ ∀ p ∈ nk, p.1.depth ≤ 8 := by
  constructor
  · rintro ⟨vks, h, r⟩
    rcases h with ⟨h, _⟩ | ⟨nk, ⟨_, h1⟩ | ⟨_, h, _⟩, h2, rfl, h4, h5⟩
    · cases h
    rotate_left
    · cases h
    · have el : ((nk.map fun p => (V.ref p.2.1, p.2.2)).map (·.1)).length = (kvs.map (·.1)).length := by
        have := congrArg List.length h4
        simp only [List.length_map] at this ⊢
        exact this.symm
      obtain ⟨r1, r2⟩ := RpL.split el r
      rw [List.map_map] at r1 r2
      exact ⟨nk, h1, h2, nkv_mk h4 r1 r2, h5⟩
  · rintro ⟨nk, h1, h2, h3, h5⟩
    refine ⟨nk.map fun p => (V.ref p.2.1, p.2.2), .inr ⟨nk, .inl ⟨rfl, h1⟩, h2, rfl, h3.keys, h5⟩, ?_⟩
    rw [List.map_map, List.map_map]
    exact h3.rk.append h3.rv
/-! #### look-ups -/
def getK (kvs : List (D × D)) (k : D) : Option D := (kvs.find? fun p => decide (nkD p.1 = nkD k)).map (·.2)
def putD (kvs : List (D × D)) (k v : D) : List (D × D) := if (getK kvs k).isSome then kvs.map (fun p => if nkD p.1 = nkD k then (p.1, v) else p) else kvs ++ [(k, v)]
def getN (nk : List (NestedKey × Addr × V)) (k : NestedKey) : Option V := (nk.find? fun p => decide (p.1 = k)).map (·.2.2)
def putN (nk : List (NestedKey × Addr × V)) (k : NestedKey) (b : Addr) (v : V) : List (NestedKey × Addr × V) := if (getN nk k).isSome then nk.map (fun p => if p.1 = k then (p.1, p.2.1, v) else p) else nk ++ [(k, b, v)]
theorem NKV.get {K : PySem.W.Frag} {F : Hp} {os : List Addr} {nk : List (NestedKey × Addr × V)} {kvs : List (D × D)} (h : NKV K F os nk kvs) {d : D} {k : NestedKey} (hd : nkD d = some k) : (getK kvs d = none ∧ getN nk k = none) ∨ ∃ e v, getK kvs d = some e ∧ getN nk k = some v ∧ Rp K F os v e := by
  induction h with
  | nil => exact .inl ⟨rfl, rfl⟩
  | @cons k' b v d' e nk kvs h1 h2 h3 h4 ih =>
    unfold getK getN at ih ⊢
    by_cases q : k' = k
    · subst q
      refine .inr ⟨e, v, ?_, ?_, h3⟩
      · rw [List.find?_cons_of_pos (by simp [h2, hd])]
        rfl
      · rw [List.find?_cons_of_pos (by simp)]
        rfl
    · rw [List.find?_cons_of_neg (by simp [h2, hd, q]), List.find?_cons_of_neg (by simp [q])]
      exact ih
theorem NKV.len {K : PySem.W.Frag} {F : Hp} {os : List Addr} {nk : List (NestedKey × Addr × V)} {kvs : List (D × D)} (h : NKV K F os nk kvs) : nk.length = kvs.length := by
  have := congrArg List.length h.keys
  simpa using this.symm
theorem NKV.app {K : PySem.W.Frag} {F : Hp} {os : List Addr} {nk nk' : List (NestedKey × Addr × V)} {kvs kvs' : List (D × D)} (h : NKV K F os nk kvs) (h' : NKV K F os nk' kvs') : NKV K F os (nk ++ nk') (kvs ++ kvs') := by
  induction h with
  | nil => exact h'
  | cons h1 h2 h3 _ ih => exact .cons h1 h2 h3 ih
theorem NKV.put {K : PySem.W.Frag} {F : Hp} {os : List Addr} {nk : List (NestedKey × Addr × V)} {kvs : List (D × D)} (h : NKV K F os nk kvs) {d e : D} {k : NestedKey} {b : Addr} {v : V} (hd : nkD d = some k) (hb : Rp K F os (.ref b) d) (hv : Rp K F os v e) : NKV K F os (putN nk k b v) (putD kvs d e) := by
  have upd : ∀ {nk : List (NestedKey × Addr × V)} {kvs : List (D × D)}, NKV K F os nk kvs → NKV K F os (nk.map (fun p => if p.1 = k then (p.1, p.2.1, v) else p)) (kvs.map (fun p => if nkD p.1 = nkD d then (p.1, e) else p)) := fun h => by
    induction h with
    | nil => exact .nil
    | @cons k' b' v' d' e' nk kvs h1 h2 h3 h4 ih =>
      simp only [List.map_cons]
      by_cases q : k' = k
      · subst q
        rw [if_pos rfl, if_pos (by rw [h2, hd])]
        exact .cons h1 h2 hv ih
      · rw [if_neg q, if_neg (by rw [h2, hd]; exact fun z => q (Option.some.inj z))]
        exact .cons h1 h2 h3 ih
  unfold putN putD
  rcases h.get hd with ⟨h1, h2⟩ | ⟨e', v', h1, h2, _⟩
  · rw [h1, h2]
    exact h.app (.cons hb hd hv .nil)
  · rw [h1, h2]
    exact upd h
theorem KN.val {nk : List (NestedKey × Addr × V)} {xs : List (NestedKey × Addr × Value)} (r : KN nk xs) (k : NestedKey) : RelO (getN nk k) ((atKey xs k).map (·.2)) := by
  induction r with
  | nil => trivial
  | @cons p q ps qs h t ih =>
    obtain ⟨h1, h2, h3⟩ := h
    unfold getN atKey at ih ⊢
    by_cases e : q.1 = k
    · have e' : p.1 = k := h1.trans e
      rw [List.find?_cons_of_pos (by simp [e']), List.find?_cons_of_pos (by simp [e])]
      exact h3
    · have e' : ¬ p.1 = k := fun z => e (h1.symm.trans z)
      rw [List.find?_cons_of_neg (by simp [e']), List.find?_cons_of_neg (by simp [e])]
      exact ih
theorem KN.app {nk nk' : List (NestedKey × Addr × V)} {xs xs' : List (NestedKey × Addr × Value)} (r : KN nk xs) (r' : KN nk' xs') : KN (nk ++ nk') (xs ++ xs') := by
  induction r with
  | nil => exact r'
  | cons h _ ih => exact .cons h ih
theorem KN.put {nk : List (NestedKey × Addr × V)} {xs : List (NestedKey × Addr × Value)} (r : KN nk xs) (k : NestedKey) (b : Addr) {v : V} {u : Value} (rv : RelV v u) : KN (putN nk k b v) (storedH xs k b u) := by
  have upd : ∀ {nk : List (NestedKey × Addr × V)} {xs : List (NestedKey × Addr × Value)}, KN nk xs → KN (nk.map (fun p => if p.1 = k then (p.1, p.2.1, v) else p)) (xs.map (putAt k u)) := fun r => by
    induction r with
    | nil => exact .nil
    | @cons p q ps qs h t ih =>
      obtain ⟨h1, h2, h3⟩ := h
      refine .cons ?_ ih
      unfold putAt
      dsimp only
      by_cases e : q.1 = k
      · rw [if_pos (h1.trans e), if_pos e]
        exact ⟨h1, h2, rv⟩
      · rw [if_neg (fun z => e (h1.symm.trans z)), if_neg e]
        exact ⟨h1, h2, h3⟩
  have hv := r.val k
  unfold putN storedH
  cases q : getN nk k with
  | none =>
    rw [q] at hv
    cases q2 : atKey xs k with
    | none => exact KN.app r (.cons ⟨rfl, rfl, rv⟩ .nil)
    | some y =>
      rw [q2] at hv
      cases hv
  | some y =>
    rw [q] at hv
    cases q2 : atKey xs k with
    | none =>
      rw [q2] at hv
      cases hv
    | some y => exact upd r
theorem KN.mem {nk : List (NestedKey × Addr × V)} {xs : List (NestedKey × Addr × Value)} (r : KN nk xs) : ∀ x ∈ xs, ∃ q ∈ nk, q.1 = x.1 ∧ q.2.1 = x.2.1 := by
  induction r with
  | nil => intro x hx; cases hx
  | @cons p q ps qs h t ih =>
    intro x hx
    rcases List.mem_cons.mp hx with rfl | hx
    · exact ⟨p, List.mem_cons_self, h.1, h.2.1⟩
    · obtain ⟨z, hz, e⟩ := ih x hx
      exact ⟨z, List.mem_cons_of_mem _ hz, e⟩
theorem KN.len {nk : List (NestedKey × Addr × V)} {xs : List (NestedKey × Addr × Value)} (r : KN nk xs) : nk.length = xs.length := Paired.length r
section
variable {X : Cx} {pins : List (Addr × Obj)} {σ : L2.St} {H : Hp} {s : Shared} {p : Addr}
/-- the dict at p, all its keys standing -/
theorem dn_of (I : Inv X pins σ H s) {nk : List (NestedKey × Addr × V)} {F : Hp} {os : List Addr} {kvs : List (D × D)} (e : H p = some (dN X.w p nk)) (eF : Same F H) (hk : NKV X.K F os nk kvs) (h8 : ∀ q ∈ nk, q.1.depth ≤ 8) : (p == sysModules) = false ∧ ∃ xs, KN nk xs ∧ s.heap.DictOfH (nestedKind X.prog X.w) p xs := by
  obtain ⟨⟨hd, xs, rel, o, es, ep, h1, h2, h3, h4, h5⟩, _, _⟩ := (show ObjOk X.prog X.w H s.heap p (dN X.w p nk) from I.hok p _ e)
  refine ⟨hd, xs, rel, o, es, ep, h1, h2, h3, h4, fun x hx => ?_, h5⟩
  obtain ⟨q, hq, e1, e2⟩ := rel.mem x hx
  have key : ∀ {nk : List (NestedKey × Addr × V)} {kvs : List (D × D)}, NKV X.K F os nk kvs → ∀ q ∈ nk, NestedIs s.heap q.1 (.ref q.2.1) := fun h => by
    induction h with
    | nil => intro q hq; cases hq
    | cons a1 a2 a3 _ ih =>
      intro q hq
      rcases List.mem_cons.mp hq with rfl | hq
      · exact Rp.nk I eF a1 a2 rfl
      · exact ih q hq
  have := key hk q hq
  rw [← e1, ← e2]
  exact ⟨this, h8 q hq⟩
theorem dn_ok {P : Program} {w : World} {H' : Hp} {h' : Heap} {nk : List (NestedKey × Addr × V)} {xs : List (NestedKey × Addr × Value)} (hd : (p == sysModules) = false) (rel : KN nk xs) (dd : h'.DictOfH (nestedKind P w) p xs) : ObjOk P w H' h' p (dN w p nk) := by
  obtain ⟨o, es, ep, h1, h2, h3, h4, _, h5⟩ := dd
  refine ⟨⟨hd, xs, rel, o, es, ep, h1, h2, h3, h4, h5⟩, ⟨o, h1⟩, fun g1 g2 ⟨q1, ys, q2, o', es', ep', q3, q4⟩ st => ⟨q1, ys, q2, o', es', ep', st _ q3, q4⟩⟩
theorem dn_empty {P : Program} {w : World} {H : Hp} (h : Heap) (hb : sysModules < h.objs.size) : ObjOk P w H (h.push { cls := .type "dict", data := .dict #[] }) h.objs.size (dN w h.objs.size []) :=
  dn_ok (beq_eq_false_iff_ne.mpr (Ne.symm (Nat.ne_of_lt hb))) .nil (Heap.DictOfH.new h)
end
theorem room_nk {k : Nat} {A : Around} (r : Room k A) {P : Program} {w : World} : (nestedKind P w).room A := by
  have := r.un
  show A.units + 8 < cLine
  omega
theorem room_nk1 {k : Nat} {A : Around} (r : Room k A) {P : Program} {w : World} : (nestedKind P w).room A.in1 := by
  have := r.un
  show A.units + 1 + 8 < cLine
  omega
section
variable {s : Sta} {P : D → Sta → Prop} {PO' : Out → Prop} {a b e o i value : Expr} {es : List Expr} {pos pos' p apos cpos : Pos} {x : Str}
/-- {} for keys that are tuples -/
theorem ae_dict0 (h : P (.ob s.o.length) ⟨s.r, s.o ++ [.dct .t []]⟩) : AE c (.Dict [] [] pos) s P := by
  refine ⟨?_⟩
  intro X hX σ τ τv H R Q hq pins t I
  refine wpAny_Dict_empty ⟨.ref t.heap.objs.size, _, I.laid (a := t.heap.objs.size) (o := dN X.w t.heap.objs.size []) (t' := t.toks) (fun _ _ q => Heap.get?_push_of_some _ q) (Nat.le_refl _) (dn_empty t.heap I.big), rfl, ?_⟩
  refine hq _ _ _ _ h (R.ownG (ob0 := .dct .t []) (I.hok.fresh (Nat.le_refl _)) fun F os r => ?_)
  rw [hX.w]
  exact dct_iff.mpr ⟨[], upd_same, Nat.zero_le _, .nil, fun _ h => by cases h⟩
/-- the nested key of a value -/
theorem Rep.key {σ : L2.St} {τ : List D} {τv : List V} {H : Hp} {d : D} {v : V} {k : List NestedKey} (R : Rep c s σ (d :: τ) (v :: τv) H) (h : nkD d = some (.tup k)) : ∃ b, v = .ref b := by
  obtain ⟨F, os, _, _, _, r⟩ := R
  cases r with
  | cons q _ =>
    cases q with
    | tup => exact ⟨_, rfl⟩
    | non => cases h
    | bl => cases h
    | int => cases h
    | str => cases h
    | lst => cases h
    | ob => exact ⟨_, rfl⟩
    | ty => cases h
def KeyD (d : D) : Prop := ∃ k, nkD d = some (.tup k) ∧ (NestedKey.tup k).depth ≤ 8
/-- k in d, k not in d -/
theorem ac_inK (neg : Bool) (h : AE c a s fun d1 s1 => AE c b s1 fun d2 s2 => ∃ j kvs, d2 = .ob j ∧ s2.o[j]? = some (.dct .t kvs) ∧ KeyD d1 ∧ P (.bl (if neg then !(getK kvs d1).isSome else (getK kvs d1).isSome)) s2) : AC c (if neg then .NotIn else .In) a b s P := by
  refine ⟨?_⟩
  intro X hX σ τ τv H R Q hq pins t I
  refine L2.thn (h X hX σ τ τv H R (fun v1 H1 => ∃ d1 s1, Rep c s1 σ (d1 :: τ) (v1 :: τv) H1 ∧ AE c b s1 fun d2 s2 => ∃ j kvs, d2 = .ob j ∧ s2.o[j]? = some (.dct .t kvs) ∧ KeyD d1 ∧ P (.bl (if neg then !(getK kvs d1).isSome else (getK kvs d1).isSome)) s2) (fun d1 s1 v1 H1 h1 R1 => ⟨d1, s1, R1, h1⟩) pins t I) fun u1 t1 ⟨v1, H1, I1, r1, d1, s1, R1, h1⟩ => ?_
  refine L2.thn (h1 X hX σ _ _ H1 R1 (fun v2 H2 => ∃ d2 s2, Rep c s2 σ (d2 :: d1 :: τ) (v2 :: v1 :: τv) H2 ∧ ∃ j kvs, d2 = .ob j ∧ s2.o[j]? = some (.dct .t kvs) ∧ KeyD d1 ∧ P (.bl (if neg then !(getK kvs d1).isSome else (getK kvs d1).isSome)) s2) (fun d2 s2 v2 H2 h2 R2 => ⟨d2, s2, R2, h2⟩) pins t1 I1) fun u2 t2 ⟨v2, H2, I2, r2, d2, s2, R2, j, kvs, e2, ho, ⟨k, hk, h8⟩, hp⟩ => ?_
  subst e2
  obtain ⟨p, F, os, rfl, eF, hob, r⟩ := R2.objG ho
  obtain ⟨nk, hN, hz, hkv, hd8⟩ := dct_iff.mp hob
  rw [← hX.w] at hN
  rw [← hX.K] at hkv r
  obtain ⟨hsm, xs, rel, dd⟩ := dn_of I2 hN eF hkv hd8
  cases r2
  obtain ⟨bb, rfl⟩ := R2.pop.key hk
  cases r1
  cases r with
  | cons rk _ =>
    have key : (nestedKind X.prog X.w).is t2.heap (.tup k) bb := ⟨Rp.nk I2 eF rk hk rfl, h8⟩
    have es : (atKey xs (.tup k)).isSome = (getK kvs d1).isSome := by
      have h1 := (rel.val (.tup k)).isSome_eq
      rw [Option.isSome_map] at h1
      rw [← h1]
      rcases hkv.get hk with ⟨e1, e2⟩ | ⟨_, _, e1, e2, _⟩
      · rw [e1, e2]
        rfl
      · rw [e1, e2]
        rfl
    cases neg with
    | false =>
      refine wpAny_in_heap (room_nk1 hX.room) key hsm dd ?_
      rw [es]
      exact ⟨.bl _, H2, I2.tok _, rfl, hq _ _ _ _ hp (R2.pop.pop.push fun _ _ => .bl _)⟩
    | true =>
      refine wpAny_notIn_heap (room_nk1 hX.room) key hsm dd ?_
      rw [es]
      exact ⟨.bl _, H2, I2.tok _, rfl, hq _ _ _ _ hp (R2.pop.pop.push fun _ _ => .bl _)⟩
theorem ac_isInK (h : AE c a s fun d1 s1 => AE c b s1 fun d2 s2 => ∃ j kvs, d2 = .ob j ∧ s2.o[j]? = some (.dct .t kvs) ∧ KeyD d1 ∧ P (.bl (getK kvs d1).isSome) s2) : AC c .In a b s P := ac_inK false h
theorem ac_notInK (h : AE c a s fun d1 s1 => AE c b s1 fun d2 s2 => ∃ j kvs, d2 = .ob j ∧ s2.o[j]? = some (.dct .t kvs) ∧ KeyD d1 ∧ P (.bl (!(getK kvs d1).isSome)) s2) : AC c .NotIn a b s P := ac_inK true h
/-- d[k] = v -/
theorem as_dput (h : AE c value s fun e s1 => AE c o s1 fun d s2 => AE c i s2 fun k s3 => ∃ j kvs, d = .ob j ∧ s3.o[j]? = some (.dct .t kvs) ∧ KeyD k ∧ kvs.length < sizeLine ∧ PO' (.nx ⟨s3.r, s3.o.set j (.dct .t (putD kvs k e))⟩))
    (hs : ∀ env, swapsWith value (some (.Subscript o i pos')) pos.line env = pure false := by intro _; rfl) : AS c (.Assign [.Subscript o i pos'] value pos) s PO' := by
  refine ⟨?_⟩
  intro X hX σ τ τv H R E hq pins t I
  refine wpAny_Assign_Subscript ?_ (hs _)
  refine L2.thn (h X hX σ τ τv H R (fun v1 H1 => ∃ e s1, Rep c s1 σ (e :: τ) (v1 :: τv) H1 ∧ AE c o s1 fun d s2 => AE c i s2 fun k s3 => ∃ j kvs, d = .ob j ∧ s3.o[j]? = some (.dct .t kvs) ∧ KeyD k ∧ kvs.length < sizeLine ∧ PO' (.nx ⟨s3.r, s3.o.set j (.dct .t (putD kvs k e))⟩)) (fun d1 s1 v1 H1 h1 R1 => ⟨d1, s1, R1, h1⟩) pins t I) fun u1 t1 ⟨v1, H1, I1, r1, e, s1, R1, h1⟩ => ?_
  refine L2.thn (h1 X hX σ _ _ H1 R1 (fun v2 H2 => ∃ d s2, Rep c s2 σ (d :: e :: τ) (v2 :: v1 :: τv) H2 ∧ AE c i s2 fun k s3 => ∃ j kvs, d = .ob j ∧ s3.o[j]? = some (.dct .t kvs) ∧ KeyD k ∧ kvs.length < sizeLine ∧ PO' (.nx ⟨s3.r, s3.o.set j (.dct .t (putD kvs k e))⟩)) (fun d2 s2 v2 H2 h2 R2 => ⟨d2, s2, R2, h2⟩) pins t1 I1) fun u2 t2 ⟨v2, H2, I2, r2, d, s2, R2, h2⟩ => ?_
  refine L2.thn (h2 X hX σ _ _ H2 R2 (fun v3 H3 => ∃ k s3, Rep c s3 σ (k :: d :: e :: τ) (v3 :: v2 :: v1 :: τv) H3 ∧ ∃ j kvs, d = .ob j ∧ s3.o[j]? = some (.dct .t kvs) ∧ KeyD k ∧ kvs.length < sizeLine ∧ PO' (.nx ⟨s3.r, s3.o.set j (.dct .t (putD kvs k e))⟩)) (fun d3 s3 v3 H3 h3 R3 => ⟨d3, s3, R3, h3⟩) pins t2 I2) fun u3 t3 ⟨v3, H3, I3, r3, kd, s3, R3, j, kvs, e3, ho, ⟨k, hk, h8⟩, hz, hp⟩ => ?_
  subst e3
  have R4 := R3.sw
  obtain ⟨p, F, os, rfl, eF, hob, r, mu⟩ := R4.objM ho (by simp)
  obtain ⟨nk, hN0, hz2, hkv0, hd8⟩ := dct_iff.mp hob
  have hN : H3 p = some (dN X.w p nk) := by rw [hX.w]; exact hN0
  have hkv : NKV X.K F os nk kvs := by rw [hX.K]; exact hkv0
  obtain ⟨hsm, xs, rel, dd⟩ := dn_of I3 hN eF hkv hd8
  cases r2
  obtain ⟨bb, rfl⟩ := R3.key hk
  cases r3
  cases r with
  | cons rk r =>
    cases r with
    | cons rv _ =>
      have key : (nestedKind X.prog X.w).is t3.heap (.tup k) bb := ⟨Rp.nk (v := .ref bb) I3 eF (by rw [hX.K]; exact rk) hk rfl, h8⟩
      refine wpAny_setItem_heap (hsz := by rw [← rel.len]; exact hz2) (room_nk1 hX.room) key dd fun h' dd' hs' => ?_
      obtain ⟨q, _, _, hq', _⟩ := id dd'
      refine ⟨σ, _, d_write (ob := dN X.w p (putN nk (.tup k) bb v1)) I3 (by rw [hN]; exact True.intro) hs' ⟨q, hq'⟩ (dn_ok hsm (rel.put _ _ r1) dd'), ?_⟩
      have hput := hkv0.put hk rk rv
      have R5 := mu (dN X.w p (putN nk (.tup k) bb v1)) (.dct .t (putD kvs kd e)) (dct_iff.mpr ⟨_, by rw [hX.w]; exact upd_same, by
        rw [hput.len]
        unfold putD
        split
        · rw [List.length_map]
          exact Nat.le_of_lt hz
        · rw [List.length_append]
          exact hz, hput, fun q' hq'' => by
        unfold putN at hq''
        split at hq''
        · obtain ⟨y, hy, rfl⟩ := List.mem_map.mp hq''
          split
          · exact hd8 y hy
          · exact hd8 y hy
        · rcases List.mem_append.mp hq'' with z | z
          · exact hd8 q' z
          · simp at z
            subst z
            exact h8⟩)
      exact hq.nx _ _ _ hp R5.pop.pop.pop
theorem wpAny_Dict_pairsX {prog : Program} {w : World} {K : Type} [DecidableEq K] {knd : HeapKind prog w K} {A : Around} {E : Value → Shared → Prop} {s : Shared} {env : Env} {keys : List (Option Expr)} {values : List Expr} {pos : Pos} {pairs : List (Sem Value × Sem Value)} {Q : Value → Shared → Prop} (hu : knd.room A)
    (hshape : (evalEachOpt keys env).zip ((evalEach values env).map fun v => do let x ← v; standAt pos; pure x) = pairs.map fun p => (some p.1, p.2)) (h0 : pairs ≠ []) (hlen : pairs.length ≤ 15)
    (h : wpAny (model prog w) A (evalPairs pairs) (fun vs s₁ => ∃ ps, CarriesH knd s₁.heap vs ps ∧ s₁.heap.DictOfH knd s.heap.objs.size [] ∧
      ∀ h' tk, h'.DictOfH knd s.heap.objs.size (storedAllH [] ps) → Heap.SameBut s.heap.objs.size s₁.heap h' → Q (.ref s.heap.objs.size) { s₁ with heap := h', toks := tk }) E
      { s with heap := s.heap.push { cls := .type "dict", data := .dict #[] } }) :
    wpAny (model prog w) A (eval (.Dict keys values pos) env) Q E s := by
  rw [arm_eval_Dict, hshape, dictDisplay_pairs pairs h0 (by omega)]
  exact wpAny_bind (wpAny_standAt (wpAny_bind (wpAny_subDictH (knd := knd) (Q := fun d s' => wpAny (model prog w) A (pure (Value.ref d)) Q E s') hu hlen
    (wpAny_mono h (fun vs s₁ h₁ => by obtain ⟨ps, hc, hm, hq⟩ := h₁; exact ⟨ps, hc, hm, fun h' tk a b => wpAny_pure (hq h' tk a b)⟩) fun _ _ e => e))))
/-- {k: v}, k a tuple -/
theorem ae_dict1 {kx vx : Expr} (h : AE c kx ⟨s.r, s.o ++ [.dct .t []]⟩ fun d1 s1 => AE c vx s1 fun d2 s2 => s2.o[s.o.length]? = some (.dct .t []) ∧ KeyD d1 ∧ P (.ob s.o.length) ⟨s2.r, s2.o.set s.o.length (.dct .t [(d1, d2)])⟩) : AE c (.Dict [some kx] [vx] pos) s P := by
  refine ⟨?_⟩
  intro X hX σ τ τv H R Q hq pins t I
  have hn := I.hok.fresh (Nat.le_refl t.heap.objs.size)
  have I1 := I.laid (a := t.heap.objs.size) (o := dN X.w t.heap.objs.size []) (h' := t.heap.push { cls := .type "dict", data := .dict #[] }) (t' := t.toks) (fun _ _ q => Heap.get?_push_of_some _ q) (Nat.le_refl _) (dn_empty t.heap I.big)
  have R1 := R.ownG (ho := dN X.w t.heap.objs.size []) (ob0 := .dct .t []) hn fun F os r => by
    rw [hX.w]
    exact dct_iff.mpr ⟨[], upd_same, Nat.zero_le _, .nil, fun _ h => by cases h⟩
  have hp := pairTrees_length [some kx] [vx] X.env pos rfl rfl
  refine wpAny_Dict_pairsX (knd := nestedKind X.prog X.w) (pairs := pairTrees [some kx] [vx] X.env pos) (room_nk hX.room) (zip_pairTrees [some kx] [vx] X.env pos rfl rfl) (fun e => by rw [e] at hp; cases hp) (by rw [hp]; simp) ?_
  refine L2.thn ((pps_cons (pos := pos) (k := kx) (v := vx) (ks := []) (vs := []) pe_w pe_w pps_nil).run pins _ σ _ (fun ps H3 => ∃ d1 d2 v1 v2 s2, ps = [(v1, v2)] ∧ Rep c s2 σ (d2 :: d1 :: .ob s.o.length :: τ) (v2 :: v1 :: .ref t.heap.objs.size :: τv) H3 ∧ s2.o[s.o.length]? = some (.dct .t []) ∧ KeyD d1 ∧ P (.ob s.o.length) ⟨s2.r, s2.o.set s.o.length (.dct .t [(d1, d2)])⟩) I1 ?_) fun vs t2 ⟨ps, H2, I2, rel, d1, d2, v1, v2, s2, e1, R2, ho, ⟨k, hk, h8⟩, hP⟩ => ?_
  · exact h X hX σ _ _ _ R1 _ fun d1 s1 v1 H1 h1 R2 => h1 X hX σ _ _ H1 R2 _ fun d2 s2 v2 H2 h2 R3 => ⟨d1, d2, v1, v2, s2, rfl, R3, h2⟩
  · subst e1
    cases rel with
    | @cons p q ps qs hr rest =>
      cases rest
      obtain ⟨r1, r2⟩ := hr
      obtain ⟨u1, u2⟩ := q
      have R3 : Rep c s2 σ (.ob s.o.length :: d1 :: d2 :: τ) (.ref t.heap.objs.size :: v1 :: v2 :: τv) H2 := R2.temps fun F os r => by
        cases r with
        | cons a r =>
          cases r with
          | cons b r =>
            cases r with
            | cons c r => exact .cons c (.cons b (.cons a r))
      obtain ⟨p, F, os, e2, eF, hob, r, mu⟩ := R3.objM ho (by simp)
      cases e2
      obtain ⟨nk, hN0, hz2, hkv0, hd8⟩ := dct_iff.mp hob
      cases hkv0
      have hN : H2 t.heap.objs.size = some (dN X.w t.heap.objs.size []) := by rw [hX.w]; exact hN0
      obtain ⟨hsm, xs, rel', dd⟩ := dn_of (F := F) (os := os) (kvs := []) I2 hN eF .nil (fun _ h => by cases h)
      cases rel'
      obtain ⟨bb, rfl⟩ := R2.pop.key hk
      cases (show u1 = Value.ref bb from r1)
      cases r with
      | cons rk r =>
        cases r with
        | cons rv _ =>
          have key : (nestedKind X.prog X.w).is t2.heap (.tup k) bb := ⟨Rp.nk (v := .ref bb) I2 eF (by rw [hX.K]; exact rk) hk rfl, h8⟩
          refine ⟨[(.tup k, bb, u2)], ⟨rfl, rfl, key, trivial⟩, dd, fun h' tk dd' hs' => ?_⟩
          have es : storedAllH ([] : List (NestedKey × Addr × Value)) [(.tup k, bb, u2)] = [(.tup k, bb, u2)] := rfl
          rw [es] at dd'
          obtain ⟨q, _, _, hq', _⟩ := id dd'
          refine ⟨.ref t.heap.objs.size, _, d_write (ob := dN X.w t.heap.objs.size [(.tup k, bb, v2)]) I2 (by rw [hN]; exact True.intro) hs' ⟨q, hq'⟩ (dn_ok hsm (.cons ⟨rfl, rfl, r2⟩ .nil) dd'), rfl, ?_⟩
          have R5 := mu (dN X.w t.heap.objs.size [(.tup k, bb, v2)]) (.dct .t [(d1, d2)]) (dct_iff.mpr ⟨_, by rw [hX.w]; exact upd_same, by simp [sizeLine], .cons rk hk rv .nil, fun q' hq'' => by
            simp at hq''
            subst hq''
            exact h8⟩)
          exact hq _ _ _ _ hP (R5.temps fun F os r => by
            cases r with
            | cons a r => exact .cons a r.tail.tail)
end
end G9

namespace G9
open PySem PySem.Spec PyProof.Rows L2
variable {c : SC}
/-! ### dicts that are locked while they are walked -/
theorem Rep.objR {s : Sta} {σ : L2.St} {τ : List D} {τv : List V} {H : Hp} {j : Nat} {ob0 : Ob} {v : V} (R : Rep c s σ (.ob j :: τ) (v :: τv) H) (h : s.o[j]? = some ob0) : ∃ p F os, v = .ref p ∧ Same F H ∧ ObOk c.w c.K F os H p ob0 ∧ RpL c.K F os (v :: τv) (.ob j :: τ) ∧ ∀ τ' τv', RpL c.K F os τv' τ' → Rep c s σ τ' τv' H := by
  obtain ⟨F, os, a, b, e, r⟩ := R
  have r0 := r
  cases r with
  | cons q r =>
    cases q with
    | ob q => exact ⟨_, F, os, rfl, a.ex, a.obj j _ _ q h, r0, fun τ' τv' r' => ⟨F, os, a, b, e, r'⟩⟩
theorem Rep.objT {s : Sta} {σ : L2.St} {τ : List D} {τv : List V} {H : Hp} {j : Nat} {ob0 : Ob} (R : Rep c s σ τ τv H) (h : s.o[j]? = some ob0) : ∃ p, Rep c s σ (.ob j :: τ) (.ref p :: τv) H := by
  obtain ⟨F, os, a, b, e, r⟩ := R
  have hj : j < os.length := by
    rw [a.len]
    exact (List.getElem?_eq_some_iff.mp h).1
  exact ⟨os[j], F, os, a, b, e, .cons (.ob (List.getElem?_eq_getElem hj)) r⟩
theorem lck_iff {w : World} {K : PySem.W.Frag} {F H : Hp} {os : List Addr} {a : Addr} {u : HO} {kvs : List (D × D)} : ObOk w K F os H a (.dct (.l u) kvs) ↔ ∃ od nk, u = .frz od (dN w a nk) ∧ H a = some u ∧ nk.length ≤ sizeLine ∧ NKV K F os nk kvs ∧ ∀ p ∈ nk, p.1.depth ≤ 8 := by
  constructor
  · rintro ⟨vks, h, r⟩
    rcases h with ⟨h, _⟩ | ⟨nk, ⟨h, _⟩ | ⟨od, h, h1⟩, h2, rfl, h4, h5⟩
    · cases h
    · cases h
    · have hu : u = .frz od (dN w a nk) := by
        cases h
        rfl
      have el : ((nk.map fun p => (V.ref p.2.1, p.2.2)).map (·.1)).length = (kvs.map (·.1)).length := by
        have := congrArg List.length h4
        simp only [List.length_map] at this ⊢
        exact this.symm
      obtain ⟨r1, r2⟩ := RpL.split el r
      rw [List.map_map] at r1 r2
      exact ⟨od, nk, hu, hu ▸ h1, h2, nkv_mk h4 r1 r2, h5⟩
  · rintro ⟨od, nk, h0, h1, h2, h3, h5⟩
    refine ⟨nk.map fun p => (V.ref p.2.1, p.2.2), .inr ⟨nk, .inr ⟨od, by rw [h0], by rw [h1, h0]⟩, h2, rfl, h3.keys, h5⟩, ?_⟩
    rw [List.map_map, List.map_map]
    exact h3.rk.append h3.rv
theorem NKV.at {K : PySem.W.Frag} {F : Hp} {os : List Addr} {nk : List (NestedKey × Addr × V)} {kvs : List (D × D)} (h : NKV K F os nk kvs) : ∀ {i : Nat} {k : NestedKey} {b : Addr} {v : V}, nk[i]? = some (k, b, v) → ∃ d e, kvs[i]? = some (d, e) ∧ Rp K F os (.ref b) d ∧ Rp K F os v e := by
  induction h with
  | nil => intro i k b v e; simp at e
  | @cons k' b' v' d' e' nk kvs h1 h2 h3 h4 ih =>
    intro i k b v e
    cases i with
    | zero =>
      simp only [List.getElem?_cons_zero, Option.some.injEq, Prod.mk.injEq] at e
      obtain ⟨rfl, rfl, rfl⟩ := e
      exact ⟨d', e', rfl, h1, h3⟩
    | succ i =>
      simp only [List.getElem?_cons_succ] at e ⊢
      exact ih e
section
variable {X : Cx} {pins : List (Addr × Obj)} {σ : L2.St} {H : Hp} {s : Shared} {d : Addr} {o : Obj}
theorem frzN {nk : List (NestedKey × Addr × V)} (I : Inv X pins σ H s) (h : H d = some (.frz o (dN X.w d nk))) :
    (d == sysModules) = false ∧ ∃ es ep, s.heap.get? d = some o ∧ o.ExactDict ∧ o.data = .dict es ep ∧ es.size = nk.length ∧ ∀ (i : Nat) (k : NestedKey) (b : Addr) (v : V), nk[i]? = some (k, b, v) → ∃ en, es[i]? = some en ∧ en.key = .ref b ∧ RelV v en.val := by
  obtain ⟨hd, x⟩ := I.hok d _ h
  obtain ⟨⟨hs, xs, rel, o', es, ep, h1, h2, h3, h4, _⟩, _, _⟩ := (show ObjOk X.prog X.w H s.heap d (dN X.w d nk) from x)
  rw [hd] at h1
  cases h1
  refine ⟨hs, es, ep, hd, h2, h3, ?_, fun i k b v e => ?_⟩
  · have l1 := congrArg List.length h4
    have := rel.len
    simp at l1
    omega
  · obtain ⟨y, hy, e1, e2, e3⟩ := L2.paired_get rel e
    have q : es.toList[i]? = some ⟨NestedKey.hash X.w y.1, .ref y.2.1, y.2.2⟩ := by
      rw [h4, List.getElem?_map, hy]
      rfl
    rw [Array.getElem?_toList] at q
    refine ⟨_, q, ?_, e3⟩
    show Value.ref y.2.1 = Value.ref b
    rw [← e2]
end
def LkD (w : World) (d : Addr) (o : Obj) (n : Nat) (H : Hp) : Prop := ∃ nk, H d = some (.frz o (dN w d nk)) ∧ nk.length = n
def ItnK (w : World) (d : Addr) (o : Obj) (n : Nat) : It :=
  ⟨fun i H => LkD w d o n H ∧ i < n, fun i H x H' => H' = H ∧ ∀ nk, H d = some (.frz o (dN w d nk)) → nk.length = n → ∃ k b v, nk[i]? = some (k, b, v) ∧ x = .ref b, fun i H => LkD w d o n H ∧ n ≤ i⟩
def ItnV (w : World) (d : Addr) (o : Obj) (n : Nat) : It :=
  ⟨fun i H => LkD w d o n H ∧ i < n, fun i H x H' => H' = H ∧ ∀ nk, H d = some (.frz o (dN w d nk)) → nk.length = n → ∃ k b v, nk[i]? = some (k, b, v) ∧ x = v, fun i H => LkD w d o n H ∧ n ≤ i⟩
def ItnI (w : World) (d : Addr) (o : Obj) (n : Nat) : It :=
  ⟨fun i H => LkD w d o n H ∧ i < n, fun i H x H' => ∃ T x1 x2, x = .ref T ∧ H T = none ∧ H' = upd H T (.tup [x1, x2]) ∧ ∀ nk, H d = some (.frz o (dN w d nk)) → nk.length = n → ∃ k b v, nk[i]? = some (k, b, v) ∧ x1 = .ref b ∧ x2 = v, fun i H => LkD w d o n H ∧ n ≤ i⟩
section
variable {P : Program} {w : World} {K : PySem.W.Frag} {tg : Expr} {d : Addr} {o : Obj} {es : Array DictEntry} {ep : Nat}
theorem turn_nK (it : Addr) (hod : o.data = .dict es ep) : Turn P w K tg (ItnK w d o es.size) [it] it (fun i h => h.IsKeyIter it d i es.size ep) where
  mem := by simp
  obj := fun i h st b hb => by
    have e : b = it := by simpa using hb
    subst e
    obtain ⟨oi, e, c, dd⟩ := st
    exact ⟨oi, e, fun v z => by rw [dd] at z; cases z⟩
  keep := fun i h h' st k => st.at fun oi e => k it (by simp) oi e
  item := by
    intro X hP hw hK hc i pins s σ H E I hf st hg
    subst hP hw hK
    obtain ⟨⟨nk, hd, hn⟩, hi⟩ := hg
    obtain ⟨f0, f1, f2, f3, f4, f5⟩ := hf it (by simp)
    obtain ⟨hs, es', ep', hgd, hx, hdt, hsz, ent⟩ := frzN I hd
    obtain ⟨rfl, rfl⟩ := L2.dict_ep hod hdt
    obtain ⟨⟨k, b, v⟩, hkv⟩ : ∃ p, nk[i]? = some p := ⟨nk[i], List.getElem?_eq_getElem (by omega)⟩
    obtain ⟨en, hen, hkey, _⟩ := ent i k b v hkv
    refine next_key_item st hgd hdt rfl hen fun h' st' sb => ?_
    have I1 : Inv X pins σ H { s with heap := h' } := I.turned (t' := s.toks) (fun b ob hb e => (sb.2 b hb).trans e) f0 f1 f3 f4 f5
    obtain ⟨oi, e, c, dd⟩ := id st'
    refine ⟨en.key, rfl, go_of (s := { s with heap := h' }) e c dd (by decide) ⟨.ref b, H, I1, hkey, ⟨rfl, fun nk2 hd2 hn2 => ?_⟩, st', fun b hb => (hf b hb).1⟩⟩
    obtain ⟨_, es2, ep2, _, _, hdt2, _, ent2⟩ := frzN I hd2
    obtain ⟨rfl, rfl⟩ := L2.dict_ep hdt hdt2
    obtain ⟨⟨k2, b2, v2⟩, hkv2⟩ : ∃ p, nk2[i]? = some p := ⟨nk2[i], List.getElem?_eq_getElem (by omega)⟩
    obtain ⟨en2, hen2, hkey2, _⟩ := ent2 i k2 b2 v2 hkv2
    rw [hen] at hen2
    cases hen2
    rw [hkey] at hkey2
    cases hkey2
    exact ⟨k2, b, v2, hkv2, rfl⟩
  done := by
    intro X hP hw hK hc i pins s σ H E I hf st hg
    subst hP hw hK
    obtain ⟨⟨nk, hd, hn⟩, hi⟩ := hg
    obtain ⟨f0, f1, f2, f3, f4, f5⟩ := hf it (by simp)
    obtain ⟨hs, es', ep', hgd, hx, hdt, hsz, ent⟩ := frzN I hd
    obtain ⟨rfl, rfl⟩ := L2.dict_ep hod hdt
    exact next_key_end (I.ok.hd hc) st hgd hdt rfl hi fun h' eb => ⟨rfl, I.turned (t' := s.toks) (fun b o hb e => eb b o hb e) f0 f1 f3 f4 f5⟩
  self := fun A i s Q E st h => by
    refine wpAny_pyIter_slot st.typeIs F.slot_dict_keyiterator_iter (wpAny_call_entry F.slot_dict_keyiterator_iter st.typeIs F.entry_dict_keyiterator_iter ?_ (F.args_dict_keyiterator_iter_1 _))
    show wpAny _ _ (ret (.ref it)) _ _ s
    exact wpAny_pure ⟨_, rfl, "dict_keyiterator", _, st.typeIs, F.slot_dict_keyiterator_next.lookup, h⟩
theorem turn_nV (it : Addr) (hod : o.data = .dict es ep) : Turn P w K tg (ItnV w d o es.size) [it] it (fun i h => h.IsValIter it d i es.size ep) where
  mem := by simp
  obj := fun i h st b hb => by
    have e : b = it := by simpa using hb
    subst e
    obtain ⟨oi, e, c, dd⟩ := st
    exact ⟨oi, e, fun v z => by rw [dd] at z; cases z⟩
  keep := fun i h h' st k => st.at fun oi e => k it (by simp) oi e
  item := by
    intro X hP hw hK hc i pins s σ H E I hf st hg
    subst hP hw hK
    obtain ⟨⟨nk, hd, hn⟩, hi⟩ := hg
    obtain ⟨f0, f1, f2, f3, f4, f5⟩ := hf it (by simp)
    obtain ⟨hs, es', ep', hgd, hx, hdt, hsz, ent⟩ := frzN I hd
    obtain ⟨rfl, rfl⟩ := L2.dict_ep hod hdt
    obtain ⟨⟨k, b, v⟩, hkv⟩ : ∃ p, nk[i]? = some p := ⟨nk[i], List.getElem?_eq_getElem (by omega)⟩
    obtain ⟨en, hen, _, hval⟩ := ent i k b v hkv
    obtain ⟨hi', hen'⟩ := Array.getElem?_eq_some_iff.mp hen
    refine wpAny_pyNext_values_item_raw st ⟨o, hgd, hx, hdt⟩ hi' fun h' st' sb => ?_
    have I1 : Inv X pins σ H { s with heap := h' } := I.turned (t' := s.toks) (fun b ob hb e => (sb.2 b hb).trans e) f0 f1 f3 f4 f5
    obtain ⟨oi, e, c, dd⟩ := id st'
    rw [hen']
    refine ⟨en.val, rfl, go_of (s := { s with heap := h' }) e c dd (by decide) ⟨v, H, I1, hval, ⟨rfl, fun nk2 hd2 hn2 => ?_⟩, st', fun b hb => (hf b hb).1⟩⟩
    obtain ⟨_, es2, ep2, _, _, hdt2, _, ent2⟩ := frzN I hd2
    obtain ⟨rfl, rfl⟩ := L2.dict_ep hdt hdt2
    obtain ⟨⟨k2, b2, v2⟩, hkv2⟩ : ∃ p, nk2[i]? = some p := ⟨nk2[i], List.getElem?_eq_getElem (by omega)⟩
    obtain ⟨en2, hen2, _, hval2⟩ := ent2 i k2 b2 v2 hkv2
    rw [hen] at hen2
    cases hen2
    exact ⟨k2, b2, v2, hkv2, hval.inj hval2⟩
  done := by
    intro X hP hw hK hc i pins s σ H E I hf st hg
    subst hP hw hK
    obtain ⟨⟨nk, hd, hn⟩, hi⟩ := hg
    obtain ⟨f0, f1, f2, f3, f4, f5⟩ := hf it (by simp)
    obtain ⟨hs, es', ep', hgd, hx, hdt, hsz, ent⟩ := frzN I hd
    obtain ⟨rfl, rfl⟩ := L2.dict_ep hod hdt
    exact wpAny_pyNext_values_end_raw (I.ok.hd hc) st ⟨o, hgd, hx, hdt⟩ hi fun h' eb => ⟨rfl, I.turned (t' := s.toks) (fun b o hb e => eb b o hb e) f0 f1 f3 f4 f5⟩
  self := fun A i s Q E st h => wpAny_pyIter_valiter st h
theorem turn_nI {elts : List Expr} {kk : Nat} {tpos : Pos} (it : Addr) (hod : o.data = .dict es ep) :
    Turn P w K (.Tuple elts kk tpos) (ItnI w d o es.size) [it] it (fun i h => ∃ ok ov, IsItemIter h it d i es.size ep ok ov) where
  mem := by simp
  obj := fun i h st b hb => by
    have e : b = it := by simpa using hb
    subst e
    obtain ⟨ok, ov, e⟩ := st
    exact ⟨_, e, fun v z => nomatch z⟩
  keep := fun i h h' st k => let ⟨ok, ov, e⟩ := st; ⟨ok, ov, k it (by simp) _ e⟩
  item := by
    intro X hP hw hK hc i pins s σ H E I hf st hg
    subst hP hw hK
    obtain ⟨⟨nk, hd, hn⟩, hi⟩ := hg
    obtain ⟨hs, es', ep', hgd, hx, hdt, hsz, ent⟩ := frzN I hd
    obtain ⟨rfl, rfl⟩ := L2.dict_ep hod hdt
    obtain ⟨⟨k, b, v⟩, hkv⟩ : ∃ p, nk[i]? = some p := ⟨nk[i], List.getElem?_eq_getElem (by omega)⟩
    obtain ⟨en, hen, hkey, hval⟩ := ent i k b v hkv
    obtain ⟨hi', hen'⟩ := Array.getElem?_eq_some_iff.mp hen
    obtain ⟨ok, ov, he⟩ := st
    have hlt : it < s.heap.objs.size := Heap.lt_size he
    refine wpAny_pyNext_items_item_raw he ⟨o, hgd, hx, hdt⟩ hi' fun h' ho hT hz hk => ?_
    refine ⟨_, rfl, wpAny_letOwnedTupleGo_items (s := { s with heap := h' }) ho fun h'' he' sb => ?_⟩
    have hT2 : h''.get? s.heap.objs.size = some { cls := .type "tuple", data := .seq #[en.key, en.val] } := by
      have := (sb.2 _ (Nat.ne_of_gt hlt)).trans hT
      rw [hen'] at this
      exact this
    have new : ObjOk X.prog X.w (upd H s.heap.objs.size (.tup [.ref b, v])) h'' s.heap.objs.size (.tup [.ref b, v]) :=
      ⟨by show 2 ≤ sizeLine; decide, [en.key, en.val], .cons hkey (.cons hval .nil), ⟨_, hT2, rfl, _, rfl⟩⟩
    have I1 : Inv X pins σ (upd H s.heap.objs.size (.tup [.ref b, v])) { s with heap := h'' } :=
      I.turnedNew (t' := s.toks) (ch := [it]) (fun b ob hb e => (sb.2 b (by simpa using hb)).trans (hk b ob (by simpa using hb) e)) hf (Nat.le_refl _) new
    refine ⟨.ref s.heap.objs.size, _, I1, rfl, ⟨_, .ref b, v, rfl, I.hok.fresh (Nat.le_refl _), rfl, fun nk2 hd2 hn2 => ?_⟩, ⟨_, _, he'⟩, fun b hb => ?_⟩
    · obtain ⟨_, es2, ep2, _, _, hdt2, _, ent2⟩ := frzN I hd2
      obtain ⟨rfl, rfl⟩ := L2.dict_ep hdt hdt2
      obtain ⟨⟨k2, b2, v2⟩, hkv2⟩ : ∃ p, nk2[i]? = some p := ⟨nk2[i], List.getElem?_eq_getElem (by omega)⟩
      obtain ⟨en2, hen2, hkey2, hval2⟩ := ent2 i k2 b2 v2 hkv2
      rw [hen] at hen2
      cases hen2
      rw [hkey] at hkey2
      cases hkey2
      exact ⟨k2, b, v2, hkv2, rfl, hval.inj hval2⟩
    · have e : b = it := by simpa using hb
      rw [e, upd_ne (Nat.ne_of_lt hlt)]
      exact (hf it (by simp)).1
  done := by
    intro X hP hw hK hc i pins s σ H E I hf st hg
    subst hP hw hK
    obtain ⟨⟨nk, hd, hn⟩, hi⟩ := hg
    obtain ⟨f0, f1, f2, f3, f4, f5⟩ := hf it (by simp)
    obtain ⟨hs, es', ep', hgd, hx, hdt, hsz, ent⟩ := frzN I hd
    obtain ⟨rfl, rfl⟩ := L2.dict_ep hod hdt
    obtain ⟨ok, ov, he⟩ := st
    exact wpAny_pyNext_items_end_raw (I.ok.hd hc) he ⟨o, hgd, hx, hdt⟩ hi fun h' eb => ⟨rfl, I.turned (t' := s.toks) (fun b o hb e => eb b o hb e) f0 f1 f3 f4 f5⟩
  self := fun A i s Q E st h => let ⟨_, _, e⟩ := st; PySem.W.kcp_self e h
end
section
variable {s : Sta} {P : D → Sta → Prop} {PO' : Out → Prop} {PI' : List D → (Sta → Prop) → Sta → Prop} {tg iter a b e o i value : Expr} {pos pos' p apos cpos tpos : Pos} {elts : List Expr} {kk : Nat}
theorem lk_it {w : World} {d : Addr} {od : Obj} {H : Hp} {n : Nat} {nk : List (NestedKey × Addr × V)} (h : H d = some (.frz od (dN w d nk))) (e : nk.length = n) : LkD w d od n H := ⟨nk, h, e⟩
/-- the locked dict as it stands at a later point -/
theorem lk_at {j : Nat} {u : HO} {od : Obj} {kvs : List (D × D)} {p : Addr} {nk0 : List (NestedKey × Addr × V)} (hu : u = .frz od (dN c.w p nk0)) {s : Sta} {σ : L2.St} {τ : List D} {τv : List V} {H : Hp} (R : Rep c s σ (.ob j :: τ) (.ref p :: τv) H) (h : s.o[j]? = some (.dct (.l u) kvs)) :
    ∃ nk F os, H p = some (.frz od (dN c.w p nk)) ∧ nk.length = kvs.length ∧ NKV c.K F os nk kvs ∧ RpL c.K F os (.ref p :: τv) (.ob j :: τ) ∧ ∀ τ' τv', RpL c.K F os τv' τ' → Rep c s σ τ' τv' H := by
  obtain ⟨p', F, os, e1, eF, hob, r, mk⟩ := R.objR h
  cases e1
  obtain ⟨od', nk, hu', hN, _, hkv, _⟩ := lck_iff.mp hob
  have ho : od' = od := by
    rw [hu] at hu'
    injection hu' with h1 h2
    exact h1.symm
  subst ho
  exact ⟨nk, F, os, by rw [hN, hu'], hkv.len, hkv, r, mk⟩
theorem it_nK {j : Nat} {u : HO} {od : Obj} {kvs : List (D × D)} {p : Addr} {nk0 : List (NestedKey × Addr × V)} (hu : u = .frz od (dN c.w p nk0)) : ItOk c (ItnK c.w p od kvs.length) (fun s => s.o[j]? = some (.dct (.l u) kvs)) (.ob j) (.ref p) (kvs.map (·.1)) := by
  refine ⟨fun i s σ τ τv H hs R hi => ?_, fun s σ τ τv H hs R => ?_⟩
  · obtain ⟨nk, F, os, hN, hl, hkv, r, mk⟩ := lk_at hu R hs
    have hi' : i < kvs.length := by simpa using hi
    refine ⟨⟨lk_it hN hl, hi'⟩, fun x H' hy => ?_⟩
    obtain ⟨rfl, hx⟩ := hy
    obtain ⟨k, b, v, h1, rfl⟩ := hx nk hN hl
    obtain ⟨d, e, h2, h3, h4⟩ := hkv.at h1
    exact ⟨d, by rw [List.getElem?_map, h2]; rfl, mk _ _ (.cons h3 r)⟩
  · obtain ⟨nk, F, os, hN, hl, hkv, r, mk⟩ := lk_at hu R hs
    exact ⟨lk_it hN hl, by simp⟩
theorem it_nV {j : Nat} {u : HO} {od : Obj} {kvs : List (D × D)} {p : Addr} {nk0 : List (NestedKey × Addr × V)} (hu : u = .frz od (dN c.w p nk0)) : ItOk c (ItnV c.w p od kvs.length) (fun s => s.o[j]? = some (.dct (.l u) kvs)) (.ob j) (.ref p) (kvs.map (·.2)) := by
  refine ⟨fun i s σ τ τv H hs R hi => ?_, fun s σ τ τv H hs R => ?_⟩
  · obtain ⟨nk, F, os, hN, hl, hkv, r, mk⟩ := lk_at hu R hs
    have hi' : i < kvs.length := by simpa using hi
    refine ⟨⟨lk_it hN hl, hi'⟩, fun x H' hy => ?_⟩
    obtain ⟨rfl, hx⟩ := hy
    obtain ⟨k, b, v, h1, rfl⟩ := hx nk hN hl
    obtain ⟨d, e, h2, h3, h4⟩ := hkv.at h1
    exact ⟨e, by rw [List.getElem?_map, h2]; rfl, mk _ _ (.cons h4 r)⟩
  · obtain ⟨nk, F, os, hN, hl, hkv, r, mk⟩ := lk_at hu R hs
    exact ⟨lk_it hN hl, by simp⟩
theorem it_nI {j : Nat} {u : HO} {od : Obj} {kvs : List (D × D)} {p : Addr} {nk0 : List (NestedKey × Addr × V)} (hu : u = .frz od (dN c.w p nk0)) : ItOk c (ItnI c.w p od kvs.length) (fun s => s.o[j]? = some (.dct (.l u) kvs)) (.ob j) (.ref p) (kvs.map fun q => .tup [q.1, q.2]) := by
  refine ⟨fun i s σ τ τv H hs R hi => ?_, fun s σ τ τv H hs R => ?_⟩
  · obtain ⟨nk, F, os, hN, hl, hkv, r, mk⟩ := lk_at hu R hs
    have hi' : i < kvs.length := by simpa using hi
    refine ⟨⟨lk_it hN hl, hi'⟩, fun x H' hy => ?_⟩
    obtain ⟨T, x1, x2, rfl, hT, rfl, hx⟩ := hy
    obtain ⟨k, b, v, h1, rfl, rfl⟩ := hx nk hN hl
    obtain ⟨d, e, h2, h3, h4⟩ := hkv.at h1
    have R1 : Rep c s σ (d :: e :: .ob j :: τ) (.ref b :: x2 :: .ref p :: τv) H := mk _ _ (.cons h3 (.cons h4 r))
    have R2 := R1.lay (d := .tup [d, e]) (o := .tup [.ref b, x2]) hT fun F os r e => .tup (.inl (.inl e)) (by
      cases r with
      | cons q1 r =>
        cases r with
        | cons q2 _ => exact .cons q1 (.cons q2 .nil))
    refine ⟨.tup [d, e], by rw [List.getElem?_map, h2]; rfl, R2.temps fun F os r => by
      cases r with
      | cons q r => exact .cons q r.tail.tail⟩
  · obtain ⟨nk, F, os, hN, hl, hkv, r, mk⟩ := lk_at hu R hs
    exact ⟨lk_it hN hl, by simp⟩
def LkP (PI' : List D → (Sta → Prop) → Sta → Prop) (f : D × D → D) (d : D) (s1 : Sta) : Prop := ∃ j u kvs, d = .ob j ∧ s1.o[j]? = some (.dct (.l u) kvs) ∧ PI' (kvs.map f) (fun s => s.o[j]? = some (.dct (.l u) kvs)) s1
/-- for k in d -/
theorem ai_dkeys (h : AE c iter s (LkP PI' (·.1))) : AI c tg iter s PI' := by
  refine ⟨?_⟩
  intro X hX σ τ τv H R Q hq pins t I
  refine L2.thn (h X hX σ τ τv H R (fun v H1 => ∃ d s1, Rep c s1 σ (d :: τ) (v :: τv) H1 ∧ LkP PI' (·.1) d s1) (fun d s1 v H1 h1 R1 => ⟨d, s1, R1, h1⟩) pins t I) fun u1 t1 ⟨v1, H1, I1, r1, d, s1, R1, j, u, kvs, e1, ho, hP⟩ => ?_
  subst e1
  obtain ⟨p, F9, os, rfl, eF, hob, r, mk⟩ := R1.objR ho
  obtain ⟨od, nk, hu, hN, _, hkv, _⟩ := lck_iff.mp hob
  cases r1
  have hN' : H1 p = some (.frz od (dN X.w p nk)) := by rw [hN, hu, hX.w]
  obtain ⟨hs, es, ep, hgd, hx, hdt, hsz, ent⟩ := frzN I1 hN'
  have q := hq _ _ _ _ _ _ _ hP R1 (it_nK (kvs := kvs) hu)
  rw [← hX.w, ← hkv.len, ← hsz] at q
  exact iter_keys hs hgd hx hdt (L2.pi_one (tk := t1.toks) I1 _ (turn_nK _ hdt) ⟨_, Heap.get?_push_size _ rfl, rfl, rfl⟩ q)
/-- for v in d.values() -/
theorem ai_dvals (h : AE c a s (LkP PI' (·.2))) (hbase : ∀ env, attributeBase a "values" env (eval a env) = eval a env := by intro _; rfl) (hline : (apos.endLine == cpos.line) = true := by rfl) : AI c tg (.Call (.Attribute a "values" apos) [] [] cpos) s PI' := by
  refine ⟨?_⟩
  intro X hX σ τ τv H R Q hq pins t I
  refine wpAny_Call_method (T := "dict") (id := "dict.values") (hbase _) rfl hline F.plainAttrs_dict F.slot_dict_values F.type_dict_values (L2.thn (h X hX σ τ τv H R (fun v H1 => ∃ d s1, Rep c s1 σ (d :: τ) (v :: τv) H1 ∧ LkP PI' (·.2) d s1) (fun d s1 v H1 h1 R1 => ⟨d, s1, R1, h1⟩) pins t I) fun u1 t1 ⟨v1, H1, I1, r1, d, s1, R1, j, u, kvs, e1, ho, hP⟩ => ?_)
  subst e1
  obtain ⟨p, F9, os, rfl, eF, hob, r, mk⟩ := R1.objR ho
  obtain ⟨od, nk, hu, hN, _, hkv, _⟩ := lck_iff.mp hob
  cases r1
  have hN' : H1 p = some (.frz od (dN X.w p nk)) := by rw [hN, hu, hX.w]
  obtain ⟨hs, es, ep, hgd, hx, hdt, hsz, ent⟩ := frzN I1 hN'
  have q := hq _ _ _ _ _ _ _ hP R1 (it_nV (kvs := kvs) hu)
  rw [← hX.w, ← hkv.len, ← hsz] at q
  have raw : t1.heap.DictRaw p es ep := ⟨od, hgd, hx, hdt⟩
  refine ⟨raw.typeIs, (fun a e => by cases e; exact ⟨od, hgd, hx.2.1⟩), ?_⟩
  have I2 : Inv X pins σ H1 { t1 with heap := t1.heap.push { cls := .type "dict_values", data := .fields #[.ref p] } } := I1.kept (t' := t1.toks) fun b ob q => Heap.get?_push_of_some _ q
  have fin : wpAny (model X.prog X.w) X.A (pyIter (.ref t1.heap.objs.size)) (PIE X pins σ tg Q) X.xe { t1 with heap := t1.heap.push { cls := .type "dict_values", data := .fields #[.ref p] } } := by
    exact wpAny_pyIter_values_raw (d := p) ⟨_, Heap.get?_push_size _ rfl, rfl, rfl⟩ (raw.at fun o q => Heap.get?_push_of_some _ q) (L2.pi_one (tk := t1.toks) I2 _ (turn_nV _ hdt) ⟨_, Heap.get?_push_size _ rfl, rfl, rfl⟩ q)
  show wpAny _ _ (callWith cpos (.builtin "dict.values") [.ref p] [] []) _ X.xe t1
  exact method_meetsIn F.slot_dict_values F.entry_dict_values rfl (PySem.evalArgs_none ⟨rfl, raw.typeIs, F.args_dict_values_1 _, _, meets_dict_values_raw p hs, ⟨es, ep, raw⟩, fin⟩)
/-- for k, v in d.items() -/
theorem ai_ditems (h : AE c a s (LkP PI' fun q => .tup [q.1, q.2])) (hbase : ∀ env, attributeBase a "items" env (eval a env) = eval a env := by intro _; rfl) (hline : (apos.endLine == cpos.line) = true := by rfl) : AI c (.Tuple elts kk tpos) (.Call (.Attribute a "items" apos) [] [] cpos) s PI' := by
  refine ⟨?_⟩
  intro X hX σ τ τv H R Q hq pins t I
  refine wpAny_Call_method (T := "dict") (id := "dict.items") (hbase _) rfl hline F.plainAttrs_dict F.slot_dict_items F.type_dict_items (L2.thn (h X hX σ τ τv H R (fun v H1 => ∃ d s1, Rep c s1 σ (d :: τ) (v :: τv) H1 ∧ LkP PI' (fun q => .tup [q.1, q.2]) d s1) (fun d s1 v H1 h1 R1 => ⟨d, s1, R1, h1⟩) pins t I) fun u1 t1 ⟨v1, H1, I1, r1, d, s1, R1, j, u, kvs, e1, ho, hP⟩ => ?_)
  subst e1
  obtain ⟨p, F9, os, rfl, eF, hob, r, mk⟩ := R1.objR ho
  obtain ⟨od, nk, hu, hN, _, hkv, _⟩ := lck_iff.mp hob
  cases r1
  have hN' : H1 p = some (.frz od (dN X.w p nk)) := by rw [hN, hu, hX.w]
  obtain ⟨hs, es, ep, hgd, hx, hdt, hsz, ent⟩ := frzN I1 hN'
  have q := hq _ _ _ _ _ _ _ hP R1 (it_nI (kvs := kvs) hu)
  rw [← hX.w, ← hkv.len, ← hsz] at q
  have raw : t1.heap.DictRaw p es ep := ⟨od, hgd, hx, hdt⟩
  refine ⟨raw.typeIs, (fun a e => by cases e; exact ⟨od, hgd, hx.2.1⟩), ?_⟩
  have I2 : Inv X pins σ H1 { t1 with heap := t1.heap.push { cls := .type "dict_items", data := .fields #[.ref p] } } := I1.kept (t' := t1.toks) fun b ob q => Heap.get?_push_of_some _ q
  have fin : wpAny (model X.prog X.w) X.A (pyIter (.ref t1.heap.objs.size)) (PIE X pins σ (.Tuple elts kk tpos) Q) X.xe { t1 with heap := t1.heap.push { cls := .type "dict_items", data := .fields #[.ref p] } } := by
    exact wpAny_pyIter_items_raw (d := p) ⟨_, Heap.get?_push_size _ rfl, rfl, rfl⟩ (raw.at fun o q => Heap.get?_push_of_some _ q) (L2.pi_one (tk := t1.toks) I2 _ (turn_nI _ hdt) ⟨.none, .none, Heap.get?_push_size _ rfl⟩ q)
  show wpAny _ _ (callWith cpos (.builtin "dict.items") [.ref p] [] []) _ X.xe t1
  exact method_meetsIn F.slot_dict_items F.entry_dict_items rfl (PySem.evalArgs_none ⟨rfl, raw.typeIs, F.args_dict_items_1 _, _, meets_dict_items_raw p hs, ⟨es, ep, raw⟩, fin⟩)
/-! #### locking -/
theorem lk_in {X : Cx} (hX : XC c X) {j : Nat} {kvs : List (D × D)} {σ : L2.St} {τ : List D} {τv : List V} {H : Hp} {pins : List (Addr × Obj)} {t : Shared} (R : Rep c s σ τ τv H) (I : Inv X pins σ H t) (ho : s.o[j]? = some (.dct .t kvs)) :
    ∃ p u od, H p = some u ∧ Mut (some u) ∧ Inv X pins σ (upd H p (.frz od u)) t ∧ Rep c ⟨s.r, s.o.set j (.dct (.l (.frz od u)) kvs)⟩ σ (.ob j :: τ) (.ref p :: τv) (upd H p (.frz od u)) ∧
      ∀ s' σ' τ' τv' H', s'.o[j]? = some (.dct (.l (.frz od u)) kvs) → Rep c s' σ' (.ob j :: τ') (.ref p :: τv') H' → H' p = some (.frz od u) ∧ Rep c ⟨s'.r, s'.o.set j (.dct .t kvs)⟩ σ' τ' τv' (upd H' p u) := by
  obtain ⟨p0, R0⟩ := R.objT ho
  obtain ⟨p, F, os, e1, eF, hob, r, mu⟩ := R0.objM ho (by simp)
  cases e1
  obtain ⟨nk, hN, hz, hkv, h8⟩ := dct_iff.mp hob
  obtain ⟨od, I1⟩ := I.lock hN True.intro
  refine ⟨p0, dN c.w p0 nk, od, hN, True.intro, I1, mu _ _ (lck_iff.mpr ⟨od, nk, rfl, upd_same, hz, hkv, h8⟩), fun s' σ' τ' τv' H' hs' R' => ?_⟩
  obtain ⟨p1, F1, os1, e1, eF1, hob1, r1, mu1⟩ := R'.objM hs' (by simp)
  cases e1
  obtain ⟨od1, nk1, hu1, hN1, hz1, hkv1, h81⟩ := lck_iff.mp hob1
  injection hu1 with _ hu2
  refine ⟨hN1, (mu1 (dN c.w p0 nk) (.dct .t kvs) (dct_iff.mpr ⟨nk1, by rw [hu2]; exact upd_same, hz1, hkv1, h81⟩)).pop⟩
theorem ae_lock (j : Nat) {kvs : List (D × D)} (ho : s.o[j]? = some (.dct .t kvs)) (h : ∀ u, AE c e ⟨s.r, s.o.set j (.dct (.l u) kvs)⟩ fun d s' => s'.o[j]? = some (.dct (.l u) kvs) ∧ P d ⟨s'.r, s'.o.set j (.dct .t kvs)⟩) : AE c e s P := by
  refine ⟨?_⟩
  intro X hX σ τ τv H R Q hq pins t I
  obtain ⟨p, u, od, hN, mu, I1, R1, back⟩ := lk_in hX R I ho
  refine L2.thn (h (.frz od u) X hX σ _ _ _ R1 (fun v H1 => H1 p = some (.frz od u) ∧ Q v (upd H1 p u)) (fun d s' v H1 h1 R2 => ?_) pins t I1) fun v t1 ⟨x, H1, I2, r, e2, q⟩ => ⟨x, _, I2.unlock e2 (I.nofrz hN mu), r, q⟩
  obtain ⟨h2, h3⟩ := h1
  obtain ⟨e1, R3⟩ := back _ _ _ _ _ h2 R2.sw
  exact ⟨e1, hq _ _ _ _ h3 R3⟩
def lkO (j : Nat) (u : HO) (kvs : List (D × D)) (P : Out → Prop) : Out → Prop
  | .nx s => s.o[j]? = some (.dct (.l u) kvs) ∧ P (.nx ⟨s.r, s.o.set j (.dct .t kvs)⟩)
  | .rt d s => s.o[j]? = some (.dct (.l u) kvs) ∧ P (.rt d ⟨s.r, s.o.set j (.dct .t kvs)⟩)
  | .bk s => s.o[j]? = some (.dct (.l u) kvs) ∧ P (.bk ⟨s.r, s.o.set j (.dct .t kvs)⟩)
  | .ct s => s.o[j]? = some (.dct (.l u) kvs) ∧ P (.ct ⟨s.r, s.o.set j (.dct .t kvs)⟩)
theorem as_lock {st : Stmt} (j : Nat) {kvs : List (D × D)} (ho : s.o[j]? = some (.dct .t kvs)) (h : ∀ u, AS c st ⟨s.r, s.o.set j (.dct (.l u) kvs)⟩ (lkO j u kvs PO')) : AS c st s PO' := by
  refine ⟨?_⟩
  intro X hX σ τ τv H R E hq pins t I
  obtain ⟨p, u, od, hN, mu, I1, R1, back⟩ := lk_in hX R I ho
  have := h (.frz od u) X hX σ _ _ _ R1 ⟨fun σ' H' => H' p = some (.frz od u) ∧ E.nx σ' (upd H' p u), fun v H' => H' p = some (.frz od u) ∧ E.rt v (upd H' p u), fun σ' H' => H' p = some (.frz od u) ∧ E.bk σ' (upd H' p u), fun σ' H' => H' p = some (.frz od u) ∧ E.ct σ' (upd H' p u)⟩
    ⟨fun s' σ' H' h1 R2 => ⟨(back _ _ _ _ _ h1.1 R2).1, hq.nx _ _ _ h1.2 (back _ _ _ _ _ h1.1 R2).2⟩, fun d s' σ' v H' h1 R2 => ⟨(back _ _ _ _ _ h1.1 R2.sw).1, hq.rt _ _ _ _ _ h1.2 (back _ _ _ _ _ h1.1 R2.sw).2⟩, fun s' σ' H' h1 R2 => ⟨(back _ _ _ _ _ h1.1 R2).1, hq.bk _ _ _ h1.2 (back _ _ _ _ _ h1.1 R2).2⟩, fun s' σ' H' h1 R2 => ⟨(back _ _ _ _ _ h1.1 R2).1, hq.ct _ _ _ h1.2 (back _ _ _ _ _ h1.1 R2).2⟩⟩ pins t I1
  refine L2.thn this fun f s1 q => ?_
  cases f with
  | next => obtain ⟨σ', H', I2, e, q⟩ := q; exact ⟨σ', _, I2.unlock e (I.nofrz hN mu), q⟩
  | brk => obtain ⟨σ', H', I2, e, q⟩ := q; exact ⟨σ', _, I2.unlock e (I.nofrz hN mu), q⟩
  | cont => obtain ⟨σ', H', I2, e, q⟩ := q; exact ⟨σ', _, I2.unlock e (I.nofrz hN mu), q⟩
  | ret v => obtain ⟨x, σ', H', I2, r, e, q⟩ := q; exact ⟨x, σ', _, I2.unlock e (I.nofrz hN mu), r, q⟩
end
section
variable {s : Sta} {P : D → Sta → Prop} {PO' : Out → Prop} {a b e : Expr} {pos p apos cpos : Pos}
theorem Rep.rot2 {s : Sta} {σ : L2.St} {τ : List D} {τv : List V} {H : Hp} {d1 d2 d3 : D} {v1 v2 v3 : V} (R : Rep c s σ (d1 :: d2 :: d3 :: τ) (v1 :: v2 :: v3 :: τv) H) : Rep c s σ (d3 :: d2 :: d1 :: τ) (v3 :: v2 :: v1 :: τv) H := R.temps fun F os r => by
  cases r with
  | cons a r =>
    cases r with
    | cons b r =>
      cases r with
      | cons c r => exact .cons c (.cons b (.cons a r))
theorem relO_getD {o : Option V} {o' : Option Value} {x : V} {u : Value} (h : RelO o o') (r : RelV x u) : RelV (o.getD x) (o'.getD u) := L2.RelO.getD h r
/-- the dict at j as an object of the model -/
theorem dct_at {X : Cx} (hX : XC c X) {pins : List (Addr × Obj)} {t : Shared} {σ : L2.St} {τ : List D} {τv : List V} {H : Hp} {j : Nat} {kvs : List (D × D)} {v : V} (I : Inv X pins σ H t) (R : Rep c s σ (.ob j :: τ) (v :: τv) H) (ho : s.o[j]? = some (.dct .t kvs)) :
    ∃ p F os nk xs, v = .ref p ∧ Same F H ∧ NKV X.K F os nk kvs ∧ (p == sysModules) = false ∧ KN nk xs ∧ t.heap.DictOfH (nestedKind X.prog X.w) p xs ∧ RpL X.K F os τv τ ∧ ∀ τ' τv', RpL X.K F os τv' τ' → Rep c s σ τ' τv' H := by
  obtain ⟨p, F, os, rfl, eF, hob, r, mk⟩ := R.objR ho
  obtain ⟨nk, hN, hz, hkv, hd8⟩ := dct_iff.mp hob
  rw [← hX.w] at hN
  rw [← hX.K] at hkv
  obtain ⟨hsm, xs, rel, dd⟩ := dn_of I hN eF hkv hd8
  exact ⟨p, F, os, nk, xs, rfl, eF, hkv, hsm, rel, dd, by rw [hX.K]; exact r.tail, by rw [hX.K]; exact mk⟩
theorem kn_get {K : PySem.W.Frag} {F : Hp} {os : List Addr} {nk : List (NestedKey × Addr × V)} {kvs : List (D × D)} {xs : List (NestedKey × Addr × Value)} (h : NKV K F os nk kvs) (rel : KN nk xs) {d : D} {k : NestedKey} (hd : nkD d = some k) :
    (getK kvs d = none ∧ (atKey xs k).map (·.2) = none) ∨ ∃ e v u, getK kvs d = some e ∧ (atKey xs k).map (·.2) = some u ∧ RelV v u ∧ Rp K F os v e := by
  have r := rel.val k
  rcases h.get hd with ⟨h1, h2⟩ | ⟨e, v, h1, h2, h3⟩
  · rw [h2] at r
    refine .inl ⟨h1, ?_⟩
    cases q : (atKey xs k).map (·.2) with
    | none => rfl
    | some u =>
      rw [q] at r
      cases r
  · rw [h2] at r
    cases q : (atKey xs k).map (·.2) with
    | none =>
      rw [q] at r
      cases r
    | some u =>
      rw [q] at r
      exact .inr ⟨e, v, u, h1, rfl, r, h3⟩
def DgP (x : Expr) (e : Expr) (c : SC) (P : D → Sta → Prop) (d : D) (s1 : Sta) : Prop := ∃ j, d = .ob j ∧ (∃ kvs, s1.o[j]? = some (.dct .t kvs)) ∧ AE c x s1 fun k s2 => AE c e s2 fun y s3 => ∃ kvs, s3.o[j]? = some (.dct .t kvs) ∧ KeyD k ∧ P ((getK kvs k).getD y) s3
/-- d.get(k, y) -/
theorem ae_dgetd (h : AE c a s (DgP b e c P)) (hbase : ∀ env, attributeBase a "get" env (eval a env) = eval a env := by intro _; rfl) (hline : (apos.endLine == cpos.line) = true := by rfl)
    (hfew : ∀ env, ((backTo cpos (starEach [b, e] env)).all (fun x => !x.1) && (backToKw cpos (keywordEach [] env)).all (fun x => x.1.isSome)
      && decide ([b, e].length + ([] : List Keyword).length + (if ([] : List Keyword).isEmpty then 0 else 1) < 30)) = true := by intro _; rfl)
    (ht : ∀ env, backTo cpos (starEach [b, e] env) = [(false, eval b env), (false, eval e env)] := by intro _; rfl) : AE c (.Call (.Attribute a "get" apos) [b, e] [] cpos) s P := by
  refine ⟨?_⟩
  intro X hX σ τ τv H R Q hq pins t I
  refine wpAny_Call_method (hbase _) (hfew _) hline PySem.F.plainAttrs_dict PySem.F.slot_dict_get PySem.F.type_dict_get (L2.thn (h X hX σ τ τv H R (fun v H1 => ∃ d s1, Rep c s1 σ (d :: τ) (v :: τv) H1 ∧ DgP b e c P d s1) (fun d s1 v H1 h1 R1 => ⟨d, s1, R1, h1⟩) pins t I) fun u1 t1 ⟨v1, H1, I1, r1, d, s1, R1, j, e1, ⟨kvs0, ho0⟩, h1⟩ => ?_)
  subst e1
  obtain ⟨p, F0, os0, nk0, xs0, rfl, _, _, _, _, dd0, _, _⟩ := dct_at hX I1 R1 ho0
  cases r1
  refine ⟨dd0.typeIs, fun b q => ?_, ?_⟩
  · cases q
    obtain ⟨ob, _, _, q1, q2, _⟩ := dd0
    exact ⟨ob, q1, q2.2.1⟩
  rw [ht]
  refine Calls.callWith_builtin rfl (Calls.evalArgs_plain (Calls.spliced_cons (L2.thn (h1 X hX σ _ _ H1 R1 (fun v2 H2 => ∃ k s2, Rep c s2 σ (k :: .ob j :: τ) (v2 :: .ref p :: τv) H2 ∧ AE c e s2 fun y s3 => ∃ kvs, s3.o[j]? = some (.dct .t kvs) ∧ KeyD k ∧ P ((getK kvs k).getD y) s3) (fun d2 s2 v2 H2 h2 R2 => ⟨d2, s2, R2, h2⟩) pins t1 I1) fun u2 t2 ⟨v2, H2, I2, r2, kd, s2, R2, h2⟩ =>
    Calls.spliced_cons (L2.thn (h2 X hX σ _ _ H2 R2 (fun v3 H3 => ∃ y s3, Rep c s3 σ (y :: kd :: .ob j :: τ) (v3 :: v2 :: .ref p :: τv) H3 ∧ ∃ kvs, s3.o[j]? = some (.dct .t kvs) ∧ KeyD kd ∧ P ((getK kvs kd).getD y) s3) (fun d3 s3 v3 H3 h3 R3 => ⟨d3, s3, R3, h3⟩) pins t2 I2) fun u3 t3 ⟨v3, H3, I3, r3, y, s3, R3, kvs, ho, ⟨k, hk, h8⟩, hP⟩ => Calls.spliced_nil ?_))))
  obtain ⟨p', F, os, nk, xs, e1, eF, hkv, hsm, rel, dd, r, mk⟩ := dct_at hX I3 R3.rot2 ho
  cases e1
  obtain ⟨bb, rfl⟩ := R3.pop.key hk
  cases r2
  cases r with
  | cons rk r =>
    cases r with
    | cons ry r =>
      have key : (nestedKind X.prog X.w).is t3.heap (.tup k) bb := ⟨Rp.nk (v := .ref bb) I3 eF rk hk rfl, h8⟩
      refine call_meetsIn PySem.F.slot_dict_get dd.typeIs PySem.F.entry_dict_get (PySem.F.args_dict_get_3 _ _ _) (meetsH_dict_get_default (nestedKind X.prog X.w) p bb hsm u3) ⟨room_nk1 hX.room, .tup k, xs, key, dd, ?_⟩
      rcases kn_get hkv rel hk with ⟨g1, g2⟩ | ⟨ee, vv, uu, g1, g2, g3, g4⟩
      · rw [g2]
        rw [g1] at hP
        exact ⟨v3, H3, I3.tok _, r3, hq _ _ _ _ hP (mk _ _ (.cons ry r))⟩
      · rw [g2]
        rw [g1] at hP
        exact ⟨vv, H3, I3.tok _, g3, hq _ _ _ _ hP (mk _ _ (.cons g4 r))⟩
/-- d[k], k there -/
theorem ae_dget (h : AE c a s fun d s1 => AE c b s1 fun k s2 => ∃ j kvs y, d = .ob j ∧ s2.o[j]? = some (.dct .t kvs) ∧ KeyD k ∧ getK kvs k = some y ∧ P y s2) (hs : NoSl b) : AE c (.Subscript a b pos) s P := by
  refine ⟨?_⟩
  intro X hX σ τ τv H R Q hq pins t I
  refine subD_of PySem.F.slot_dict_getitem.lookup hs (L2.thn (h X hX σ τ τv H R (fun v1 H1 => ∃ d s1, Rep c s1 σ (d :: τ) (v1 :: τv) H1 ∧ AE c b s1 fun k s2 => ∃ j kvs y, d = .ob j ∧ s2.o[j]? = some (.dct .t kvs) ∧ KeyD k ∧ getK kvs k = some y ∧ P y s2) (fun d s1 v H1 h1 R1 => ⟨d, s1, R1, h1⟩) pins t I) fun u1 t1 ⟨v1, H1, I1, r1, d, s1, R1, h1⟩ =>
    L2.thn (h1 X hX σ _ _ H1 R1 (fun v2 H2 => ∃ k s2, Rep c s2 σ (k :: d :: τ) (v2 :: v1 :: τv) H2 ∧ ∃ j kvs y, d = .ob j ∧ s2.o[j]? = some (.dct .t kvs) ∧ KeyD k ∧ getK kvs k = some y ∧ P y s2) (fun d2 s2 v2 H2 h2 R2 => ⟨d2, s2, R2, h2⟩) pins t1 I1) fun u2 t2 ⟨v2, H2, I2, r2, kd, s2, R2, j, kvs, y, e1, ho, ⟨k, hk, h8⟩, hy, hP⟩ => ?_)
  subst e1
  obtain ⟨p, F, os, nk, xs, rfl, eF, hkv, hsm, rel, dd, r, mk⟩ := dct_at hX I2 R2.sw ho
  cases r1
  obtain ⟨bb, rfl⟩ := R2.key hk
  cases r2
  cases r with
  | cons rk r =>
    have key : (nestedKind X.prog X.w).is t2.heap (.tup k) bb := ⟨Rp.nk (v := .ref bb) I2 eF rk hk rfl, h8⟩
    refine ⟨dd.typeIs, ?_⟩
    rcases kn_get hkv rel hk with ⟨g1, g2⟩ | ⟨ee, vv, uu, g1, g2, g3, g4⟩
    · rw [hy] at g1
      cases g1
    · rw [hy] at g1
      cases g1
      obtain ⟨q, hq2, hq3⟩ := Option.map_eq_some_iff.mp g2
      refine wpAny_getItem_heap (room_nk1 hX.room) key dd hq2 ?_
      rw [hq3]
      exact ⟨vv, H2, I2.tok _, g3, hq _ _ _ _ hP (mk _ _ (.cons g4 r))⟩
theorem bv_sum : bootBuiltins "sum" = some (.builtin "sum") := by decide +kernel
/-- sum(xs), a list of ints -/
theorem ae_sum (hm : c.mg "sum" = none) (h : AE c e s fun d s1 => ∃ l : List Int, RdL s1 d (l.map D.int) ∧ P (.int l.sum) s1) (hg : IsG c "sum" := by rfl)
    (he : ∀ env, starEach [e] env = (false, eval e env) :: starEach [] env := by intro _; rfl) : AE c (.Call (.Name "sum" p) [e] [] pos) s P := by
  refine ae_callB (rV := fun X => rSum c.K) (r := fun ds s P => ∃ d, ds = [d] ∧ ∃ l : List Int, RdL s d (l.map D.int) ∧ P (.int l.sum) s) (fun X hX => by rw [← hX.K]; exact cr_sum hX.calm) (fun X _ => ?_) hm bv_sum (aa_one (h.mono fun d s1 h => ⟨d, rfl, h⟩) he) hg (by decide) (by decide) he (fun _ => rfl)
  intro σ τ τv H s vs ds P Q l R h hq
  obtain ⟨d, rfl, m, hd, h⟩ := h
  obtain ⟨v, rfl⟩ := one_v l
  have R1 : Rep c s σ (d :: τ) (v :: τv) H := R
  obtain ⟨a, rfl, q⟩ := R1.intsL hd
  exact ⟨a, m, rfl, q, hq _ _ _ _ h (R1.pop.push fun _ _ => .int _)⟩
end
end G9

namespace G9
open PySem PySem.Spec PyProof.Rows L2
variable {c : SC}
section
variable {s : Sta} {P : D → Sta → Prop} {e : Expr} {es : List Expr} {pos p : Pos} {x : Str}
theorem renL_app (f : Nat → Nat) : ∀ a b : List D, D.renL f (a ++ b) = D.renL f a ++ D.renL f b
  | [], b => by
    rw [List.nil_append]
    unfold D.renL
    rfl
  | d :: a, b => by
    rw [List.cons_append]
    show D.ren f d :: D.renL f (a ++ b) = D.ren f d :: D.renL f a ++ D.renL f b
    rw [renL_app f a b]
    rfl
/-- a call whose last argument is the object j; a plain datum is brought back -/
theorem ae_ocall {kf : Nat} {R : Spec} (j : Nat) (C : CalA c.prog c.w c.K c.mg c.base kf x R) (hk : kf ≤ c.k)
    (h : AA c (e :: es) s fun ds s1 => ∃ (ds0 : List D) (ob : Ob), ds = ds0 ++ [.ob j] ∧ D.bndL 0 ds0 ∧ s1.o[j]? = some ob ∧ Ob.bnd 0 ob ∧ R (ds0 ++ [.ob 0]) [ob] fun d O' => ∃ ob', O' = [ob'] ∧ D.bnd 0 d ∧ Ob.bnd 0 ob' ∧ P d ⟨s1.r, s1.o.set j ob'⟩)
    (hg : IsG c x := by rfl) (hdb : (x == ("__debug__" : Str)) = false := by decide) (he : ∀ env, starEach (e :: es) env = (false, eval e env) :: starEach es env := by intro _; rfl)
    (hpl : ∀ env, (backTo pos (starEach es env)).any (·.1) = false := by intro _; rfl) : AE c (.Call (.Name x p) (e :: es) [] pos) s P := by
  refine ae_call1 j C hk (.mk fun X hX σ τ τv H R Q hq => h X hX σ τ τv H R Q fun ds s1 vs H1 ⟨ds0, ob, e1, hb, ho, hbo, hR⟩ hl R1 => hq ds s1 vs H1 ?_ hl R1) hg hdb he hpl
  refine ⟨ds0 ++ [.ob 0], ob, ?_, ?_, ho, hbo, C.mono _ _ _ _ (fun d O' ⟨ob', e, hb', hbo', q⟩ x' O2 e2 => ?_) hR⟩
  · rw [e1, renL_app, D.renL_closed hb]
    rfl
  · refine D.bndL_iff.mpr fun d hd => ?_
    rcases List.mem_append.mp hd with z | z
    · exact D.bnd_le (Nat.zero_le _) (D.bndL_iff.mp hb d z)
    · simp at z
      subst z
      unfold D.bnd
      decide
  · rw [e] at e2
    cases e2
    rw [Ob.ren_closed hbo', D.ren_closed hb']
    simpa using q
/-- .. an object is brought back -/
theorem ae_ocallO {kf : Nat} {R : Spec} (j : Nat) (C : CalA c.prog c.w c.K c.mg c.base kf x R) (hk : kf ≤ c.k)
    (h : AA c (e :: es) s fun ds s1 => ∃ (ds0 : List D) (ob : Ob), ds = ds0 ++ [.ob j] ∧ D.bndL 0 ds0 ∧ s1.o[j]? = some ob ∧ Ob.bnd 0 ob ∧ R (ds0 ++ [.ob 0]) [ob] fun d O' => ∃ ob' ob2, O' = [ob', ob2] ∧ d = .ob 1 ∧ Ob.bnd 0 ob' ∧ Ob.bnd 0 ob2 ∧ P (.ob s1.o.length) ⟨s1.r, s1.o.set j ob' ++ [ob2]⟩)
    (hg : IsG c x := by rfl) (hdb : (x == ("__debug__" : Str)) = false := by decide) (he : ∀ env, starEach (e :: es) env = (false, eval e env) :: starEach es env := by intro _; rfl)
    (hpl : ∀ env, (backTo pos (starEach es env)).any (·.1) = false := by intro _; rfl) : AE c (.Call (.Name x p) (e :: es) [] pos) s P := by
  refine ae_call1 j C hk (.mk fun X hX σ τ τv H R Q hq => h X hX σ τ τv H R Q fun ds s1 vs H1 ⟨ds0, ob, e1, hb, ho, hbo, hR⟩ hl R1 => hq ds s1 vs H1 ?_ hl R1) hg hdb he hpl
  refine ⟨ds0 ++ [.ob 0], ob, ?_, ?_, ho, hbo, C.mono _ _ _ _ (fun d O' ⟨ob', ob2, e, ed, hbo', hb2, q⟩ x' O2 e2 => ?_) hR⟩
  · rw [e1, renL_app, D.renL_closed hb]
    rfl
  · refine D.bndL_iff.mpr fun d hd => ?_
    rcases List.mem_append.mp hd with z | z
    · exact D.bnd_le (Nat.zero_le _) (D.bndL_iff.mp hb d z)
    · simp at z
      subst z
      unfold D.bnd
      decide
  · rw [e] at e2
    cases e2
    subst ed
    rw [Ob.ren_closed hbo']
    have e3 : List.map (Ob.ren (idF [j] s1.o.length)) [ob2] = [ob2] := by
      rw [List.map_cons, Ob.ren_closed hb2]
      rfl
    rw [e3]
    exact q
end
end G9

namespace G9
open PySem PySem.Spec PyProof.Rows L2
variable {c : SC}
theorem Rep.objMR {s : Sta} {σ : L2.St} {τ : List D} {τv : List V} {H : Hp} {j : Nat} {ob0 : Ob} {v : V} (R : Rep c s σ (.ob j :: τ) (v :: τv) H) (h : s.o[j]? = some ob0) (hd : ob0 ≠ .dead) : ∃ p F os, v = .ref p ∧ Same F H ∧ ObOk c.w c.K F os H p ob0 ∧ RpL c.K F os τv τ ∧ (∀ τ' τv', RpL c.K F os τv' τ' → Rep c s σ τ' τv' H) ∧ ∀ (ho : HO) (ob1 : Ob), ObOk c.w c.K F os (upd H p ho) p ob1 → Rep c ⟨s.r, s.o.set j ob1⟩ σ (.ob j :: τ) (.ref p :: τv) (upd H p ho) := by
  obtain ⟨F, os, a, b, e, r⟩ := R
  cases r with
  | cons q r =>
    cases q with
    | @ob _ p q =>
      have q12 := a.obj j _ _ q h
      refine ⟨p, F, os, rfl, a.ex, q12, r, fun τ' τv' r' => ⟨F, os, a, b, e, r'⟩, fun ho ob1 hv => ?_⟩
      have fp : F p = none := a.nf j _ _ q h hd
      have hm : p ∈ os := List.mem_of_getElem? q
      have hjl : j < os.length := by
        rcases Nat.lt_or_ge j os.length with z | z
        · exact z
        · rw [List.getElem?_eq_none z] at q
          cases q
      have nn : ∀ {i : Nat} {x : Addr}, os[i]? = some x → i ≠ j → x ≠ p := fun {i x} h1 h2 z => by
        subst z
        exact h2 (ix_inj a.nd h1 q)
      refine ⟨F, os, ⟨fun x u z => ?_, by simp [a.len], a.nd, fun x hx z => ?_, fun i x ob h1 h2 => ?_, fun i x ob h1 h2 h3 => ?_⟩, ⟨b.ff, b.old, fun x u hx hn => ?_, b.pre, b.fresh⟩, e, .cons (.ob q) r⟩
      · rw [upd_ne (ne_of_none z fp)]
        exact a.ex x u z
      · by_cases hxp : x = p
        · subst hxp
          rw [upd_same] at z
          cases z
        · rw [upd_ne hxp] at z
          exact a.al x hx z
      · by_cases hij : i = j
        · subst hij
          rw [List.getElem?_set_self (a.len ▸ hjl)] at h2
          cases h2
          rw [q] at h1
          cases h1
          exact hv
        · rw [List.getElem?_set_ne (Ne.symm hij)] at h2
          have z := a.obj i x ob h1 h2
          cases ob with
          | dead => trivial
          | lst es =>
            obtain ⟨us, z1, z2⟩ := z
            exact ⟨us, by rw [upd_ne (nn h1 hij)]; exact z1, z2⟩
          | dct tb es =>
            obtain ⟨us, z1, z2⟩ := z
            exact ⟨us, z1.at (upd_ne (nn h1 hij)), z2⟩
          | ext x es =>
            obtain ⟨ho, us, z1, z0, z2⟩ := z
            exact ⟨ho, us, by rw [upd_ne (nn h1 hij)]; exact z1, z0, z2⟩
      · by_cases hij : i = j
        · subst hij
          rw [q] at h1
          cases h1
          exact fp
        · rw [List.getElem?_set_ne (Ne.symm hij)] at h2
          exact a.nf i x ob h1 h2 h3
      · have hx' : x ≠ p := fun z => by
          subst z
          rcases b.fresh x hm with z | z
          · exact hn z
          · rw [hx] at z
            cases z
        rw [upd_ne hx']
        exact b.kept x u hx hn
section
variable {s : Sta} {P : D → Sta → Prop} {PO' : Out → Prop} {a b e : Expr} {pos p apos cpos : Pos}
def SdR (kvs : List (D × D)) (j : Nat) (k y : D) (s : Sta) (P : D → Sta → Prop) : Prop := (∀ z, getK kvs k = some z → P z s) ∧ (getK kvs k = none → P y ⟨s.r, s.o.set j (.dct .t (putD kvs k y))⟩)
def SdP (x : Expr) (e : Expr) (c : SC) (P : D → Sta → Prop) (d : D) (s1 : Sta) : Prop := ∃ j, d = .ob j ∧ (∃ kvs, s1.o[j]? = some (.dct .t kvs)) ∧ AE c x s1 fun k s2 => AE c e s2 fun y s3 => ∃ kvs, s3.o[j]? = some (.dct .t kvs) ∧ KeyD k ∧ kvs.length < sizeLine ∧ SdR kvs j k y s3 P
/-- d.setdefault(k, y) -/
theorem ae_dsetd (h : AE c a s (SdP b e c P)) (hbase : ∀ env, attributeBase a "setdefault" env (eval a env) = eval a env := by intro _; rfl) (hline : (apos.endLine == cpos.line) = true := by rfl)
    (hfew : ∀ env, ((backTo cpos (starEach [b, e] env)).all (fun x => !x.1) && (backToKw cpos (keywordEach [] env)).all (fun x => x.1.isSome)
      && decide ([b, e].length + ([] : List Keyword).length + (if ([] : List Keyword).isEmpty then 0 else 1) < 30)) = true := by intro _; rfl)
    (ht : ∀ env, backTo cpos (starEach [b, e] env) = [(false, eval b env), (false, eval e env)] := by intro _; rfl) : AE c (.Call (.Attribute a "setdefault" apos) [b, e] [] cpos) s P := by
  refine ⟨?_⟩
  intro X hX σ τ τv H R Q hq pins t I
  refine wpAny_Call_method (hbase _) (hfew _) hline PySem.F.plainAttrs_dict PySem.F.slot_dict_setdefault PySem.F.type_dict_setdefault (L2.thn (h X hX σ τ τv H R (fun v H1 => ∃ d s1, Rep c s1 σ (d :: τ) (v :: τv) H1 ∧ SdP b e c P d s1) (fun d s1 v H1 h1 R1 => ⟨d, s1, R1, h1⟩) pins t I) fun u1 t1 ⟨v1, H1, I1, r1, d, s1, R1, j, e1, ⟨kvs0, ho0⟩, h1⟩ => ?_)
  subst e1
  obtain ⟨p, F0, os0, nk0, xs0, rfl, _, _, _, _, dd0, _, _⟩ := dct_at hX I1 R1 ho0
  cases r1
  refine ⟨dd0.typeIs, fun b q => ?_, ?_⟩
  · cases q
    obtain ⟨ob, _, _, q1, q2, _⟩ := dd0
    exact ⟨ob, q1, q2.2.1⟩
  rw [ht]
  refine Calls.callWith_builtin rfl (Calls.evalArgs_plain (Calls.spliced_cons (L2.thn (h1 X hX σ _ _ H1 R1 (fun v2 H2 => ∃ k s2, Rep c s2 σ (k :: .ob j :: τ) (v2 :: .ref p :: τv) H2 ∧ AE c e s2 fun y s3 => ∃ kvs, s3.o[j]? = some (.dct .t kvs) ∧ KeyD k ∧ kvs.length < sizeLine ∧ SdR kvs j k y s3 P) (fun d2 s2 v2 H2 h2 R2 => ⟨d2, s2, R2, h2⟩) pins t1 I1) fun u2 t2 ⟨v2, H2, I2, r2, kd, s2, R2, h2⟩ =>
    Calls.spliced_cons (L2.thn (h2 X hX σ _ _ H2 R2 (fun v3 H3 => ∃ y s3, Rep c s3 σ (y :: kd :: .ob j :: τ) (v3 :: v2 :: .ref p :: τv) H3 ∧ ∃ kvs, s3.o[j]? = some (.dct .t kvs) ∧ KeyD kd ∧ kvs.length < sizeLine ∧ SdR kvs j kd y s3 P) (fun d3 s3 v3 H3 h3 R3 => ⟨d3, s3, R3, h3⟩) pins t2 I2) fun u3 t3 ⟨v3, H3, I3, r3, y, s3, R3, kvs, ho, ⟨k, hk, h8⟩, hz, hP⟩ => Calls.spliced_nil ?_))))
  obtain ⟨p', F, os, e1, eF, hob, r, mk, mu⟩ := R3.rot2.objMR ho (by simp)
  cases e1
  obtain ⟨nk, hN0, hz2, hkv0, hd8⟩ := dct_iff.mp hob
  have hN : H3 p = some (dN X.w p nk) := by rw [hX.w]; exact hN0
  have hkv : NKV X.K F os nk kvs := by rw [hX.K]; exact hkv0
  obtain ⟨hsm, xs, rel, dd⟩ := dn_of I3 hN eF hkv hd8
  obtain ⟨bb, rfl⟩ := R3.pop.key hk
  cases r2
  cases r with
  | cons rk r =>
    cases r with
    | cons ry r =>
      have key : (nestedKind X.prog X.w).is t3.heap (.tup k) bb := ⟨Rp.nk (v := .ref bb) I3 eF (by rw [hX.K]; exact rk) hk rfl, h8⟩
      refine call_setdefault_heap (hsz := by rw [← rel.len, hkv.len]; exact Nat.le_of_lt hz) (room_nk1 hX.room) key hsm dd (fun q hq2 => ?_) fun hn h' dd' hs' => ?_
      · rcases kn_get hkv rel hk with ⟨g1, g2⟩ | ⟨ee, vv, uu, g1, g2, g3, g4⟩
        · rw [hq2] at g2
          cases g2
        · rw [hq2] at g2
          cases g2
          exact ⟨vv, H3, I3.tok _, g3, hq _ _ _ _ (hP.1 _ g1) (mk _ _ (.cons (by rw [← hX.K]; exact g4) r))⟩
      · have g1 : getK kvs kd = none := by
          rcases kn_get hkv rel hk with ⟨g1, g2⟩ | ⟨ee, vv, uu, g1, g2, g3, g4⟩
          · exact g1
          · rw [hn] at g2
            cases g2
        obtain ⟨q, _, _, hq', _⟩ := id dd'
        refine ⟨v3, _, d_write (ob := dN X.w p (putN nk (.tup k) bb v3)) I3 (by rw [hN]; exact True.intro) hs' ⟨q, hq'⟩ (dn_ok hsm (rel.put _ _ r3) dd'), r3, ?_⟩
        have hput := hkv0.put hk rk ry
        have R5 := mu (dN X.w p (putN nk (.tup k) bb v3)) (.dct .t (putD kvs kd y)) (dct_iff.mpr ⟨_, by rw [hX.w]; exact upd_same, by
          rw [hput.len]
          unfold putD
          split
          · rw [List.length_map]
            exact Nat.le_of_lt hz
          · rw [List.length_append]
            exact hz, hput, fun q' hq'' => by
          unfold putN at hq''
          split at hq''
          · obtain ⟨z, hy, rfl⟩ := List.mem_map.mp hq''
            split
            · exact hd8 z hy
            · exact hd8 z hy
          · rcases List.mem_append.mp hq'' with z | z
            · exact hd8 q' z
            · simp at z
              subst z
              exact h8⟩)
        exact hq _ _ _ _ (hP.2 g1) (R5.rot2.temps fun F os r => by
          cases r with
          | cons a r => exact .cons a r.tail.tail)
end
end G9
namespace G9
open PySem PySem.Spec PyProof.Rows L2
/-- list(d) of a dict with tuple keys -/
theorem call_list_dN {X : Cx} (hc : X.calm = true) : CallR X (.type "list") (fun xs H Q => ∃ d nk, xs = [V.ref d] ∧ H d = some (dN X.w d nk) ∧ nk.length ≤ sizeLine ∧ ∀ p, H p = none → Q (.ref p) (upd H p (.lst (nk.map fun q => V.ref q.2.1)))) := by
  intro pins s σ H xs us Q I r h
  obtain ⟨d, nk, rfl, hd, hz, q⟩ := h
  obtain ⟨u, rfl, rx⟩ := r.one
  cases rx
  obtain ⟨⟨hs, ks, rel, o, es, ep, ho, hx, hdt, he, hn⟩, _, _⟩ := (show ObjOk X.prog X.w H s.heap d (dN X.w d nk) from I.hok d _ hd)
  have l1 : es.size = ks.length := by
    have := congrArg List.length he
    simpa using this
  have l2 : nk.length = ks.length := rel.len
  refine PySem.W.kdl_call (kdl_raw hs hx hdt) (I.ok.hd hc) ho (by omega) fun h' tk acc' c' kp e it => ?_
  have rv : Vals (nk.map fun q => V.ref q.2.1) acc'.toList := by
    have l3 := it.1
    have l4 : acc'.toList.length = acc'.size := Array.length_toList
    refine vals_of_at (by rw [List.length_map]; omega) fun j x v h1 h2 => ?_
    obtain ⟨en, hen, hv⟩ := it.2 j v (by rw [← Array.getElem?_toList]; exact h2)
    rw [List.getElem?_map] at h1
    obtain ⟨q0, hq0, hx0⟩ := Option.map_eq_some_iff.mp h1
    obtain ⟨y, hy, e1, e2, e3⟩ := L2.paired_get rel hq0
    have qe : es.toList[j]? = some ⟨NestedKey.hash X.w y.1, .ref y.2.1, y.2.2⟩ := by
      rw [he, List.getElem?_map, hy]
      rfl
    rw [Array.getElem?_toList, hen] at qe
    cases qe
    rw [hv, ← hx0, e2]
    rfl
  refine ⟨.ref s.heap.objs.size, _, I.laid (t' := tk) (o := .lst (nk.map fun q => V.ref q.2.1)) kp (Nat.le_refl _) ?_, rfl, q _ (I.hok.fresh (Nat.le_refl _))⟩
  exact ⟨by rw [List.length_map]; exact hz, acc'.toList, c', rv, by rw [Array.toArray_toList]; exact e⟩
variable {c : SC} {s : Sta} {P : D → Sta → Prop} {e : Expr} {pos p : Pos}
theorem ae_listD (own : Bool) (hm : c.mg "list" = none) (h : AE c e s fun d s1 => ∃ j kvs, d = .ob j ∧ s1.o[j]? = some (.dct .t kvs) ∧ NewL own s1 (kvs.map (·.1)) P) (hg : IsG c "list" := by rfl)
    (he : ∀ env, starEach [e] env = (false, eval e env) :: starEach [] env := by intro _; rfl) : AE c (.Call (.Name "list" p) [e] [] pos) s P := by
  refine ae_callT (rV := fun X xs H Q => ∃ d nk, xs = [V.ref d] ∧ H d = some (dN X.w d nk) ∧ nk.length ≤ sizeLine ∧ ∀ p, H p = none → Q (.ref p) (upd H p (.lst (nk.map fun q => V.ref q.2.1)))) (r := fun ds s P => ∃ d, ds = [d] ∧ ∃ j kvs, d = .ob j ∧ s.o[j]? = some (.dct .t kvs) ∧ NewL own s (kvs.map (·.1)) P)
    (fun X hX => call_list_dN hX.calm) (fun X hX => ?_) hm (by decide +kernel) (aa_one (h.mono fun d s1 h => ⟨d, rfl, h⟩) he) hg (by decide) (by decide) he (fun _ => rfl)
  intro σ τ τv H s vs ds P Q l R h hq
  obtain ⟨d, rfl, j, kvs, rfl, ho, h⟩ := h
  obtain ⟨v, rfl⟩ := one_v l
  have R1 : Rep c s σ (.ob j :: τ) (v :: τv) H := R
  obtain ⟨a, F, os, rfl, eF, hob, r, mk⟩ := R1.objR ho
  obtain ⟨nk, hN, hz, hkv, _⟩ := dct_iff.mp hob
  refine ⟨a, nk, rfl, by rw [hX.w]; exact hN, hz, fun p hp => ?_⟩
  have R2 : Rep c s σ (kvs.map (·.1) ++ τ) ((nk.map fun q => V.ref q.2.1) ++ τv) H := mk _ _ (hkv.rk.append r.tail)
  have ln : (nk.map fun q => V.ref q.2.1).length = (kvs.map (·.1)).length := by rw [List.length_map, List.length_map, hkv.len]
  exact R2.newL hp (fun F os r => (RpL.split ln r).1) (fun F os r => (RpL.split ln r).2) h hq
end G9
namespace G9
open PySem PySem.Spec PyProof.Rows L2
/-- sorted(xs), xs a list of pairs of ints, the pairs kept or constant -/
theorem cr_sortedPS {X : Cx} : CallR X (.builtin "sorted") (fun vs H Q => ∃ (a : Addr) (xs : List V) (k : V → Int × Int), vs = [V.ref a] ∧ SqL X.K H a xs ∧ (∀ x ∈ xs, ∃ t, x = V.ref t ∧ SqT X.K H t [.int (k x).1, .int (k x).2]) ∧
  ∀ ys p, SrtO.Srtd (ltP k) ys → SrtO.Stb (ltP k) ys xs → H p = none → Q (.ref p) (upd H p (.lst ys))) := by
  intro pins s σ H vs us Q I r h
  obtain ⟨a, xs, k, rfl, hs, hx, q⟩ := h
  obtain ⟨its, rv, hl, hz⟩ := I.list hs
  obtain ⟨u, rfl, ru⟩ := vals1 r
  obtain rfl : u = Value.ref a := ru
  obtain ⟨e1, e2⟩ := refs_back rv fun x m => by
    obtain ⟨t, e, _⟩ := hx x m
    exact ⟨t, e⟩
  refine SrtO.sorted_pairsO (k := fun u => k (backV u)) hl.isList (by rw [← rv.length]; exact hz) (fun v hv => ?_) fun h' d out h1 h2 kp hd hn => ?_
  · obtain ⟨t, rfl⟩ := e2 v hv
    have hm : V.ref t ∈ xs := by rw [e1]; exact List.mem_map.mpr ⟨_, hv, rfl⟩
    obtain ⟨t', e, ht⟩ := hx _ hm
    cases e
    obtain ⟨its2, r2, ⟨o, ho, hc, n, hd⟩, _⟩ := I.tuple ht
    obtain ⟨u1, u2, rfl, ri, rj⟩ := vals2 r2
    obtain ⟨t1, rfl⟩ := ri
    obtain ⟨t2, rfl⟩ := rj
    exact ⟨t, o, t1, t2, n, rfl, ho, hc, hd⟩
  · have h3 : ∀ u ∈ out, ∃ a, u = Value.ref a := fun u hu => e2 u (h2.perm.mem_iff.mp hu)
    obtain ⟨n, hn⟩ := hn
    have hb : SrtO.Stb (ltP k) (out.map backV) xs := by
      rw [e1]
      exact SrtO.Stb.map (ltP_swo k) backV h2
    refine ⟨.ref d, upd H d (.lst (out.map backV)), I.laid (t' := s.toks) kp hd ⟨?_, out, n, vals_back h3, hn⟩, rfl, q _ d (SrtO.srtd_map h1) hb (I.hok.fresh hd)⟩
    rw [hb.len]
    exact hz
end G9

namespace G9
open PySem PySem.Spec PyProof.Rows L2
/-! ### dict comprehensions whose keys are tuples -/
section
variable {X : Cx} {pins : List (Addr × Obj)} {σ : L2.St} {H : Hp} {s : Shared}
/-- an entry is put into the dict at D -/
def PutW (X : Cx) (D : Addr) (y z : V) (H : Hp) (Nx : Hp → Prop) : Prop :=
  ∃ (F : Hp) (os : List Addr) (nk : List (NestedKey × Addr × V)) (kvs : List (G9.D × G9.D)) (bb : Addr) (d : G9.D) (k : List NestedKey), y = .ref bb ∧ Same F H ∧ NKV X.K F os nk kvs ∧ (∀ q ∈ nk, q.1.depth ≤ 8) ∧ H D = some (dN X.w D nk) ∧ nk.length ≤ sizeLine ∧
    Rp X.K F os (.ref bb) d ∧ nkD d = some (.tup k) ∧ (NestedKey.tup k).depth ≤ 8 ∧ Nx (upd H D (dN X.w D (putN nk (.tup k) bb z)))
theorem d_putN {D : Addr} {y z : V} {u r : Value} {Nx : Hp → Prop} {Q : Unit → Shared → Prop} {E : Value → Shared → Prop} (hu : (nestedKind X.prog X.w).room X.A) (I : Inv X pins σ H s) (h : PutW X D y z H Nx) (ry : RelV y u) (rz : RelV z r) (hq : ∀ s' H', Inv X pins σ H' s' → Nx H' → Q () s') : wpAny (model X.prog X.w) X.A (dictSet D u r) Q E s := by
  obtain ⟨F, os, nk, kvs, bb, d, k, rfl, eF, hkv, hd8, hN, hz, rk, hk, h8, nx⟩ := h
  cases ry
  obtain ⟨hsm, xs, rel, dd⟩ := dn_of I hN eF hkv hd8
  have key : (nestedKind X.prog X.w).is s.heap (.tup k) bb := ⟨Rp.nk (v := .ref bb) I eF rk hk rfl, h8⟩
  refine wpAny_dictSet_heap (hsz := by rw [← rel.len]; exact hz) hu key dd fun h' dd' hs' => ?_
  obtain ⟨q, _, _, hq', _⟩ := id dd'
  exact hq _ _ (d_write (ob := dN X.w D (putN nk (.tup k) bb z)) I (by rw [hN]; exact True.intro) hs' ⟨q, hq'⟩ (dn_ok hsm (rel.put _ _ rz) dd')) nx
/-- the block of a dict comprehension, whatever its loop does -/
theorem dblk {kx vx tg iter : Expr} {ifs : List Expr} {gs : List Comprehension} {scope : Scope} {ow : List (Str × Nat)} {pos pos' : Pos} {wi : TI} {use : Option (Value → Sem Unit)} {Qf : Value → Shared → Prop} {B : It → Addr → Hp → Prop}
    (hN : X.N.Nodup) (I : Inv X pins σ H s) (hi : PI X tg iter wi) (ok : BlkOk X.N X.env.scope scope ow) (hs : ∀ x, foldedSetIterable iter X.env x = pure x)
    (h : wi σ H fun J H1 => ∀ D, H1 D = none → B J D (upd H1 D (dN X.w D [])))
    (hl : ∀ (s3 : Shared) (H3 : Hp) (cl : List (Str × Addr)) (fp : List Addr) (it : Addr) (tn : Nat → Heap → Prop) (J : It) (D : Addr) (s4 : Shared), Inv X pins σ H3 s3 → (∀ b ∈ fp, FpOk X pins H3 b ∧ b < s3.heap.objs.size) → Inv (X.blk s3 H3 scope (compEnvC scope cl s3.heap.objs.size X.env) fp) [] (wipe σ (ow.map (·.2))) H3 s4 →
      Turn X.prog X.w X.K tg J fp it tn → tn 0 s4.heap → B J D H3 → codeAny (model X.prog X.w) X.A (.compLoop (.DictComp kx vx (⟨tg, iter, ifs, 0⟩ :: gs) scope pos) 0 (.ref it) (.ref D) (compEnvC scope cl s3.heap.objs.size X.env)) (compPost (model X.prog X.w) X.A X.xe use Qf (.ref D) s3.heap.objs.size) s4) :
    wpAny (model X.prog X.w) X.A (comprehension (.DictComp kx vx (⟨tg, iter, ifs, 0⟩ :: gs) scope pos) scope X.env pos' newDict false (eval iter X.env) use) Qf X.xe s := by
  have free : ∀ y ∈ scope.names, y.2 = .free → ∃ c, X.env.cells.lookup y.1 = some c := fun y hy e => (ok.free y hy e).elim (fun k => I.ok.has _ (.inl k)) (fun k => I.ok.has _ (.inr k))
  refine wpAny_comprehension_free (use := use) rfl hs (closure_ok free) ok.kind (fun y hy e => by rw [ok.uniq y hy, e]) (L2.thn (hi.run pins s σ H _ I h) fun itd s1 h1 => L2.thn h1 fun _ s2 ⟨it, fp, tn, J, H2, e2, I2, T, st2, f2, q⟩ => ?_)
  subst e2
  refine wpAny_newObj_type (newEnv_comp ?_)
  have fr : H2 s2.heap.objs.size = none := I2.hok.fresh (Nat.le_refl _)
  have q3 := q _ fr
  have lt2 : ∀ b ∈ fp, b < s2.heap.objs.size := fun b hb => (T.obj _ _ st2 b hb).elim fun o z => Heap.lt_size z.1
  generalize e3 : ({ s2 with heap := s2.heap.push { cls := .type "dict", data := .dict #[] } } : Shared) = s3
  have hp3 : s3.heap = s2.heap.push { cls := .type "dict", data := .dict #[] } := by rw [← e3]
  have I3 : Inv X pins σ (upd H2 s2.heap.objs.size (dN X.w s2.heap.objs.size [])) s3 := by
    rw [← e3]
    exact I2.laid (a := s2.heap.objs.size) (o := dN X.w s2.heap.objs.size []) (t' := s2.toks) (fun _ _ z => Heap.get?_push_of_some _ z) (Nat.le_refl _) (dn_empty s2.heap I2.big)
  generalize e4 : upd H2 s2.heap.objs.size (dN X.w s2.heap.objs.size []) = H3 at I3 q3
  have f3 : ∀ b ∈ fp, FpOk X pins H3 b ∧ b < s3.heap.objs.size := fun b hb => by
    refine ⟨⟨?_, (f2 b hb).2⟩, by rw [hp3, Heap.size_push]; exact Nat.lt_succ_of_lt (lt2 b hb)⟩
    rw [← e4, upd_ne (Nat.ne_of_lt (lt2 b hb))]
    exact (f2 b hb).1
  have st3 : tn 0 s3.heap := T.keep _ _ _ st2 fun b _ o z => by rw [hp3]; exact Heap.get?_push_of_some _ z
  have I4 := block_start I3 ok hN f3
  refine (show codeAny _ _ (.compStart (.DictComp kx vx (⟨tg, iter, ifs, 0⟩ :: gs) scope pos) 0 (.ref it) (.ref s2.heap.objs.size) (compEnvC scope (cellsFrom (s3.heap.objs.size + 1) scope.names (cloFrom X.env.cells scope.names [])) s3.heap.objs.size X.env)) (compPost (model X.prog X.w) X.A X.xe use Qf (.ref s2.heap.objs.size) s3.heap.objs.size) { s3 with heap := pushCells (s3.heap.push { cls := .type "dict", data := .dict #[] }) scope.names } from ?_)
  have st4 : tn 0 ({ s3 with heap := pushCells (s3.heap.push { cls := .type "dict", data := .dict #[] }) scope.names } : Shared).heap := T.keep _ _ _ st3 fun b _ o z => pushCells_keeps _ _ _ _ (Heap.get?_push_of_some _ z)
  have lp := hl s3 H3 _ fp it tn J s2.heap.objs.size _ I3 f3 I4 T st4 q3
  exact codeAny_compStart_dict lp (T.self X.A 0 _ _ _ st4 lp)
/-- the end of the outer loop -/
theorem dblk_end {scope : Scope} {s3 s6 : Shared} {H3 H5 : Hp} {cl : List (Str × Addr)} {fp : List Addr} {vs : List Nat} {D : Addr} {Q : VK} {use : Option (Value → Sem Unit)} {Qf : Value → Shared → Prop} (I3 : Inv X pins σ H3 s3) (f3 : ∀ b ∈ fp, FpOk X pins H3 b ∧ b < s3.heap.objs.size)
    (I6 : Inv (X.blk s3 H3 scope (compEnvC scope cl s3.heap.objs.size X.env) fp) [] (wipe σ vs) H5 s6) (hq : Q (.ref D) H5)
    (hRR : ∀ D C s' m H', Inv X pins σ H' s' → Q (.ref D) H' → s'.heap.Ns C m → FpOk X pins H' C → compPost (model X.prog X.w) X.A X.xe use Qf (.ref D) C (.ok .next) s') : compPost (model X.prog X.w) X.A X.xe use Qf (.ref D) s3.heap.objs.size (.ok .next) s6 := by
  have back : Inv X pins σ H5 s6 := I3.call' (ch := fp) I6.os I6.base I6.hok I6.bare fun b hb => ⟨(f3 b hb).1.2.2.2.1, (f3 b hb).1.2.1, (f3 b hb).1.2.2.2.2.1, (f3 b hb).1.2.2.2.2.2⟩
  have none5 : H5 s3.heap.objs.size = none := I6.free
  obtain ⟨m, hn, _⟩ := I6.loc
  exact hRR D s3.heap.objs.size s6 m H5 back hq hn (I3.fpOk (Nat.le_refl _) none5)
theorem blk_stat {scope : Scope} {s3 : Shared} {H3 : Hp} {ce : Env} {fp : List Addr} {σ' : L2.St} {H' : Hp} {s' : Shared} (I' : Inv (X.blk s3 H3 scope ce fp) [] σ' H' s') (hn : ∀ b ∈ fp, H' b = none) : ∀ b ∈ fp, FpOk (X.blk s3 H3 scope ce fp) [] H' b := fun b hb =>
  ⟨hn b hb, (I'.ok.exf b hb).1, I'.ok.exfs b hb, .inl hb, fun x c e => (I'.ok.exf b hb).2 x c e, fun p hp => absurd (show p ∈ ([] : List (Addr × Obj)) ++ [] from hp) (by simp)⟩
/-- back to the pins ahead of a turn -/
theorem unpin_back {Y : Cx} {pins0 : List (Addr × Obj)} {fp : List Addr} {tn : Nat → Heap → Prop} {J : It} {it : Addr} {tg : Expr} {s7 s' : Shared} {σ0 σ9 : L2.St} {H' : Hp} {i : Nat} (T : Turn Y.prog Y.w Y.K tg J fp it tn) (st : tn i s7.heap) (I' : Inv Y (pins0 ++ pinsAt fp s7.heap) σ9 H' s') (hl : σ0.length = σ9.length) (hk : ∀ (j : Nat) v, σ0[j]? = some (some v) → σ9[j]? = some (some v)) :
    Inv Y pins0 σ0 H' s' ∧ tn i s'.heap ∧ ∀ b ∈ fp, H' b = none := by
  have pin' : ∀ b ∈ fp, ∀ o, s7.heap.get? b = some o → s'.heap.get? b = some o ∧ H' b = none := fun b hb o e =>
    have z := I'.pin (b, o) (List.mem_append_right _ (List.mem_append_right _ (mem_pinsAt hb e)))
    ⟨z.1, z.2.1⟩
  exact ⟨I'.unpinned.weak hl hk, T.keep _ _ _ st fun b hb o e => (pin' b hb o e).1, fun b hb => (T.obj _ _ st b hb).elim fun o z => (pin' b hb o z.1).2⟩
/-- {k: v for target in iter if ..}: what its loop does, the new dict at D -/
def DnB (X : Cx) (g : TG) (tt : TT) (tk tv : TE) (vs : List Nat) (σ : L2.St) (Q : VK) (J : It) (D : Addr) (H0 : Hp) : Prop := ∃ W : Nat → Nat → Hp → Prop, (∃ m, W 0 m H0) ∧ ∀ i m H, W i m H →
  (J.stop i H ∧ Q (.ref D) H) ∨ (J.go i H ∧ ∃ Nx : Hp → Prop, (∀ H', Nx H' → ∃ m', m' < m ∧ W (i + 1) m' H') ∧ ∀ x H', J.yld i H x H' → g x (wipe σ vs) H' fun σ2 H2 => wipe σ2 vs = wipe σ vs ∧ tt σ2 H2 fun b H3 =>
    if b = true then tk σ2 H3 fun y H4 => tv σ2 H4 fun z H5 => PutW X D y z H5 Nx else Nx H3)
def tDn (X : Cx) (wi : TI) (g : TG) (tt : TT) (tk tv : TE) (vs : List Nat) : TE := fun σ H Q => wi σ H fun J H1 => ∀ D, H1 D = none → DnB X g tt tk tv vs σ Q J D (upd H1 D (dN X.w D []))
theorem dn_core {Q : VK} {kx vx tg iter : Expr} {ifs : List Expr} {scope : Scope} {ow : List (Str × Nat)} {pos pos' : Pos} {wi : TI} {g : TG} {tt : TT} {tk tv : TE} {use : Option (Value → Sem Unit)} {Qf : Value → Shared → Prop}
    (hu : (nestedKind X.prog X.w).room X.A) (hc : X.calm = true) (hN : X.N.Nodup) (I : Inv X pins σ H s) (hi : PI X tg iter wi) (ok : BlkOk X.N X.env.scope scope ow) (hs : ∀ x, foldedSetIterable iter X.env x = pure x)
    (hg : ∀ s H C cl fp, PG (X.blk s H scope (compEnvC scope cl C X.env) fp) tg g) (ht : ∀ s H C cl fp, PTs (X.blk s H scope (compEnvC scope cl C X.env) fp) ifs tt)
    (hk : ∀ s H C cl fp, PE (X.blk s H scope (compEnvC scope cl C X.env) fp) kx tk) (hv : ∀ s H C cl fp, PE (X.blk s H scope (compEnvC scope cl C X.env) fp) vx tv)
    (h : tDn X wi g tt tk tv (ow.map (·.2)) σ H Q)
    (hRR : ∀ D C s' m H', Inv X pins σ H' s' → Q (.ref D) H' → s'.heap.Ns C m → FpOk X pins H' C → compPost (model X.prog X.w) X.A X.xe use Qf (.ref D) C (.ok .next) s') :
    wpAny (model X.prog X.w) X.A (comprehension (.DictComp kx vx [⟨tg, iter, ifs, 0⟩] scope pos) scope X.env pos' newDict false (eval iter X.env) use) Qf X.xe s := by
  generalize hvs : ow.map (·.2) = vs at h
  refine dblk (B := DnB X g tt tk tv vs σ Q) hN I hi ok hs h fun s3 H3 cl fp it tn J D s4 I3 f3 I4 T st4 ⟨W, ⟨m0, w0⟩, turn⟩ => ?_
  subst hvs
  refine compLoop_anyD (fun n s' => ∃ i H', Inv (X.blk s3 H3 scope (compEnvC scope cl s3.heap.objs.size X.env) fp) [] (wipe σ (ow.map (·.2))) H' s' ∧ tn i s'.heap ∧ (∀ b ∈ fp, H' b = none) ∧ W i n H') ?_ m0 ⟨0, H3, I4, st4, fun b hb => (f3 b hb).1.1, w0⟩
  rintro n s5 ⟨i, H5, I5, st5, n5, w5⟩
  rcases turn i n H5 w5 with ⟨stop, qq⟩ | ⟨go, Nx, hNx, step⟩
  · refine thnF (T.done (X.blk s3 H3 scope _ fp) rfl rfl rfl hc i [] s5 _ H5 (fun _ _ => False) I5 (blk_stat I5 n5) st5 stop) fun r s6 ⟨e, I6⟩ => ?_
    subst e
    exact dblk_end I3 f3 I6 qq hRR
  · refine thnF (T.item (X.blk s3 H3 scope _ fp) rfl rfl rfl hc i [] s5 _ H5 (fun _ _ => False) I5 (blk_stat I5 n5) st5 go) fun r s6 ⟨u, e, h6⟩ => ?_
    subst e
    refine thnF h6 fun _ s7 ⟨x, H7, I7, r7, y7, st7, n7⟩ => ?_
    refine thnF ((hg s3 H3 _ _ fp).run _ s7 _ H7 x u _ (I7.pinned (blk_stat I7 n7) (T.obj _ _ st7)) r7 (step x H7 y7)) fun _ s8 ⟨σ8, H8, I8, w8, q8⟩ => ?_
    refine thnF ((ht s3 H3 _ _ fp).run _ s8 σ8 H8 _ I8 q8) fun b s9 ⟨H9, I9, q9⟩ => ?_
    have fin : ∀ (s' : Shared) (H' : Hp), Inv (X.blk s3 H3 scope (compEnvC scope cl s3.heap.objs.size X.env) fp) ([] ++ pinsAt fp s7.heap) σ8 H' s' → Nx H' → ∃ m, m < n ∧ ∃ i H', Inv (X.blk s3 H3 scope (compEnvC scope cl s3.heap.objs.size X.env) fp) [] (wipe σ (ow.map (·.2))) H' s' ∧ tn i s'.heap ∧ (∀ b ∈ fp, H' b = none) ∧ W i m H' := fun s' H' I' nx => by
      obtain ⟨m', lt, w'⟩ := hNx H' nx
      obtain ⟨z1, z2, z3⟩ := unpin_back (Y := X.blk s3 H3 scope (compEnvC scope cl s3.heap.objs.size X.env) fp) (pins0 := []) (σ0 := wipe σ (ow.map (·.2))) T st7 I' (by rw [← w8, wipe_length]) (fun j v e => (wipe_some (vs := ow.map (·.2)) (by rw [w8]; exact e)).1)
      exact ⟨m', lt, i + 1, H', z1, z2, z3, w'⟩
    cases b with
    | false => exact fin _ _ I9 q9
    | true =>
      refine thnF ((hk s3 H3 _ _ fp).run _ s9 σ8 H9 _ I9 q9) fun a1 s10 ⟨yk, H10, I10, r10, q10⟩ => ?_
      refine thnF ((hv s3 H3 _ _ fp).run _ s10 σ8 H10 _ I10 q10) fun a2 s11 ⟨yv, H11, I11, r11, q11⟩ => ?_
      exact d_putN (X := X.blk s3 H3 scope _ fp) hu I11 q11 r10 r11 fun s12 H12 I12 nx => fin s12 H12 I12 nx
theorem pe_dn {kx vx tg iter : Expr} {ifs : List Expr} {scope : Scope} {ow : List (Str × Nat)} {pos : Pos} {wi : TI} {g : TG} {tt : TT} {tk tv : TE} (hu : (nestedKind X.prog X.w).room X.A) (hc : X.calm = true) (hN : X.N.Nodup) (hi : PI X tg iter wi) (ok : BlkOk X.N X.env.scope scope ow)
    (hg : ∀ s H C cl fp, PG (X.blk s H scope (compEnvC scope cl C X.env) fp) tg g) (ht : ∀ s H C cl fp, PTs (X.blk s H scope (compEnvC scope cl C X.env) fp) ifs tt)
    (hk : ∀ s H C cl fp, PE (X.blk s H scope (compEnvC scope cl C X.env) fp) kx tk) (hv : ∀ s H C cl fp, PE (X.blk s H scope (compEnvC scope cl C X.env) fp) vx tv) (hs : ∀ x, foldedSetIterable iter X.env x = pure x) :
    PE X (.DictComp kx vx [⟨tg, iter, ifs, 0⟩] scope pos) (tDn X wi g tt tk tv (ow.map (·.2))) := by
  refine ⟨fun pins s σ H Q I h => ?_⟩
  rw [arm_eval_DictComp]
  refine dn_core hu hc hN I hi ok hs hg ht hk hv h fun D C s' m H' I' q hn f => ⟨m, hn, fun h'' sb => ?_⟩
  exact ⟨.ref D, H', I'.turned (t' := s'.toks) (fun b o hb e => (sb.2 b hb).trans e) f.1 f.2.1 f.2.2.2.1 f.2.2.2.2.1 f.2.2.2.2.2, rfl, q⟩
end
end G9
namespace G9
open PySem PySem.Spec PyProof.Rows L2
section
variable {X : Cx}
theorem swd_true {kx vx : Expr} {gs : List Comprehension} {scope : Scope} {pos py : Pos} {y : Str} {l : Nat} {env : Env} (hk : env.scope.kind = .function) (hy : env.scope.names.lookup y = some .local) (hl : (py.line == pos.line) = true)
    (ha : (scope.names.any fun (n, k) => n == y && (k == .local || k == .cell)) = false) : swapsWith (.DictComp kx vx gs scope pos) (some (.Name y py)) l env = pure true := by
  have e1 : env.kindOf y = some .local := hy
  have e2 : env.blockKind = .function := by unfold Env.blockKind; rw [hk]; rfl
  unfold swapsWith
  simp only [e1, e2, ha, Expr.pos, hl]
  rfl
/-- what is kept of a comprehension whose value goes straight to a name -/
theorem name_end {pins : List (Addr × Obj)} {σ : L2.St} {H' : Hp} {s' : Shared} {i : Nat} {y : Str} {py : Pos} {L C : Addr} {m : Str → Option Value} {D : Ends} (hN : X.N.Nodup) (hy : X.N[i]? = some y) (hyl : X.env.scope.names.lookup y = some .local) (I' : Inv X pins σ H' s') (q : gName i (.ref L) σ H' D.nx) (hn : s'.heap.Ns C m) (f : FpOk X pins H' C) :
    compPost (model X.prog X.w) X.A X.xe (some (assign (.Name y py) X.env)) (fun _ s' => SP X pins D .next s') (.ref L) C (.ok .next) s' := by
  show wpAny _ _ (assign (.Name y py) X.env (.ref L)) _ _ _
  refine wpAny_assign_Name (store_ok2 (v := V.ref L) I' hN hy (.inl hyl) rfl (fun s2 I2 ⟨a, sb, ha⟩ => ?_) (.inr hyl))
  have ne : C ≠ a := ha.elim (fun z => by rw [z]; exact f.2.1) fun z e => f.2.2.2.2.1 y a z e.symm
  exact ⟨m, hn.sameBut sb ne, fun h3 sb3 => ⟨_, H', I2.turned (t' := s2.toks) (fun b o hb e => (sb3.2 b hb).trans e) f.1 f.2.1 f.2.2.2.1 f.2.2.2.2.1 f.2.2.2.2.2, q⟩⟩
theorem ps_setDn {i : Nat} {y : Str} {py : Pos} {kx vx tg iter : Expr} {ifs : List Expr} {scope : Scope} {ow : List (Str × Nat)} {pos spos : Pos} {wi : TI} {g : TG} {tt : TT} {tk tv : TE} (hu : (nestedKind X.prog X.w).room X.A) (hc : X.calm = true) (hN : X.N.Nodup) (hy : X.N[i]? = some y) (hyl : X.env.scope.names.lookup y = some .local)
    (hsw : swapsWith (.DictComp kx vx [⟨tg, iter, ifs, 0⟩] scope pos) (some (.Name y py)) spos.line X.env = pure true) (hi : PI X tg iter wi) (ok : BlkOk X.N X.env.scope scope ow)
    (hg : ∀ s H C cl fp, PG (X.blk s H scope (compEnvC scope cl C X.env) fp) tg g) (ht : ∀ s H C cl fp, PTs (X.blk s H scope (compEnvC scope cl C X.env) fp) ifs tt)
    (hk : ∀ s H C cl fp, PE (X.blk s H scope (compEnvC scope cl C X.env) fp) kx tk) (hv : ∀ s H C cl fp, PE (X.blk s H scope (compEnvC scope cl C X.env) fp) vx tv) (hs : ∀ x, foldedSetIterable iter X.env x = pure x) :
    PS X (.Assign [.Name y py] (.DictComp kx vx [⟨tg, iter, ifs, 0⟩] scope pos) spos) (tAsg (tDn X wi g tt tk tv (ow.map (·.2))) (gName i)) := by
  refine ⟨fun pins s σ H D I h => ?_⟩
  rw [exec_Assign_Name_used _ _ _ _ hsw]
  refine wpAny_bind (wpAny_standAt (wpAny_bind ?_))
  show wpAny _ X.A (do let _ ← comprehension (.DictComp kx vx [⟨tg, iter, ifs, 0⟩] scope pos) scope X.env (firstIterPos [⟨tg, iter, ifs, 0⟩] pos) newDict false (eval iter X.env) (some (assign (.Name y py) X.env))) _ _ s
  have h : tDn X wi g tt tk tv (ow.map (·.2)) σ H (fun x H1 => gName i x σ H1 D.nx) := h
  exact wpAny_bind (L2.thn (dn_core (Qf := fun _ s' => SP X pins D .next s') hu hc hN I hi ok hs hg ht hk hv h fun L C s' m H' I' q hn f => name_end hN hy hyl I' q hn f) fun _ s' hq => wpAny_pure (wpAny_pure hq))
end
variable {c : SC}
section
variable {s : Sta} {P : D → Sta → Prop} {kx vx tg iter : Expr} {ifs : List Expr} {scope : Scope} {pos px : Pos} {x : Str} {vs : List Nat}
/-- one entry of a comprehension's dict at place L -/
def DcE (c : SC) (kx vx : Expr) (L : Nat) (kvs : List (D × D)) (s : Sta) (Nx : List (D × D) → Sta → Prop) : Prop :=
  AE c kx s fun k s3 => AE c vx s3 fun e s4 => s4.o[L]? = some (.dct .t kvs) ∧ KeyD k ∧ kvs.length < sizeLine ∧ Nx (putD kvs k e) ⟨s4.r, s4.o.set L (.dct .t (putD kvs k e))⟩
def DcQ (c : SC) (scope : Scope) (kx vx tg : Expr) (ifs : List Expr) (vs : List Nat) (P : D → Sta → Prop) (xs : List D) (Φ : Sta → Prop) (s1 : Sta) : Prop :=
  ∃ I : Nat → List (D × D) → Sta → Prop, I 0 [] ⟨wipeD s1.r vs, s1.o ++ [.dct .t []]⟩ ∧ (∀ i kvs s, I i kvs s → Φ s ∧ s.o[s1.o.length]? = some (.dct .t kvs) ∧ (∀ v ∈ vs, ∀ d, s.r[v]? ≠ some (some d))) ∧
    (∀ i kvs d s, xs[i]? = some d → I i kvs s → AGw (c.blk scope) tg vs d s fun sT => AF (c.blk scope) ifs sT fun b s2 =>
      if b = true then DcE (c.blk scope) kx vx s1.o.length kvs s2 fun kvs' s3 => ∃ s4, Gc (s1.o.length + 1) ⟨wipeD s3.r vs, s3.o⟩ s4 ∧ I (i + 1) kvs' s4
      else ∃ s4, Gc (s1.o.length + 1) ⟨wipeD s2.r vs, s2.o⟩ s4 ∧ I (i + 1) kvs s4) ∧
    (∀ kvs s, I xs.length kvs s → P (.ob s1.o.length) s)
theorem putN_len {nk : List (NestedKey × Addr × V)} {k : NestedKey} {b : Addr} {v : V} {n : Nat} (h : nk.length < n) : (putN nk k b v).length ≤ n := by
  unfold putN
  split
  · rw [List.length_map]
    exact Nat.le_of_lt h
  · rw [List.length_append]
    exact h
theorem putN_dep {nk : List (NestedKey × Addr × V)} {k : NestedKey} {b : Addr} {v : V} (h : ∀ q ∈ nk, q.1.depth ≤ 8) (hk : k.depth ≤ 8) : ∀ q ∈ putN nk k b v, q.1.depth ≤ 8 := by
  intro q hq
  unfold putN at hq
  split at hq
  · obtain ⟨y, hy, rfl⟩ := List.mem_map.mp hq
    split
    · exact h y hy
    · exact h y hy
  · rcases List.mem_append.mp hq with z | z
    · exact h q z
    · simp at z
      subst z
      exact hk
/-- an entry's wish, read on data -/
theorem putW_of {X : Cx} (hX : XC c X) {σ : L2.St} {τ : List D} {τv : List V} {H : Hp} {L : Nat} {k e : D} {a z : V} {p : V} {kvs : List (D × D)} {Nx : Hp → Prop} (R : Rep c s σ (e :: k :: .ob L :: τ) (z :: a :: p :: τv) H) (ho : s.o[L]? = some (.dct .t kvs)) (hk : KeyD k) (hz : kvs.length < sizeLine) {D0 : Addr} (hp : p = .ref D0)
    (hq : ∀ H', Rep c ⟨s.r, s.o.set L (.dct .t (putD kvs k e))⟩ σ (.ob L :: τ) (p :: τv) H' → Nx H') : PutW X D0 a z H Nx := by
  obtain ⟨k, hk, h8⟩ := hk
  obtain ⟨bb, rfl⟩ := R.pop.key hk
  subst hp
  obtain ⟨p', F, os, e1, eF, hob, r, mk, mu⟩ := R.rot2.objMR ho (by simp)
  cases e1
  obtain ⟨nk, hN, hz2, hkv, hd8⟩ := dct_iff.mp hob
  cases r with
  | cons rk r =>
    cases r with
    | cons re r =>
      refine ⟨F, os, nk, kvs, bb, _, k, rfl, eF, by rw [hX.K]; exact hkv, hd8, by rw [hX.w]; exact hN, hz2, by rw [hX.K]; exact rk, hk, h8, hq _ ?_⟩
      have hput := hkv.put hk rk re
      have R5 := mu (dN X.w D0 (putN nk (.tup k) bb z)) (.dct .t (putD kvs _ e)) (dct_iff.mpr ⟨_, by rw [hX.w]; exact upd_same, putN_len (by rw [hkv.len]; exact hz), hput, putN_dep hd8 h8⟩)
      exact R5.rot2.pop.pop.temps fun F os r => r
theorem dc_readQ {X : Cx} (hX : XC c X) {ow : List (Str × Nat)} (h : AI c tg iter s fun xs Φ s1 => DcQ c scope kx vx tg ifs (ow.map (·.2)) P xs Φ s1)
    {σ : L2.St} {τ : List D} {τv : List V} {H : Hp} (R : Rep c s σ τ τv H) {Q : VK} (hq : FinE c P σ τ τv Q) (hlen : ifs.length ≤ 1) :
    tDn X (WI X tg iter) (fun y σ H Q => ∀ s0 H0 C cl fp, WG (X.blk s0 H0 scope (compEnvC scope cl C X.env) fp) tg y σ H Q) (fun σ H Q => ∀ s0 H0 C cl fp, match ifs with
        | [] => Q true H
        | [t] => WT (X.blk s0 H0 scope (compEnvC scope cl C X.env) fp) t σ H Q
        | _ => False) (fun σ H Q => ∀ s0 H0 C cl fp, WE (X.blk s0 H0 scope (compEnvC scope cl C X.env) fp) kx σ H Q) (fun σ H Q => ∀ s0 H0 C cl fp, WE (X.blk s0 H0 scope (compEnvC scope cl C X.env) fp) vx σ H Q) (ow.map (·.2)) σ H Q := by
  refine h X hX σ τ τv H R _ fun J d v xs Φ s1 H1 h1 R1 ok => ?_
  obtain ⟨I, h0, hI, turn, done⟩ := h1
  intro Dd hD
  obtain ⟨l1, l2⟩ := R1.ol
  generalize hvs : ow.map (·.2) = vs at *
  have R2 : Rep c ⟨s1.r, s1.o ++ [.dct .t []]⟩ σ (.ob s1.o.length :: d :: τ) (.ref Dd :: v :: τv) (upd H1 Dd (dN X.w Dd [])) := R1.ownG hD fun F os r => by
    rw [hX.w]
    exact dct_iff.mpr ⟨[], upd_same, Nat.zero_le _, .nil, fun _ h => by cases h⟩
  have R3 : Rep c ⟨wipeD s1.r vs, s1.o ++ [.dct .t []]⟩ σ (.ob s1.o.length :: d :: τ) (.ref Dd :: v :: τv) (upd H1 Dd (dN X.w Dd [])) := R2.unw (scope := scope) rfl
  refine ⟨fun i m H => m = xs.length - i ∧ i ≤ xs.length ∧ ∃ kvs s, I i kvs s ∧ Rep c s σ (.ob s1.o.length :: d :: τ) (.ref Dd :: v :: τv) H, ⟨xs.length, by simp, Nat.zero_le _, [], _, h0, R3⟩, ?_⟩
  rintro i m H2 ⟨rfl, hi, kvs, s2, hI2, R4⟩
  obtain ⟨q1, q2, q4⟩ := hI i kvs s2 hI2
  by_cases hlt : i < xs.length
  · obtain ⟨g1, g2⟩ := ok.go i s2 σ _ _ H2 q1 R4.sw hlt
    refine .inr ⟨g1, fun H' => ∃ kvs s', I (i + 1) kvs s' ∧ Rep c s' σ (.ob s1.o.length :: d :: τ) (.ref Dd :: v :: τv) H', fun H' q => ⟨xs.length - (i + 1), by omega, rfl, by omega, q⟩, fun y H' hy => ?_⟩
    obtain ⟨yd, hy1, R5⟩ := g2 y H' hy
    have R6 : Rep c s2 σ (yd :: .ob s1.o.length :: d :: τ) (y :: .ref Dd :: v :: τv) H' := R5.temps fun F os r => by
      cases r with
      | cons a r =>
        cases r with
        | cons b r =>
          cases r with
          | cons c r => exact .cons a (.cons c (.cons b r))
    have R7 := R6.wipe (vs := vs) (scope := scope)
    have R8 : Rep (c.blk scope) s2 (wipe σ vs) (yd :: .ob s1.o.length :: d :: τ) (y :: .ref Dd :: v :: τv) H' := by
      obtain ⟨F, os, a, b, e, r⟩ := R7
      refine ⟨F, os, a, b, ⟨?_, fun k dd hk => ?_⟩, r⟩
      · have := e.len
        simp only [wipeD_len] at this ⊢
        exact this
      · exact e.get k dd (wipeD_id q4 k dd hk)
    intro t0 G0 C0 cl0 fp0
    refine AGw.run (turn i kvs yd s2 hy1 hI2) _ (xc_blk hX t0 G0 C0 cl0 fp0) _ _ _ _ _ R8 _ fun sT σT HT T RT hwT => ?_
    have hw : wipe σT vs = wipe σ vs := by rw [hwT, wipe_wipe]
    refine ⟨by rw [hw], ?_⟩
    have fin1 : ∀ (kvs' : List (D × D)) (s3 : Sta) (H3 : Hp), (∃ s4, Gc (s1.o.length + 1) ⟨wipeD s3.r vs, s3.o⟩ s4 ∧ I (i + 1) kvs' s4) → Rep (c.blk scope) s3 σT (.ob s1.o.length :: d :: τ) (.ref Dd :: v :: τv) H3 →
        ∃ kvs s', I (i + 1) kvs s' ∧ Rep c s' σ (.ob s1.o.length :: d :: τ) (.ref Dd :: v :: τv) H3 := fun kvs' s3 H3 h R => by
      obtain ⟨s4, g, hI4⟩ := h
      have R1' := R.unwipe (σ := σ) (vs := vs) hw
      exact ⟨kvs', s4, hI4, R1'.gc g (Nat.le_succ_of_le l1) ⟨by unfold D.bnd; exact Nat.lt_succ_self _, D.bndL_le (Nat.le_succ _) l2⟩⟩
    have fin2 : ∀ (s3 : Sta) (H3 : Hp), DcE (c.blk scope) kx vx s1.o.length kvs s3 (fun kvs' s3 => ∃ s4, Gc (s1.o.length + 1) ⟨wipeD s3.r vs, s3.o⟩ s4 ∧ I (i + 1) kvs' s4) → Rep (c.blk scope) s3 σT (.ob s1.o.length :: d :: τ) (.ref Dd :: v :: τv) H3 →
        ∀ s0 H0 C cl fp, WE (X.blk s0 H0 scope (compEnvC scope cl C X.env) fp) kx σT H3 fun y H4 => ∀ s0 H0 C cl fp, WE (X.blk s0 H0 scope (compEnvC scope cl C X.env) fp) vx σT H4 fun z H5 => PutW X Dd y z H5 fun H' => ∃ kvs s', I (i + 1) kvs s' ∧ Rep c s' σ (.ob s1.o.length :: d :: τ) (.ref Dd :: v :: τv) H' := fun s3 H3 h R s0 H0 C cl fp => by
      refine AE.run h _ (xc_blk hX s0 H0 C cl fp) _ _ _ H3 R _ fun kd s4 w H4 h4 Ra => ?_
      intro s0' H0' C' cl' fp'
      refine h4 _ (xc_blk hX s0' H0' C' cl' fp') _ _ _ H4 Ra _ fun e s5 w2 H5 h5 Rb => ?_
      obtain ⟨ho, hk, hz, hn⟩ := h5
      exact putW_of (c := c.blk scope) (X := X.blk s0 H0 scope (compEnvC scope cl C X.env) fp) (xc_blk hX s0 H0 C cl fp) Rb ho hk hz rfl fun H' R' => fin1 _ _ _ hn R'
    match ifs, hlen, T with
    | [], _, T =>
      intro s0 H0 C cl fp
      exact fin2 _ _ T RT
    | [t], _, T =>
      intro s0 H0 C cl fp
      refine AT.run T _ (xc_blk hX s0 H0 C cl fp) _ _ _ HT RT _ fun b s3 H3 h3 R9 => ?_
      cases b with
      | true => exact fin2 s3 H3 h3 R9
      | false => exact fin1 _ s3 H3 h3 R9
  · have e : i = xs.length := by omega
    subst e
    exact .inl ⟨ok.stop s2 σ _ _ H2 q1 R4.sw, hq _ _ _ _ (done kvs s2 hI2) R4.pop2⟩
theorem ae_dcq (N0 : List Str) (sc0 : Scope) (ow : List (Str × Nat)) (ok : blkC N0 sc0 scope ow = true) (hlen : ifs.length ≤ 1) (h : AI c tg iter s fun xs Φ s1 => DcQ c scope kx vx tg ifs (ow.map (·.2)) P xs Φ s1)
    (hs : ∀ env y, foldedSetIterable iter env y = pure y := by intro _ _; rfl) (eN : c.N = N0 := by rfl) (eS : c.sc = sc0 := by rfl) : AE c (.DictComp kx vx [⟨tg, iter, ifs, 0⟩] scope pos) s P := by
  refine ⟨?_⟩
  intro X hX σ τ τv H R Q hq
  exact WE.of (pe_dn (ow := ow) (room_nk hX.room) hX.calm (by rw [hX.N]; exact hX.nd) pi_w (blkOk_by (by rw [hX.N, hX.sc, eN, eS]; exact ok)) (fun s0 H0 C cl fp => ⟨fun p s σ H v u Q I r q => q s0 H0 C cl fp p s u I r⟩) (fun s0 H0 C cl fp => pts_of hlen s0 H0 C cl fp) (fun s0 H0 C cl fp => ⟨fun p s σ H Q I q => q s0 H0 C cl fp p s I⟩) (fun s0 H0 C cl fp => ⟨fun p s σ H Q I q => q s0 H0 C cl fp p s I⟩) (hs _)) (dc_readQ hX h R hq hlen)
theorem as_dcq {PO' : Out → Prop} {y : Str} {py spos : Pos} {iy : Nat} (N0 : List Str) (sc0 : Scope) (ow : List (Str × Nat)) (hy : c.N[iy]? = some y) (hyl : c.sc.names.lookup y = some .local) (hk : c.sc.kind = .function) (hln : (py.line == pos.line) = true) (ha : (scope.names.any fun (n, k) => n == y && (k == .local || k == .cell)) = false)
    (ok : blkC N0 sc0 scope ow = true) (hlen : ifs.length ≤ 1) (h : AI c tg iter s fun xs Φ s1 => DcQ c scope kx vx tg ifs (ow.map (·.2)) (fun d s => PO' (.nx ⟨s.r.set iy (some d), s.o⟩)) xs Φ s1)
    (hs : ∀ env y, foldedSetIterable iter env y = pure y := by intro _ _; rfl) (eN : c.N = N0 := by rfl) (eS : c.sc = sc0 := by rfl) : AS c (.Assign [.Name y py] (.DictComp kx vx [⟨tg, iter, ifs, 0⟩] scope pos) spos) s PO' := by
  refine ⟨?_⟩
  intro X hX σ τ τv H R E hq
  exact WS.of (ps_setDn (ow := ow) (room_nk hX.room) hX.calm (by rw [hX.N]; exact hX.nd) (by rw [hX.N]; exact hy) (by rw [hX.sc]; exact hyl) (swd_true (by rw [hX.sc]; exact hk) (by rw [hX.sc]; exact hyl) hln ha) pi_w (blkOk_by (by rw [hX.N, hX.sc, eN, eS]; exact ok)) (fun s0 H0 C cl fp => ⟨fun p s σ H v u Q I r q => q s0 H0 C cl fp p s u I r⟩) (fun s0 H0 C cl fp => pts_of hlen s0 H0 C cl fp) (fun s0 H0 C cl fp => ⟨fun p s σ H Q I q => q s0 H0 C cl fp p s I⟩) (fun s0 H0 C cl fp => ⟨fun p s σ H Q I q => q s0 H0 C cl fp p s I⟩) (hs _))
    (dc_readQ (Q := fun x H1 => gName iy x σ H1 E.nx) hX h R (fun d s' v H' hp R' => hq.nx _ _ _ hp R'.set) hlen)
/-- a comprehension whose turns leave the state as it is, over typed data l: entries (f, g) for those that pass t -/
def putAll (l : List (D × D)) : List (D × D) := l.foldl (fun a q => putD a q.1 q.2) []
def DcL (c : SC) (scope : Scope) (kx vx tg : Expr) (ifs : List Expr) (vs : List Nat) (P : D → Sta → Prop) (xs : List D) (Φ : Sta → Prop) (s1 : Sta) : Prop :=
  ∃ (α : Type) (l : List α) (f : α → D) (g : α → D × D) (t : α → Bool), xs = l.map f ∧ (∀ kvs, Φ ⟨wipeD s1.r vs, s1.o ++ [.dct .t kvs]⟩) ∧ l.length ≤ sizeLine ∧ (∀ a ∈ l, KeyD (g a).1) ∧
    (∀ a kvs, a ∈ l → AGw (c.blk scope) tg vs (f a) ⟨wipeD s1.r vs, s1.o ++ [.dct .t kvs]⟩ fun sT => wipeD sT.r vs = wipeD s1.r vs ∧ sT.o = s1.o ++ [.dct .t kvs] ∧ AF (c.blk scope) ifs sT fun b s2 => s2 = sT ∧ b = t a ∧ (b = true → AE (c.blk scope) kx sT fun k s3 => s3 = sT ∧ k = (g a).1 ∧ AE (c.blk scope) vx sT fun e s4 => s4 = sT ∧ e = (g a).2)) ∧
    P (.ob s1.o.length) ⟨wipeD s1.r vs, s1.o ++ [.dct .t (putAll ((l.filter t).map g))]⟩
theorem putD_len (kvs : List (D × D)) (k v : D) : (putD kvs k v).length ≤ kvs.length + 1 := by
  unfold putD
  split
  · rw [List.length_map]
    exact Nat.le_succ _
  · rw [List.length_append]
    exact Nat.le_refl _
theorem putAll_snoc (l : List (D × D)) (q : D × D) : putAll (l ++ [q]) = putD (putAll l) q.1 q.2 := by
  unfold putAll
  rw [List.foldl_append]
  rfl
theorem putAll_len (l : List (D × D)) : (putAll l).length ≤ l.length := by
  suffices h : ∀ (l a : List (D × D)), (l.foldl (fun a q => putD a q.1 q.2) a).length ≤ a.length + l.length by simpa [putAll] using h l []
  intro l
  induction l with
  | nil => intro a; exact Nat.le_refl _
  | cons q l ih =>
    intro a
    have h1 := ih (putD a q.1 q.2)
    have h2 := putD_len a q.1 q.2
    simp only [List.foldl_cons, List.length_cons]
    omega
theorem dcl_dcq {xs : List D} {Φ : Sta → Prop} {s1 : Sta} (h : DcL c scope kx vx tg ifs vs P xs Φ s1) : DcQ c scope kx vx tg ifs vs P xs Φ s1 := by
  obtain ⟨α, l, f, g, t, rfl, h1, h2, h3, h4, h6⟩ := h
  refine ⟨fun i kvs s => kvs = putAll (((l.take i).filter t).map g) ∧ s = ⟨wipeD s1.r vs, s1.o ++ [.dct .t kvs]⟩, ⟨rfl, rfl⟩, ?_, ?_, ?_⟩
  · rintro i kvs s ⟨rfl, rfl⟩
    exact ⟨h1 _, by simp, fun v hv d => wipe_none hv d⟩
  · rintro i kvs d s hd ⟨hkv, rfl⟩
    obtain ⟨a, ha, rfl⟩ := map_at hd
    have hm : a ∈ l := List.mem_of_getElem? ha
    have tk : l.take (i + 1) = l.take i ++ [a] := by
      rw [List.take_add_one, ha]
      rfl
    have hil : i < l.length := (List.getElem?_eq_some_iff.mp ha).1
    refine ⟨fun X hX σ τ τv v H R Q hq => (h4 a _ hm).run X hX σ τ τv v H R Q fun s' σ' H' q R' e => hq s' σ' H' ?_ R' e⟩
    obtain ⟨q1, q2, q3⟩ := q
    refine q3.mono fun b s2 q => ?_
    obtain ⟨rfl, rfl, q⟩ := q
    by_cases ht : t a = true
    · rw [if_pos ht]
      refine (q ht).mono fun k s3 q => ?_
      obtain ⟨rfl, rfl, q⟩ := q
      refine q.mono fun e s4 q => ?_
      obtain ⟨rfl, rfl⟩ := q
      have e1 : putAll (((l.take (i + 1)).filter t).map g) = putD kvs (g a).1 (g a).2 := by
        rw [tk, List.filter_append, List.map_append, List.filter_cons_of_pos ht, hkv]
        exact putAll_snoc _ _
      have lz : kvs.length < sizeLine := by
        have z1 := putAll_len (((l.take i).filter t).map g)
        have z2 : (((l.take i).filter t).map g).length ≤ i := by
          rw [List.length_map]
          refine Nat.le_trans (List.length_filter_le _ _) ?_
          rw [List.length_take]
          exact Nat.min_le_left _ _
        rw [hkv]
        omega
      refine ⟨by rw [q2]; simp, h3 a hm, lz, _, .refl, e1.symm, ?_⟩
      rw [q1, q2]
      simp
    · rw [if_neg ht]
      have e1 : putAll (((l.take (i + 1)).filter t).map g) = kvs := by
        rw [tk, List.filter_append, List.map_append, List.filter_cons_of_neg ht, hkv]
        simp
      refine ⟨_, .refl, e1.symm, ?_⟩
      rw [q1, q2]
  · rintro kvs s ⟨rfl, rfl⟩
    rw [List.length_map, List.take_length]
    exact h6
theorem ae_dcl (N0 : List Str) (sc0 : Scope) (ow : List (Str × Nat)) (ok : blkC N0 sc0 scope ow = true) (hlen : ifs.length ≤ 1) (h : AI c tg iter s (DcL c scope kx vx tg ifs (ow.map (·.2)) P))
    (hs : ∀ env y, foldedSetIterable iter env y = pure y := by intro _ _; rfl) (eN : c.N = N0 := by rfl) (eS : c.sc = sc0 := by rfl) : AE c (.DictComp kx vx [⟨tg, iter, ifs, 0⟩] scope pos) s P :=
  ae_dcq N0 sc0 ow ok hlen (.mk fun X hX σ τ τv H R Q hq => h X hX σ τ τv H R Q fun J d v xs Φ s1 H1 h1 R1 ok => hq J d v xs Φ s1 H1 (dcl_dcq h1) R1 ok) hs eN eS
theorem as_dcl {PO' : Out → Prop} {y : Str} {py spos : Pos} {iy : Nat} (N0 : List Str) (sc0 : Scope) (ow : List (Str × Nat)) (hy : c.N[iy]? = some y) (hyl : c.sc.names.lookup y = some .local) (hk : c.sc.kind = .function) (hln : (py.line == pos.line) = true) (ha : (scope.names.any fun (n, k) => n == y && (k == .local || k == .cell)) = false)
    (ok : blkC N0 sc0 scope ow = true) (hlen : ifs.length ≤ 1) (h : AI c tg iter s (DcL c scope kx vx tg ifs (ow.map (·.2)) (fun d s => PO' (.nx ⟨s.r.set iy (some d), s.o⟩))))
    (hs : ∀ env y, foldedSetIterable iter env y = pure y := by intro _ _; rfl) (eN : c.N = N0 := by rfl) (eS : c.sc = sc0 := by rfl) : AS c (.Assign [.Name y py] (.DictComp kx vx [⟨tg, iter, ifs, 0⟩] scope pos) spos) s PO' :=
  as_dcq N0 sc0 ow hy hyl hk hln ha ok hlen (.mk fun X hX σ τ τv H R Q hq => h X hX σ τ τv H R Q fun J d v xs Φ s1 H1 h1 R1 ok => hq J d v xs Φ s1 H1 (dcl_dcq h1) R1 ok) hs eN eS
end
end G9

namespace G9
open PySem PySem.Spec PyProof.Rows L2
variable {c : SC} {s : Sta} {PI' : List D → (Sta → Prop) → Sta → Prop} {tg : Expr} {p pos : Pos}
/-- for x in reversed(xs) -/
theorem ai_rev {e : Expr} (hm : c.mg "reversed" = none) (h : AE c e s fun d s1 => (∃ ds, d = .lst ds ∧ PI' ds.reverse (fun _ => True) s1) ∨ ∃ j ds, d = .ob j ∧ s1.o[j]? = some (.lst ds) ∧ PI' ds.reverse (fun s => s.o[j]? = some (.lst ds)) s1) (hg : IsG c "reversed" := by rfl)
    (hs : ∀ env, starEach [e] env = (false, eval e env) :: starEach [] env := by intro _; rfl) : AI c tg (.Call (.Name "reversed" p) [e] [] pos) s PI' := by
  refine ⟨?_⟩
  intro X hX σ τ τv H R Q hq
  refine WI.of (RT.pi_revA (gl_of hX hg) (by rw [hX.mg]; exact hm) pe_w (hs _)) (h X hX σ τ τv H R _ fun d s1 v H1 h1 R1 => ?_)
  have key : ∀ (ds : List D) (Φ : Sta → Prop), (∀ s, Φ s → RdL s d ds) → Φ s1 → PI' ds.reverse Φ s1 → ∃ (a : Addr) (xs : List V), v = .ref a ∧ ((SqL X.K H1 a xs ∧ Q (Itv X.K a xs.length) H1) ∨ (SqT X.K H1 a xs ∧ Q (RT.ItvT X.K a xs.length) H1)) := fun ds Φ hΦ h0 hP => by
    obtain ⟨a, vs, rfl, q, l, _⟩ := R1.rdl (hΦ _ h0)
    rw [hX.K]
    refine ⟨a, vs, rfl, .inl ⟨q, hq _ d (.ref a) ds.reverse Φ s1 H1 hP R1 ⟨fun i s σ τ τv H hs R hi => ?_, fun s σ τ τv H hs R => ?_⟩⟩⟩
    · have hi : i < ds.length := by simpa using hi
      obtain ⟨a', vs', e1, q', l', R'⟩ := R.rdl (hΦ s hs)
      cases e1
      have hw : vs'[vs.length - 1 - i]? = some vs'[vs.length - 1 - i] := List.getElem?_eq_getElem (by omega)
      refine ⟨⟨by omega, vs', _, q', hw⟩, fun x H' hy => ?_⟩
      obtain ⟨rfl, hx⟩ := hy
      have hx' := hx vs' q'
      have hr : ds.reverse[i]? = ds[ds.length - 1 - i]? := List.getElem?_reverse hi
      have hd : ds[ds.length - 1 - i]? = some ds[ds.length - 1 - i] := List.getElem?_eq_getElem (by omega)
      refine ⟨ds[ds.length - 1 - i], by rw [hr, hd], R'.temps fun F os r => ?_⟩
      obtain ⟨r1, r2⟩ := RpL.split l' r
      obtain ⟨w', h1, h2⟩ := r1.get hd
      rw [show ds.length - 1 - i = vs.length - 1 - i from by omega, hx'] at h1
      cases h1
      exact .cons h2 r2
    · show vs.length ≤ _
      rw [List.length_reverse]
      omega
  rcases h1 with ⟨ds, rfl, hP⟩ | ⟨j, ds, rfl, ho, hP⟩
  · exact key ds _ (fun _ _ => .inl rfl) trivial hP
  · exact key ds _ (fun s hs => .inr ⟨j, rfl, hs⟩) ho hP
theorem swd_false {kx vx : Expr} {gs : List Comprehension} {scope : Scope} {pos py : Pos} {y : Str} {l : Nat} {env : Env} (hy : env.scope.names.lookup y = some .cell) : swapsWith (.DictComp kx vx gs scope pos) (some (.Name y py)) l env = pure false := by
  have e1 : env.kindOf y = some .cell := hy
  unfold swapsWith
  simp only [e1]
  cases env.blockKind <;> rfl
theorem swl_false {kx : Expr} {gs : List Comprehension} {scope : Scope} {pos py : Pos} {y : Str} {l : Nat} {env : Env} (hy : env.scope.names.lookup y = some .cell) : swapsWith (.ListComp kx gs scope pos) (some (.Name y py)) l env = pure false := by
  have e1 : env.kindOf y = some .cell := hy
  unfold swapsWith
  simp only [e1]
  cases env.blockKind <;> rfl
/-- a name that is a cell of the def -/
theorem as_setC {x : Str} {pos' pos : Pos} {e : Expr} {P : Out → Prop} {i : Nat} (hi : c.N[i]? = some x) (h : AE c e s fun d s1 => P (.nx ⟨s1.r.set i (some d), s1.o⟩)) (hs : ∀ env : Env, env.scope = c.sc → swapsWith e (some (.Name x pos')) pos.line env = pure false) (hx : Loc c.sc x := by first | exact Or.inl rfl | exact Or.inr rfl) (hf : c.all = true ∨ c.sc.names.lookup x = some .local := by first | exact .inl rfl | exact .inr rfl) : AS c (.Assign [.Name x pos'] e pos) s P := .mk fun X hX σ τ τv H R E hq =>
  WS.of (ps_set (by rw [hX.N]; exact hX.nd) (by rw [hX.N]; exact hi) (loc_of hX hx) pe_w (hs _ hX.sc) (fn_of' hX hf)) (h X hX σ τ τv H R _ fun d s1 v H1 h1 R1 => hq.nx _ _ _ h1 R1.set)
/-- xs + ys of any lists -/
theorem op_catL {X : Cx} : OpR X (binaryOp .Add) (fun x y H Q => ∃ (l b : Addr) (xs zs : List V), x = .ref l ∧ y = .ref b ∧ SqL X.K H l xs ∧ SqL X.K H b zs ∧ xs.length + zs.length ≤ sizeLine ∧ ∀ p, H p = none → Q (.ref p) (upd H p (.lst (xs ++ zs)))) := by
  intro pins t σ H x y v u Q I rx ry h
  obtain ⟨l, b, xs, zs, rfl, rfl, hl, hb, hz, q⟩ := h
  cases rx
  cases ry
  obtain ⟨i1, r1, ⟨⟨c1, x1, y1, z1⟩, n1, g1, a1, b1, d1⟩, _⟩ := I.list hl
  obtain ⟨i2, r2, ⟨⟨c2, x2, y2, z2⟩, n2, g2, a2, b2, d2⟩, _⟩ := I.list hb
  simp only at a1 b1 d1 a2 b2 d2
  subst a1 b1 d1 a2 b2 d2
  refine concat_meets ⟨_, g1, rfl⟩ ⟨_, g2, rfl⟩ noFill_list_add seq_list_add PySem.F.slot_list_add PySem.F.entry_list_add (PySem.F.args_list_add_2 _ _) (list_addW l b i1.toArray i2.toArray n1 n2 none none z1 z2 (by simpa [← r1.length, ← r2.length] using hz)) ⟨g1, g2, ?_⟩
  have e : i1.toArray ++ i2.toArray = (i1 ++ i2).toArray := by simp
  rw [e]
  exact ⟨.ref _, _, I.lnew (t' := t.toks) (r1.append r2) (by rw [List.length_append]; exact hz), rfl, q _ I.fresh⟩
theorem ae_catL (own : Bool) {a b : Expr} {P : D → Sta → Prop} (h : AE c a s fun d1 s1 => AE c b s1 fun d2 s2 => ∃ xs ys, RdL s2 d1 xs ∧ RdL s2 d2 ys ∧ xs.length + ys.length ≤ sizeLine ∧ NewL own s2 (xs ++ ys) P) : AE c (.BinOp a .Add b pos) s P := by
  refine ae_bin (rV := fun X x y H Q => ∃ (l b : Addr) (xs zs : List V), x = .ref l ∧ y = .ref b ∧ SqL X.K H l xs ∧ SqL X.K H b zs ∧ xs.length + zs.length ≤ sizeLine ∧ ∀ p, H p = none → Q (.ref p) (upd H p (.lst (xs ++ zs)))) (r := fun d1 d2 s2 P => ∃ xs ys, RdL s2 d1 xs ∧ RdL s2 d2 ys ∧ xs.length + ys.length ≤ sizeLine ∧ NewL own s2 (xs ++ ys) P) (fun X _ => op_catL) (fun X hX => ?_) h
  intro σ τ τv H s v1 v2 d1 d2 P Q R h hq
  obtain ⟨xs, ys, h1, h2, hz, h⟩ := h
  obtain ⟨p2, vs2, rfl, e2, l2, R2⟩ := R.rdl h2
  have R3 : Rep c s σ (d1 :: ys ++ τ) (v1 :: vs2 ++ τv) H := R2.temps fun F os r => by
    obtain ⟨r1, r2⟩ := RpL.split l2 r
    cases r2 with
    | cons a r2 =>
      cases r2 with
      | cons b r2 => exact .cons b (r1.append r2)
  obtain ⟨p1, vs1, rfl, e1, l1, R4⟩ := R3.rdl h1
  have R5 : Rep c s σ (xs ++ ys ++ τ) (vs1 ++ vs2 ++ τv) H := R4.temps fun F os r => by
    obtain ⟨r1, r2⟩ := RpL.split l1 r
    cases r2 with
    | cons a r2 =>
      rw [List.append_assoc, List.append_assoc]
      exact r1.append r2
  rw [hX.K]
  refine ⟨p1, p2, vs1, vs2, rfl, rfl, e1, e2, by omega, fun p hp => ?_⟩
  have ln : (vs1 ++ vs2).length = (xs ++ ys).length := by rw [List.length_append, List.length_append, l1, l2]
  exact R5.newL hp (fun F os r => (RpL.split ln r).1) (fun F os r => (RpL.split ln r).2) h hq
/-- an own list is not changed any more: its name keeps what it holds -/
theorem Rep.frzAt {σ : L2.St} {τ : List D} {τv : List V} {H : Hp} {i j : Nat} {ds : List D} (R : Rep c s σ τ τv H) (hi : s.r[i]? = some (some (.ob j))) (ho : s.o[j]? = some (.lst ds)) : Rep c ⟨s.r.set i (some (.lst ds)), s.o.set j .dead⟩ σ τ τv H := by
  obtain ⟨v, hv, R1⟩ := R.slot hi
  have R2 := (R1.freeze ho).set (i := i)
  have e : σ.set i (some v) = σ := by
    obtain ⟨hl, e⟩ := List.getElem?_eq_some_iff.mp hv
    rw [← e]
    exact List.set_getElem_self hl
  rw [e] at R2
  exact R2
theorem ass_frz {st : List Stmt} {P : Out → Prop} (i j : Nat) {ds : List D} (hi : s.r[i]? = some (some (.ob j))) (ho : s.o[j]? = some (.lst ds)) (h : ASs c st ⟨s.r.set i (some (.lst ds)), s.o.set j .dead⟩ P) : ASs c st s P :=
  .mk fun X hX σ τ τv H R E hq => h.run X hX σ τ τv H (R.frzAt hi ho) E hq
end G9

namespace G9
open PySem PySem.Spec PyProof.Rows L2
variable {c : SC}
/-! ### sorted lists of pairs of ints -/
def prI (p : Int × Int) : D := .tup [.int p.1, .int p.2]
def SortedP (l : List (Int × Int)) : Prop := l.Pairwise fun x y => SrtO.lexB y x = false
/-- what a place of a list holds, seen from its value -/
noncomputable def keyAt (xs : List V) (l : List (Int × Int)) (v : V) : Int × Int := by
  classical
  exact l.getD (xs.idxOf v) (0, 0)
theorem cr_sortedPL {X : Cx} : CallR X (.builtin "sorted") (fun vs H Q => ∃ (a : Addr) (xs : List V) (l : List (Int × Int)), vs = [V.ref a] ∧ SqL X.K H a xs ∧ xs.length = l.length ∧ (∀ (i : Nat) (x : V) (p : Int × Int), xs[i]? = some x → l[i]? = some p → ∃ t, x = V.ref t ∧ SqT X.K H t [.int p.1, .int p.2]) ∧
  ∀ (ys : List V) (m : List (Int × Int)) (p : Addr), ys.length = m.length → (∀ (i : Nat) (y : V) (q : Int × Int), ys[i]? = some y → m[i]? = some q → ∃ j : Nat, xs[j]? = some y ∧ l[j]? = some q) → SortedP m → m.Perm l → H p = none → Q (.ref p) (upd H p (.lst ys))) := by
  classical
  intro pins s σ H vs us Q I r h
  obtain ⟨a, xs, l, rfl, hs, hlen, hx, q⟩ := h
  have hkey : ∀ (i : Nat) (x : V) (p : Int × Int), xs[i]? = some x → l[i]? = some p → keyAt xs l x = p := fun i x p h1 h2 => by
    have hm : x ∈ xs := List.mem_of_getElem? h1
    have hi : xs.idxOf x < xs.length := List.idxOf_lt_length_iff.mpr hm
    have e1 : xs[xs.idxOf x]? = some x := by rw [List.getElem?_eq_getElem hi, List.getElem_idxOf]
    have hi2 : xs.idxOf x < l.length := hlen ▸ hi
    have e2 : l[xs.idxOf x]? = some (l[xs.idxOf x]) := List.getElem?_eq_getElem hi2
    obtain ⟨t, rfl, ht⟩ := hx i x p h1 h2
    obtain ⟨t', et, ht'⟩ := hx _ _ _ e1 e2
    cases et
    have e3 := I.tuple_inj ht ht'
    have e4 : keyAt xs l (.ref t) = l.getD (xs.idxOf (.ref t)) (0, 0) := by
      unfold keyAt
      congr
    rw [e4, List.getD, e2]
    show l[xs.idxOf (V.ref t)] = p
    have a1 : (V.int p.1) = V.int (l[xs.idxOf (V.ref t)]).1 := (List.cons.inj e3).1
    have a2 : (V.int p.2) = V.int (l[xs.idxOf (V.ref t)]).2 := (List.cons.inj (List.cons.inj e3).2).1
    injection a1 with b1
    injection a2 with b2
    exact Prod.ext b1.symm b2.symm
  have hmap : xs.map (keyAt xs l) = l := by
    refine List.ext_getElem? fun i => ?_
    rw [List.getElem?_map]
    by_cases hi : i < xs.length
    · have h1 : xs[i]? = some xs[i] := List.getElem?_eq_getElem hi
      have h2 : l[i]? = some (l[i]'(hlen ▸ hi)) := List.getElem?_eq_getElem _
      rw [h1, h2]
      exact congrArg some (hkey i _ _ h1 h2)
    · rw [List.getElem?_eq_none (by omega), List.getElem?_eq_none (by omega)]
      rfl
  refine cr_sortedPS pins s σ H _ us Q I r ⟨a, xs, keyAt xs l, rfl, hs, fun x hm => ?_, fun ys p h1 h2 hp => ?_⟩
  · obtain ⟨i, hi, e⟩ := List.getElem_of_mem hm
    have g1 : xs[i]? = some x := by rw [List.getElem?_eq_getElem hi, e]
    have g2 : l[i]? = some (l[i]'(hlen ▸ hi)) := List.getElem?_eq_getElem _
    rw [hkey i x _ g1 g2]
    exact hx i x _ g1 g2
  · refine q ys (ys.map (keyAt xs l)) p (by rw [List.length_map]) (fun i y z hy hz => ?_) ?_ ?_ hp
    · rw [List.getElem?_map, hy] at hz
      cases hz
      have hm : y ∈ xs := h2.perm.mem_iff.mp (List.mem_of_getElem? hy)
      obtain ⟨j, hj, e⟩ := List.getElem_of_mem hm
      have g1 : xs[j]? = some y := by rw [List.getElem?_eq_getElem hj, e]
      have g2 : l[j]? = some (l[j]'(hlen ▸ hj)) := List.getElem?_eq_getElem _
      exact ⟨j, g1, by rw [g2, hkey j y _ g1 g2]⟩
    · exact List.pairwise_map.mpr h1
    · have := h2.perm.map (keyAt xs l)
      rw [hmap] at this
      exact this
section
variable {s : Sta} {P : D → Sta → Prop} {e : Expr} {p pos : Pos}
theorem ae_sortedP (own : Bool) (hm : c.mg "sorted" = none) (h : AE c e s fun d s1 => ∃ l : List (Int × Int), RdL s1 d (l.map prI) ∧ ∀ m, SortedP m → m.Perm l → NewL own s1 (m.map prI) P) (hg : IsG c "sorted" := by rfl)
    (he : ∀ env, starEach [e] env = (false, eval e env) :: starEach [] env := by intro _; rfl) : AE c (.Call (.Name "sorted" p) [e] [] pos) s P := by
  refine ae_callB (rV := fun X vs H Q => ∃ (a : Addr) (xs : List V) (l : List (Int × Int)), vs = [V.ref a] ∧ SqL X.K H a xs ∧ xs.length = l.length ∧ (∀ (i : Nat) (x : V) (p : Int × Int), xs[i]? = some x → l[i]? = some p → ∃ t, x = V.ref t ∧ SqT X.K H t [.int p.1, .int p.2]) ∧
      ∀ (ys : List V) (m : List (Int × Int)) (p : Addr), ys.length = m.length → (∀ (i : Nat) (y : V) (q : Int × Int), ys[i]? = some y → m[i]? = some q → ∃ j : Nat, xs[j]? = some y ∧ l[j]? = some q) → SortedP m → m.Perm l → H p = none → Q (.ref p) (upd H p (.lst ys)))
    (r := fun ds s P => ∃ d, ds = [d] ∧ ∃ l : List (Int × Int), RdL s d (l.map prI) ∧ ∀ m, SortedP m → m.Perm l → NewL own s (m.map prI) P) (fun X hX => cr_sortedPL) (fun X hX => ?_) hm (by decide +kernel) (aa_one (h.mono fun d s1 h => ⟨d, rfl, h⟩) he) hg (by decide) (by decide) he (fun _ => rfl)
  intro σ τ τv H s vs ds P Q l R h hq
  obtain ⟨d, rfl, l0, hd, h⟩ := h
  obtain ⟨v, rfl⟩ := one_v l
  have R1 : Rep c s σ (d :: τ) (v :: τv) H := R
  obtain ⟨a, xs, rfl, q, ln, R2⟩ := R1.rdl hd
  obtain ⟨F, os, ent, ext, sls, r⟩ := id R2
  have rx := (RpL.split ln r).1
  have at_ : ∀ (i : Nat) (x : V) (p : Int × Int), xs[i]? = some x → l0[i]? = some p → Rp c.K F os x (prI p) := fun i x p h1 h2 => by
    obtain ⟨w, g1, g2⟩ := rx.get (d := prI p) (by rw [List.getElem?_map, h2]; rfl)
    rw [h1] at g1
    cases g1
    exact g2
  rw [hX.K]
  refine ⟨a, xs, l0, rfl, q, by rw [ln, List.length_map], fun i x p h1 h2 => ?_, fun ys m p hl hy hs hp hn => ?_⟩
  · cases at_ i x p h1 h2 with
    | tup g1 g2 =>
      cases g2 with
      | cons a1 g2 =>
        cases g2 with
        | cons a2 g2 =>
          cases g2
          cases a1
          cases a2
          exact ⟨_, rfl, sq_t ent.ex g1⟩
  · have key : ∀ (ys : List V) (m : List (Int × Int)), ys.length = m.length → (∀ (i : Nat) (y : V) (q : Int × Int), ys[i]? = some y → m[i]? = some q → Rp c.K F os y (prI q)) → RpL c.K F os ys (m.map prI) := fun ys => by
      induction ys with
      | nil =>
        intro m hl _
        have : m = [] := List.length_eq_zero_iff.mp hl.symm
        subst this
        exact .nil
      | cons y ys ih =>
        intro m hl hg
        cases m with
        | nil => cases hl
        | cons z m => exact .cons (hg 0 y z rfl rfl) (ih m (Nat.succ.inj hl) fun i y' q h1 h2 => hg (i + 1) y' q h1 h2)
    have ry := key ys m hl fun i y q h1 h2 => by
      obtain ⟨j, g1, g2⟩ := hy i y q h1 h2
      exact at_ j y q g1 g2
    have ln2 : ys.length = (m.map prI).length := by rw [List.length_map, hl]
    have R3 : Rep c s σ (m.map prI ++ τ) (ys ++ τv) H := ⟨F, os, ent, ext, sls, ry.append (RpL.split ln r).2.tail⟩
    exact R3.newL hn (fun F os r => (RpL.split ln2 r).1) (fun F os r => (RpL.split ln2 r).2) (h m hs hp) hq
end
end G9

namespace G9
open PySem PySem.Spec PyProof.Rows L2
variable {c : SC}
/-! ### calls that are handed objects and leave them as they are -/
theorem getD_some {O : List Ob} {i : Nat} {ob : Ob} (h : O[i]? = some ob) : O.getD i .dead = ob := by
  simp [List.getD, h]
theorem putO_same {js : List Nat} {o Ol G : List Ob} (hl : js.length = Ol.length) (h : ∀ (i j : Nat), js[i]? = some j → ∃ ob, Ol[i]? = some ob ∧ o[j]? = some ob ∧ Ob.bnd 0 ob) (hG : ∀ ob ∈ G, Ob.bnd 0 ob) : putO js o (Ol ++ G) = o ++ G := by
  unfold putO
  have e2 : (Ol ++ G).drop js.length = G := by
    rw [hl, List.drop_left]
  have e3 : G.map (Ob.ren (idF js o.length)) = G := by
    refine (List.map_congr_left fun ob hob => Ob.ren_closed (hG ob hob)).trans (List.map_id' G)
  rw [e2, e3]
  congr 1
  refine List.ext_getElem? fun j => ?_
  rw [List.getElem?_map]
  by_cases hj : j < o.length
  · rw [List.getElem?_range hj, Option.map_some]
    split
    · next i q =>
      obtain ⟨hi, e, _⟩ := List.findIdx?_eq_some_iff_getElem.mp q
      have e : js[i] = j := by simpa using e
      have hji : js[i]? = some j := by rw [List.getElem?_eq_getElem hi, e]
      obtain ⟨ob, h1, h2, h3⟩ := h i j hji
      have h4 : (Ol ++ G)[i]? = some ob := by
        rw [List.getElem?_append_left (List.getElem?_eq_some_iff.mp h1).1]
        exact h1
      rw [getD_some h4, Ob.ren_closed h3, h2]
    · rw [List.getElem?_eq_getElem hj]
      simp [List.getD, List.getElem?_eq_getElem hj]
  · rw [List.getElem?_eq_none (by simpa using hj), List.getElem?_eq_none (by omega)]
    rfl
section
variable {s : Sta} {P : D → Sta → Prop} {e : Expr} {es : List Expr} {pos p : Pos} {x : Str}
theorem Ob.bnd_le {a b : Nat} (h : a ≤ b) {ob : Ob} (q : Ob.bnd a ob) : Ob.bnd b ob := by
  cases ob with
  | dead => trivial
  | lst ds => exact D.bndL_le h q
  | dct t ds => exact D.bndL_le h q
  | ext x ds => exact D.bndL_le h q
/-- .. and make a new one -/
theorem ae_occO {kf : Nat} {R : Spec} (js : List Nat) (nd : js.Nodup) (C : CalA c.prog c.w c.K c.mg c.base kf x R) (hk : kf ≤ c.k)
    (h : AA c (e :: es) s fun ds s1 => ∃ (dl : List D) (Ol : List Ob), ds = D.renL (idF js 0) dl ∧ D.bndL js.length dl ∧ js.length = Ol.length ∧ (∀ (i j : Nat), js[i]? = some j → ∃ ob, Ol[i]? = some ob ∧ s1.o[j]? = some ob ∧ Ob.bnd 0 ob) ∧
      R dl Ol fun d O' => ∃ ob2, O' = Ol ++ [ob2] ∧ d = .ob js.length ∧ Ob.bnd 0 ob2 ∧ P (.ob s1.o.length) ⟨s1.r, s1.o ++ [ob2]⟩)
    (hg : IsG c x := by rfl) (hdb : (x == ("__debug__" : Str)) = false := by decide) (he : ∀ env, starEach (e :: es) env = (false, eval e env) :: starEach es env := by intro _; rfl)
    (hpl : ∀ env, (backTo pos (starEach es env)).any (·.1) = false := by intro _; rfl) : AE c (.Call (.Name x p) (e :: es) [] pos) s P := by
  refine ae_callJ js nd C hk (.mk fun X hX σ τ τv H R Q hq => h X hX σ τ τv H R Q fun ds s1 vs H1 ⟨dl, Ol, e1, hb, hl, ho, hR⟩ hlv R1 => hq ds s1 vs H1 ?_ hlv R1) hg hdb he hpl
  refine ⟨dl, Ol, e1, hb, hl, fun i j hj => ?_, C.mono _ _ _ _ (fun d O' ⟨ob2, e2, ed, hb2, q⟩ _ => ?_) hR⟩
  · obtain ⟨ob, h1, h2, h3⟩ := ho i j hj
    exact ⟨ob, h1, by rw [Ob.ren_closed h3]; exact h2, Ob.bnd_le (Nat.zero_le _) h3⟩
  · subst e2 ed
    rw [putO_same hl ho (fun ob hob => by
      simp only [List.mem_singleton] at hob
      subst hob
      exact hb2)]
    have e3 : D.ren (idF js s1.o.length) (.ob js.length) = .ob s1.o.length := by
      unfold D.ren idF
      rw [List.getElem?_eq_none (Nat.le_refl _)]
      simp
    rw [e3]
    exact q
/-- .. and give a plain answer -/
theorem ae_occ {kf : Nat} {R : Spec} (js : List Nat) (nd : js.Nodup) (C : CalA c.prog c.w c.K c.mg c.base kf x R) (hk : kf ≤ c.k)
    (h : AA c (e :: es) s fun ds s1 => ∃ (dl : List D) (Ol : List Ob), ds = D.renL (idF js 0) dl ∧ D.bndL js.length dl ∧ js.length = Ol.length ∧ (∀ (i j : Nat), js[i]? = some j → ∃ ob, Ol[i]? = some ob ∧ s1.o[j]? = some ob ∧ Ob.bnd 0 ob) ∧
      R dl Ol fun d O' => O' = Ol ∧ D.bnd 0 d ∧ P d s1)
    (hg : IsG c x := by rfl) (hdb : (x == ("__debug__" : Str)) = false := by decide) (he : ∀ env, starEach (e :: es) env = (false, eval e env) :: starEach es env := by intro _; rfl)
    (hpl : ∀ env, (backTo pos (starEach es env)).any (·.1) = false := by intro _; rfl) : AE c (.Call (.Name x p) (e :: es) [] pos) s P := by
  refine ae_callJ js nd C hk (.mk fun X hX σ τ τv H R Q hq => h X hX σ τ τv H R Q fun ds s1 vs H1 ⟨dl, Ol, e1, hb, hl, ho, hR⟩ hlv R1 => hq ds s1 vs H1 ?_ hlv R1) hg hdb he hpl
  refine ⟨dl, Ol, e1, hb, hl, fun i j hj => ?_, C.mono _ _ _ _ (fun d O' ⟨e2, hd, q⟩ _ => ?_) hR⟩
  · obtain ⟨ob, h1, h2, h3⟩ := ho i j hj
    exact ⟨ob, h1, by rw [Ob.ren_closed h3]; exact h2, Ob.bnd_le (Nat.zero_le _) h3⟩
  · subst e2
    have e4 := putO_same (G := []) hl ho (fun _ h => by cases h)
    rw [List.append_nil, List.append_nil] at e4
    rw [e4, D.ren_closed hd]
    exact q
end
end G9

namespace G9
open PySem PySem.Spec PyProof.Rows L2
/-! ### list(d.items()) -/
abbrev lsO (ac : Array Value) (n : Nat := 0) : Obj := { cls := .type "list", data := .seq ac n }
/-- what list(view) has made at S: the pairs `as` -/
def LiPost (es : Array DictEntry) (S : Addr) (h0 : Heap) (Y : Heap → Nat → Prop) : Prop :=
  ∀ (h1 : Heap) (tk : Nat) (ac : Array Value) (n : Nat) (as : List Addr), (∀ b u, b ≠ S → h0.get? b = some u → h1.get? b = some u) → h1.get? S = some (lsO ac n) → as.length = es.size → DT.Made es S h1 as → ac.toList = as.map Value.ref → Y h1 tk
section
variable {pr : Program} {wd : World} {B : Around} {er : Value → Shared → Prop} {t : Shared} {v p S : Addr} {en : Array DictEntry} {m : Nat}
theorem li_start {Y : Result → Shared → Prop} (hB : B.handled = none) (hv : t.heap.IsItemsView v p) (hm : DT.Raw t.heap p en m) (n1 : S ≠ v) (n2 : p ≠ S) (hS : t.heap.get? S = some (lsO #[])) (hz : en.size ≤ sizeLine)
    (q : LiPost en S t.heap fun h1 tk => Y (.ok (.ret .none)) { t with heap := h1, toks := tk }) :
    wpAny (model pr wd) B.in1 (Builtin.«list.__init__» ⟨[.ref S, .ref v], []⟩) (fun x t1 => match x with | .done f => Y (.ok f) t1 | .again g => g.quiet = true ∧ codeAny (model pr wd) B g Y t1) (fun e t1 => Y (.error e) t1) t := by
  have g1 := Heap.get?_update_self (Obj.mapSeq fun _ => (#[] : Array Value)) hS rfl
  have g2 : ∀ b u, b ≠ S → t.heap.get? b = some u → (t.heap.update S (Obj.mapSeq fun _ => (#[] : Array Value))).get? b = some u := fun b u hb e => by
    rw [Heap.get?_update_other _ _ (Ne.symm hb)]
    exact e
  obtain ⟨ov, hov, hvv⟩ := hv
  show wpAny _ _ (Builtin.List.listItems (.ref S) >>= fun _ => _) _ _ t
  refine wpAny_bind ?_
  unfold Builtin.List.listItems
  refine wpAny_bind (wpAny_seqItems hS rfl (wpAny_pure (wpAny_bind (wpAny_updateSeq hS rfl (wpAny_bind (wpAny_letGo ?_))))))
  exact DT.extI hB ⟨ov, g2 _ _ (Ne.symm n1) hov, hvv⟩ (hm.at' fun u e => g2 _ _ n2 e) S n1 n2 .none _ g1 (fun h1 tk ac n as k1 k2 k3 k4 k5 => q h1 tk ac n as (fun b u hb e => k1 b u hb (g2 b u hb e)) k2 k3 (k4.low (Nat.le_of_lt (Heap.lt_size g1))) k5) hz
theorem li_call {Y : Value → Shared → Prop} (hB : B.handled = none) (hv : t.heap.IsItemsView v p) (hm : DT.Raw t.heap p en m) (hz : en.size ≤ sizeLine)
    (q : LiPost en t.heap.objs.size t.heap fun h1 tk => Y (.ref t.heap.objs.size) { t with heap := h1, toks := tk }) : wpAny (model pr wd) B (call (.type "list") [.ref v]) Y er t := by
  obtain ⟨ov, hov, hvv⟩ := hv
  have old : ∀ b u, t.heap.get? b = some u → (t.heap.push (lsO #[])).get? b = some u := fun b u e => Heap.get?_push_of_some _ e
  refine callType_codes (Q₁ := fun x t1 => x = .ref t.heap.objs.size ∧ t1 = { t with heap := t.heap.push (lsO #[]) }) F.called_list (F.typeCall_list_1 _) F.entry_list_init (code_list_new _ ⟨rfl, rfl⟩) fun x t1 hx => ?_
  obtain ⟨rfl, rfl⟩ := hx
  have at0 : (t.heap.push (lsO #[])).get? t.heap.objs.size = some (lsO #[]) := Heap.get?_push_size _ rfl
  refine ⟨⟨_, at0, rfl⟩, F.args_list_init_2 _ _, li_start (B := B.in1) hB ⟨ov, old _ _ hov, hvv⟩ (hm.push _) (Nat.ne_of_gt (Heap.lt_size hov)) (Nat.ne_of_lt hm.lt) at0 hz fun h1 tk ac n as k1 k2 k3 k4 k5 => ⟨rfl, ?_⟩⟩
  exact q h1 tk ac n as (fun b u hb e => k1 b u hb (old b u e)) k2 k3 k4 k5
end
end G9
namespace G9
open PySem PySem.Spec PyProof.Rows L2
variable {c : SC}
/-- many new frozen things at once -/
theorem Rep.grow {s : Sta} {σ : L2.St} {τ τ' : List D} {τv τv' : List V} {H H2 : Hp} (R : Rep c s σ τ τv H) (g : ∀ b o, H b = some o → H2 b = some o)
    (h : ∀ F os, RpL c.K F os τv τ → (∀ b, H b = none → F b = H2 b) → RpL c.K F os τv' τ') : Rep c s σ τ' τv' H2 := by
  classical
  obtain ⟨F, os, a, b, e, r⟩ := R
  let F2 : Hp := fun x => if H x = none then H2 x else F x
  have f1 : ∀ {x}, H x = none → F2 x = H2 x := fun {x} q => if_pos q
  have f2 : ∀ {x}, H x ≠ none → F2 x = F x := fun {x} q => if_neg q
  have sF : Same F F2 := fun x u q => by
    rw [f2 (by rw [a.ex x u q]; simp)]
    exact q
  have p0 : ∃ t, os = os ++ t := ⟨[], by simp⟩
  have ge : ∀ {x}, H x ≠ none → H2 x = H x := fun {x} q => by
    cases e1 : H x with
    | none => exact absurd e1 q
    | some o => exact g x o e1
  refine ⟨F2, os, ⟨fun x u q => ?_, a.len, a.nd, fun x hx q => ?_, fun j x ob h1 h2 => ?_, fun j x ob h1 h2 h3 => ?_⟩, ⟨b.ff.trans sF, fun x hx hn => ?_, fun x u hx hn => g _ _ (b.kept x u hx hn), b.pre, b.fresh⟩, e.mono sF p0, h F2 os (r.mono sF p0) fun x q => f1 q⟩
  · by_cases hx : H x = none
    · rw [f1 hx] at q
      exact q
    · rw [f2 hx] at q
      exact g _ _ (a.ex x u q)
  · have hx' := a.al x hx
    rw [ge hx'] at q
    exact hx' q
  · have hx := ge (a.al x (List.mem_of_getElem? h1))
    have q := a.obj j x ob h1 h2
    cases ob with
    | dead => trivial
    | lst ds =>
      obtain ⟨vs, q1, q2⟩ := q
      exact ⟨vs, by rw [hx]; exact q1, q2.mono sF p0⟩
    | dct tb ds =>
      obtain ⟨vs, q1, q2⟩ := q
      exact ⟨vs, q1.at hx, q2.mono sF p0⟩
    | ext x ds =>
      obtain ⟨ho, vs, q1, q0, q2⟩ := q
      exact ⟨ho, vs, by rw [hx]; exact q1, x.mono _ _ _ _ _ sF q0, q2.mono sF p0⟩
  · rw [f2 (a.al x (List.mem_of_getElem? h1))]
    exact a.nf j x ob h1 h2 h3
  · have hH : H x ≠ none := by
      cases e1 : c.H0 x with
      | none => exact absurd e1 hx
      | some o =>
        rw [b.kept x o e1 hn]
        simp
    rw [f2 hH]
    exact b.old x hx hn
section
variable {X : Cx} {pins : List (Addr × Obj)} {σ : L2.St} {H : Hp} {s : Shared} {d : Addr}
theorem rawN {nk : List (NestedKey × Addr × V)} (I : Inv X pins σ H s) (h : H d = some (dN X.w d nk)) :
    (d == sysModules) = false ∧ ∃ es ep, DT.Raw s.heap d es ep ∧ es.size = nk.length ∧ ∀ (i : Nat) (k : NestedKey) (b : Addr) (v : V), nk[i]? = some (k, b, v) → ∃ en, es[i]? = some en ∧ en.key = .ref b ∧ RelV v en.val := by
  obtain ⟨⟨hs, xs, rel, o, es, ep, h1, h2, h3, h4, _⟩, _, _⟩ := (show ObjOk X.prog X.w H s.heap d (dN X.w d nk) from I.hok d _ h)
  refine ⟨hs, es, ep, ⟨o, h1, h2, h3⟩, ?_, fun i k b v e => ?_⟩
  · have l1 := congrArg List.length h4
    have := rel.len
    simp at l1
    omega
  · obtain ⟨y, hy, e1, e2, e3⟩ := L2.paired_get rel e
    refine ⟨⟨NestedKey.hash X.w y.1, .ref y.2.1, y.2.2⟩, ?_, ?_, ?_⟩
    · rw [← Array.getElem?_toList, h4, List.getElem?_map, hy]
      rfl
    · show Value.ref y.2.1 = _
      rw [← e2]
    · exact e3
/-- list(d.items()): the list and its pairs, tracked -/
theorem li_tracked {nk : List (NestedKey × Addr × V)} {r : Addr} {Q : Value → Shared → Prop} (I : Inv X pins σ H s) (hh : X.A.handled = none) (hN : H d = some (dN X.w d nk)) (hz : nk.length ≤ sizeLine) (hv : s.heap.IsItemsView r d)
    (q : ∀ (S : Addr) (as : List Addr) (H2 : Hp) (s2 : Shared), Inv X pins σ H2 s2 → (∀ b o, H b = some o → H2 b = some o) → H S = none → H2 S = some (.lst (as.map V.ref)) → as.length = nk.length →
      (∀ (j : Nat) (a : Addr) (k : NestedKey) (b : Addr) (v : V), as[j]? = some a → nk[j]? = some (k, b, v) → H a = none ∧ H2 a = some (.tup [.ref b, v])) → Q (.ref S) s2) : wpAny (model X.prog X.w) X.A (call (.type "list") [.ref r]) Q X.xe s := by
  obtain ⟨hs, es, ep, raw, hsz, ent⟩ := rawN I hN
  refine li_call hh hv raw (by omega) fun h' tk acc cc as kp0 hS hl hG hacc => ?_
  have kp : ∀ b u, s.heap.get? b = some u → h'.get? b = some u := fun b u e => kp0 b u (Nat.ne_of_lt (Heap.lt_size e)) e
  have I1 : Inv X pins σ H { s with heap := h', toks := tk } := I.kept (t' := tk) kp
  have nd : as.Nodup := hG.rise.imp fun h => Nat.ne_of_lt h
  have ne : ∀ a ∈ as, a ≠ s.heap.objs.size := fun a ha => Nat.ne_of_gt (hG.above a ha)
  have nn : ∀ {a}, s.heap.objs.size ≤ a → H a = none := fun q => I.hok.fresh q
  have I2 : Inv X pins σ (upd H s.heap.objs.size (.lst (as.map V.ref))) { s with heap := h', toks := tk } := by
    refine I1.take (h' := h') (t' := tk) (fun b ob _ e => e) (I.fpOk (Nat.le_refl _) (nn (Nat.le_refl _))) ⟨by rw [List.length_map, hl]; omega, acc.toList, cc, ?_, by rw [Array.toArray_toList]; exact hS⟩
    rw [hacc]
    exact vals_maps V.ref Value.ref as fun _ _ => rfl
  obtain ⟨H2, I3, g, qt⟩ := L2.DX.takeT (P := fun a vs => ∀ (j : Nat) (k : NestedKey) (b : Addr) (v : V), as[j]? = some a → nk[j]? = some (k, b, v) → vs = [.ref b, v]) I as _ I2 nd fun a ha => by
    obtain ⟨j, hj⟩ := List.mem_iff_getElem?.mp ha
    obtain ⟨e, he, hg⟩ := hG.pairs j a hj
    have hle : s.heap.objs.size ≤ a := Nat.le_of_lt (hG.above a ha)
    have hjn : j < nk.length := by
      rw [← hsz]
      exact (Array.getElem?_eq_some_iff.mp he).1
    obtain ⟨en, hen, hk, hv⟩ := ent j _ _ _ (List.getElem?_eq_getElem hjn)
    rw [he] at hen
    cases hen
    refine ⟨hle, ?_, [.ref nk[j].2.1, nk[j].2.2], fun i k b v h1 h2 => ?_, fun H3 => ⟨(by rw [sizeLine_eq]; show 2 ≤ 16777216; omega), [e.key, e.val], .cons (show e.key = Value.ref _ from hk) (.cons hv .nil), ⟨_, hg, rfl, 0, rfl⟩⟩⟩
    · rw [upd_ne (ne a ha)]
      exact nn hle
    · have eij : j = i := (List.getElem?_inj (List.getElem?_eq_some_iff.mp hj).1 nd).mp (hj.trans h1.symm)
      subst eij
      have h3 := (List.getElem?_eq_getElem hjn).symm.trans h2
      have h4 : nk[j] = (k, b, v) := Option.some.inj h3
      rw [h4]
  refine q s.heap.objs.size as H2 _ I3 (fun b o e => g b o ?_) (nn (Nat.le_refl _)) (g _ _ upd_same) (by omega) fun j a k b v h1 h2 => ?_
  · rw [upd_ne (ne_of_none e (nn (Nat.le_refl _)))]
    exact e
  · have ha := List.mem_of_getElem? h1
    obtain ⟨vs, hP, hH⟩ := qt a ha
    rw [hP j k b v h1 h2] at hH
    exact ⟨nn (Nat.le_of_lt (hG.above a ha)), hH⟩
end
theorem RpL.pairs {K : PySem.W.Frag} {F : Hp} {os : List Addr} : ∀ {as : List Addr} {nk : List (NestedKey × Addr × V)} {kvs : List (D × D)}, as.length = nk.length → NKV K F os nk kvs → (∀ (j : Nat) (a : Addr) (k : NestedKey) (b : Addr) (v : V), as[j]? = some a → nk[j]? = some (k, b, v) → F a = some (.tup [.ref b, v])) →
    RpL K F os (as.map V.ref) (kvs.map fun q => .tup [q.1, q.2]) := by
  intro as nk kvs hl h q
  induction h generalizing as with
  | nil =>
    cases as with
    | nil => exact .nil
    | cons a as => cases hl
  | @cons k b v d e nk kvs h1 h2 h3 _ ih =>
    cases as with
    | nil => cases hl
    | cons a as =>
      refine .cons (.tup (.inl (.inl (q 0 a k b v rfl rfl))) (.cons h1 (.cons h3 .nil))) (ih (by simpa using hl) fun j a' k' b' v' e1 e2 => q (j + 1) a' k' b' v' (by simpa using e1) (by simpa using e2))
variable {s : Sta} {P : D → Sta → Prop} {a : Expr} {apos cpos pos p : Pos}
/-- list(d.items()), d with tuple keys -/
theorem ae_listItems (hm : c.mg "list" = none) (h : AE c a s fun d s1 => ∃ j kvs, d = .ob j ∧ s1.o[j]? = some (.dct .t kvs) ∧ P (.lst (kvs.map fun q => .tup [q.1, q.2])) s1) (hg : IsG c "list" := by rfl)
    (hbase : ∀ env, attributeBase a "items" env (eval a env) = eval a env := by intro _; rfl) (hline : (apos.endLine == cpos.line) = true := by rfl) : AE c (.Call (.Name "list" p) [.Call (.Attribute a "items" apos) [] [] cpos] [] pos) s P := by
  refine ⟨?_⟩
  intro X hX σ τ τv H R Q hq pins t I
  refine Call_ (L2.ld_blt I (gl_of hX hg) (by rw [hX.mg]; exact hm) boot_list (PyProof.Rows.callWith_type1 (args_cons (PySem.wpAny_Call_method (T := "dict") (id := "dict.items") (hbase _) rfl hline F.plainAttrs_dict F.slot_dict_items F.type_dict_items (L2.thn (h.run X hX σ τ τv H R (fun v H1 => ∃ d s1, Rep c s1 σ (d :: τ) (v :: τv) H1 ∧ ∃ j kvs, d = .ob j ∧ s1.o[j]? = some (.dct .t kvs) ∧ P (.lst (kvs.map fun q => .tup [q.1, q.2])) s1) (fun d s1 v H1 h1 R1 => ⟨d, s1, R1, h1⟩) pins t I) fun u1 t1 ⟨v1, H1, I1, r1, d, s1, R1, j, kvs, e1, ho, hP⟩ => ?_)) rfl) rfl))
  subst e1
  obtain ⟨p, F9, os, rfl, eF, hob, r, mk⟩ := R1.objR ho
  obtain ⟨nk, hN, hz, hkv, _⟩ := dct_iff.mp hob
  cases r1
  rw [← hX.w] at hN
  obtain ⟨hs, es, ep, raw, hsz, ent⟩ := rawN I1 hN
  refine ⟨raw.typeIs, (fun a e => by obtain ⟨od, hgd, hx, _⟩ := raw; cases e; exact ⟨od, hgd, hx.2.1⟩), ?_⟩
  have I2 : Inv X pins σ H1 { t1 with heap := t1.heap.push { cls := .type "dict_items", data := .fields #[.ref p] } } := I1.kept (t' := t1.toks) fun b ob q => Heap.get?_push_of_some _ q
  show wpAny _ _ (callWith cpos (.builtin "dict.items") [.ref p] [] []) _ X.xe t1
  refine method_meetsIn F.slot_dict_items F.entry_dict_items rfl (PySem.evalArgs_none ⟨rfl, raw.typeIs, F.args_dict_items_1 _, _, meets_dict_items_raw p hs, ⟨es, ep, raw⟩, args_nil ?_⟩)
  refine li_tracked (d := p) I2 (I2.ok.hd hX.calm) hN hz ⟨_, Heap.get?_push_size _ rfl, rfl, rfl⟩ fun S as H2 s2 I3 g hS0 hS hl qt => ⟨.ref S, H2, I3, rfl, hq _ s1 _ _ hP ?_⟩
  have ln : (nk.map fun q => V.ref q.2.1).length = (kvs.map (·.1)).length := by rw [List.length_map, List.length_map, hkv.len]
  have ln2 : (nk.map fun q => q.2.2).length = (kvs.map (·.2)).length := by rw [List.length_map, List.length_map, hkv.len]
  have R2 : Rep c s1 σ (kvs.map (·.1) ++ (kvs.map (·.2) ++ τ)) ((nk.map fun q => V.ref q.2.1) ++ ((nk.map fun q => q.2.2) ++ τv)) H1 := mk _ _ (hkv.rk.append (hkv.rv.append r.tail))
  refine R2.grow g fun F os r hF => ?_
  obtain ⟨r1, r2⟩ := RpL.split ln r
  obtain ⟨r2, r3⟩ := RpL.split ln2 r2
  exact .cons (.lst (.inl (.inl ((hF _ hS0).trans hS))) (RpL.pairs hl (nkv_mk hkv.keys r1 r2) fun j a k b v h1 h2 => (hF _ (qt j a k b v h1 h2).1).trans (qt j a k b v h1 h2).2)) r3
end G9

namespace G9
open PySem PySem.Spec PyProof.Rows L2
/-! ### len(d) of a dict with tuple keys -/
theorem len_raw {pr : Program} {wd : World} {B : Around} {er : Value → Shared → Prop} {t : Shared} {p : Addr} {en : Array DictEntry} {m : Nat} {Y : Value → Shared → Prop} (hs : (p == sysModules) = false) (hm : t.heap.DictRaw p en m) (hz : en.size ≤ sizeLine)
    (q : Y (.int en.size (t.toks + 1)) { t with toks := t.toks + 2 }) : wpAny (model pr wd) B (call (.builtin "len") [.ref p]) Y er t := by
  have sl : sizeLine = 16777216 := sizeLine_eq
  apply Calls.call_function_entry kind_len plain_len entry_len (args_len1 _)
  unfold Builtin.«len»
  refine wpAny_bind (m := oneArg "len" _) (wpAny_pure (wpAny_bind (m := callSpecial? (.ref p) (Str.ofString "__len__")) (wpAny_callSpecial?_slot (name := Str.ofString "__len__") hm.typeIs F.slot_dict_len
    (call_meetsIn F.slot_dict_len hm.typeIs F.entry_dict_len (F.args_dict_len_1 _) (meets_dict_len_raw p hs) ⟨en, m, hm, ?_⟩))))
  show wpAny _ _ _ _ _ { t with toks := t.toks + 1 }
  refine wpAny_bind (wpAny_holding (wpAny_pure (wpAny_bind (wpAny_letGo ?_))))
  show wpAny _ _ (if ((en.size : Nat) : Int) < 0 then _ else _) _ _ _
  rw [if_neg (by omega)]
  show wpAny _ _ (if ((en.size : Nat) : Int) ≥ 2 ^ 63 then _ else _) _ _ _
  rw [if_neg (by omega)]
  exact wpAny_bind (wpAny_mkInt (wpAny_pure ⟨_, rfl, q⟩))
theorem call_len_dN {X : Cx} : CallR X (.builtin "len") (fun xs H Q => ∃ d nk, xs = [V.ref d] ∧ H d = some (dN X.w d nk) ∧ nk.length ≤ sizeLine ∧ Q (.int (nk.length : Nat)) H) := by
  intro pins s σ H xs us Y I r h
  obtain ⟨d, nk, rfl, hd, hz, q⟩ := h
  obtain ⟨u, rfl, rx⟩ := r.one
  cases rx
  obtain ⟨hs, es, ep, raw, hsz, _⟩ := rawN I hd
  refine len_raw hs (show s.heap.DictRaw d es ep from raw) (by omega) ?_
  rw [hsz]
  exact ⟨.int (nk.length : Nat), H, I.tok _, ⟨_, rfl⟩, q⟩
variable {c : SC} {s : Sta} {P : D → Sta → Prop} {e : Expr} {pos p : Pos}
theorem ae_lenD (hm : c.mg "len" = none) (h : AE c e s fun d s1 => ∃ j kvs, d = .ob j ∧ s1.o[j]? = some (.dct .t kvs) ∧ P (.int (kvs.length : Nat)) s1) (hg : IsG c "len" := by rfl)
    (he : ∀ env, starEach [e] env = (false, eval e env) :: starEach [] env := by intro _; rfl) : AE c (.Call (.Name "len" p) [e] [] pos) s P := by
  refine ae_callB (rV := fun X xs H Q => ∃ d nk, xs = [V.ref d] ∧ H d = some (dN X.w d nk) ∧ nk.length ≤ sizeLine ∧ Q (.int (nk.length : Nat)) H) (r := fun ds s P => ∃ d, ds = [d] ∧ ∃ j kvs, d = .ob j ∧ s.o[j]? = some (.dct .t kvs) ∧ P (.int (kvs.length : Nat)) s)
    (fun X hX => call_len_dN) (fun X hX => ?_) hm boot_len (aa_one (h.mono fun d s1 h => ⟨d, rfl, h⟩) he) hg (by decide) (by decide) he (fun _ => rfl)
  intro σ τ τv H s vs ds P Q l R h hq
  obtain ⟨d, rfl, j, kvs, rfl, ho, h⟩ := h
  obtain ⟨v, rfl⟩ := one_v l
  have R1 : Rep c s σ (.ob j :: τ) (v :: τv) H := R
  obtain ⟨a, F, os, rfl, eF, hob, r, mk⟩ := R1.objR ho
  obtain ⟨nk, hN, hz, hkv, _⟩ := dct_iff.mp hob
  refine ⟨a, nk, rfl, by rw [hX.w]; exact hN, hz, ?_⟩
  rw [hkv.len]
  exact hq _ _ _ _ h (R1.pop.push fun _ _ => .int _)
end G9

namespace G9
open PySem PySem.Spec PyProof.Rows L2
variable {c : SC}
/-! ### > of data -/
def rGtD (K : PySem.W.Frag) : R2 := fun x y H Q => ∃ d e, Dp K H x d ∧ Dp K H y e ∧ PySem.W.alike d e = true ∧ d ≠ .none ∧ d.depth ≤ 64 ∧ Q (.bl (PySem.W.dataLt e d)) H
theorem op_gtD {X : Cx} (hu : X.A.units + 64 < cLine) : OpR X (compareOp .Gt) (rGtD X.K) := by
  intro pins s σ H x y v u Q I rx ry h
  obtain ⟨d, e, hd, he, ha, hn, hz, q⟩ := h
  obtain ⟨as, r1⟩ := Dp.reads I d x v hd rx
  obtain ⟨bs, r2⟩ := Dp.reads I e y u he ry
  have hm : X.A.units + min d.depth e.depth < cLine := by
    have := Nat.min_le_left d.depth e.depth
    omega
  exact PySem.W.rcGt_alike d e X.A s v u as bs r1 r2 ha hn hm X.prog X.w _ _ ⟨.bl _, H, I, rfl, q⟩
section
variable {s : Sta} {P : D → Sta → Prop} {a b : Expr}
theorem ac_gtD (h : AE c a s fun d1 s1 => AE c b s1 fun d2 s2 => ∃ p q, pyD d1 = some p ∧ pyD d2 = some q ∧ PySem.W.alike p q = true ∧ p ≠ .none ∧ p.depth ≤ 64 ∧ P (.bl (PySem.W.dataLt q p)) s2) : AC c .Gt a b s P := by
  refine ac_op (r := fun d1 d2 s P => ∃ p q, pyD d1 = some p ∧ pyD d2 = some q ∧ PySem.W.alike p q = true ∧ p ≠ .none ∧ p.depth ≤ 64 ∧ P (.bl (PySem.W.dataLt q p)) s) (fun X hX => op_gtD hX.room.units) (fun X hX => ?_) h
  intro σ τ τv H s v1 v2 d1 d2 P Q R h hq
  obtain ⟨p, q, h1, h2, ha, hn, hz, h⟩ := h
  obtain ⟨e1, e2⟩ := R.dp2 h1 h2
  exact ⟨p, q, hX.K ▸ e1, hX.K ▸ e2, ha, hn, hz, hq _ _ _ _ h (R.pop.pop.push fun _ _ => .bl _)⟩
end
end G9

namespace G9
open PySem PySem.Spec PyProof.Rows L2
variable {c : SC}
/-! ### extend by any list -/
theorem ext_any (l b : Addr) (xs ys : Array Value) (n m : Nat) (sl : Array (Option Value)) (h0 : ¬(!xs.isEmpty && Builtin.List.listTooLong (xs.size + ys.size)) = true) (h1 : xs.size ≤ sizeLine) (h2 : xs.size + ys.size ≤ sizeLine + 1) :
    Meets (Builtin.«list.extend» ⟨[.ref l, .ref b], []⟩) (fun _ R s => s.heap.get? l = some ⟨.type "list", none, .seq xs n, #[]⟩ ∧
      s.heap.get? b = some ⟨.type "list", none, .seq ys m, sl⟩ ∧ R (.ok (.ret Value.none)) { s with heap := s.heap.update l (Obj.mapSeq fun x => x ++ ys), toks := s.toks }) :=
  .of_wp fun prog w A R s h => by
    obtain ⟨hp, g, d, tk, os⟩ := s
    obtain ⟨hl, hb, h⟩ := h
    have f1 := AutoSeq1.idx_int
    have f2 := AutoSeq1.sub_tuple_tuple
    have f3 := AutoSeq1.sub_list_list
    have f4 := AutoSeq1.sub_tuple_list
    have f5 := AutoSeq1.sub_list_tuple
    have hz' : (xs ++ ys).size ≤ sizeLine + 1 := by rw [Array.size_append]; exact h2
    wp_walk using (wpAny_updateSeq hl rfl (hz := h1) (_hz' := hz')), wpAny_loadPart' hl, wpAny_loadPart' hb
    exact ⟨_, rfl, h⟩
def rExtL (K : PySem.W.Frag) : V → List V → Hp → VK → Prop := fun x vs H Q => ∃ l b xs zs, x = .ref l ∧ vs = [.ref b] ∧ H l = some (.lst xs) ∧ SqL K H b zs ∧ xs.length + zs.length ≤ sizeLine ∧ Q .non (upd H l (.lst (xs ++ zs)))
theorem mt_extL {X : Cx} : MtM X "list.extend" (rExtL X.K) := by
  intro pins s σ H x vs v us Q I rx rv h
  obtain ⟨l, b, xs, zs, rfl, rfl, hH, hB, hz, q⟩ := h
  cases rx
  obtain ⟨u, rfl, ru⟩ := rv.one
  cases ru
  obtain ⟨z, its, n, r, hl, e⟩ := I.lstM hH
  obtain ⟨i2, r2, ⟨⟨c2, x2, y2, z2⟩, n2, g2, a2, b2, d2⟩, _⟩ := I.list hB
  simp only at a2 b2 d2
  subst a2 b2 d2
  have l2 := r2.length
  have hsz : its.toArray.size + i2.toArray.size ≤ sizeLine := by
    rw [List.size_toArray, List.size_toArray]
    omega
  have hlong : ¬ (!its.toArray.isEmpty && Builtin.List.listTooLong (its.toArray.size + i2.toArray.size)) = true := by
    rw [notLongL hsz, Bool.and_false]
    exact Bool.false_ne_true
  refine call_meets F.slot_list_extend ⟨_, e, rfl⟩ F.entry_list_extend (F.args_list_extend_2 _ _)
    (ext_any l b its.toArray i2.toArray n n2 z2 hlong (by rw [List.size_toArray]; omega) (by omega)) ⟨e, g2, ?_⟩
  refine ⟨.non, _, I.lset (its' := its ++ i2) hH e (by simp) (r.append r2) ?_, rfl, q⟩
  rw [List.length_append]
  omega
section
variable {s : Sta} {P : D → Sta → Prop} {e o : Expr} {apos cpos : Pos}
/-- xs.extend(ys), ys any list -/
theorem ae_extL (h : AE c o s fun d s1 => (∃ j ds, d = .ob j ∧ s1.o[j]? = some (.lst ds)) ∧ AE c e s1 fun y s2 => ∃ j ds es, d = .ob j ∧ RdL s2 y es ∧ s2.o[j]? = some (.lst ds) ∧ ds.length + es.length ≤ sizeLine ∧ P .non ⟨s2.r, s2.o.set j (.lst (ds ++ es))⟩)
    (hbase : ∀ env, attributeBase o "extend" env (eval o env) = eval o env := by intro _; rfl) (hline : (apos.endLine == cpos.line) = true := by rfl) (hs : ∀ env, starEach [e] env = (false, eval e env) :: starEach [] env := by intro _; rfl)
    (hfew : ∀ env, ((backTo cpos (starEach [e] env)).all (fun x => !x.1) && (backToKw cpos (keywordEach [] env)).all (fun x => x.1.isSome)
      && decide ([e].length + ([] : List Keyword).length + (if ([] : List Keyword).isEmpty then 0 else 1) < 30)) = true := by intro _; rfl) : AE c (.Call (.Attribute o "extend" apos) [e] [] cpos) s P := by
  refine ae_bm (rV := fun X => rExtL X.K) PySem.F.plainAttrs_list PySem.F.slot_list_extend PySem.F.type_list_extend (r := fun d ds s P => ∃ y, ds = [y] ∧ ∃ j ds es, d = .ob j ∧ RdL s y es ∧ s.o[j]? = some (.lst ds) ∧ ds.length + es.length ≤ sizeLine ∧ P .non ⟨s.r, s.o.set j (.lst (ds ++ es))⟩) (fun X hX => mt_extL) (fun X hX => ?_)
    (h.mono fun d s1 ⟨⟨j, ds, h1, h2⟩, h3⟩ => ⟨by subst h1; exact tyM_o h2, aa_one (h3.mono fun y s2 h => ⟨y, rfl, h⟩) hs⟩) hbase hfew hline hs (fun _ => rfl)
  intro σ τ τv H s v vs d ds P Q l R h hq
  obtain ⟨y, rfl, j, es, fs, rfl, hy, ho, hz, h⟩ := h
  obtain ⟨w, rfl⟩ := one_v l
  have R1 : Rep c s σ (y :: .ob j :: τ) (w :: v :: τv) H := R
  obtain ⟨p2, ws2, rfl, e2, l2, R2⟩ := R1.rdl hy
  have R3 : Rep c s σ (.ob j :: (fs ++ τ)) (v :: (ws2 ++ τv)) H := R2.temps fun F os r => by
    obtain ⟨r1, r2⟩ := RpL.split l2 r
    cases r2 with
    | cons a r2 =>
      cases r2 with
      | cons b r2 => exact .cons b (r1.append r2)
  obtain ⟨p, ws, rfl, hp, _⟩ := R3.obj ho
  have l1 : ws.length = es.length := by
    obtain ⟨F, os, a, b, e, r⟩ := R3
    cases r with
    | cons q r =>
      cases id q with
      | ob q0 =>
        obtain ⟨us, u1, u2⟩ := a.obj j _ _ q0 ho
        rw [hp] at u1
        cases u1
        exact u2.length
  rw [hX.K]
  refine ⟨p, p2, ws, ws2, rfl, rfl, hp, e2, by omega, hq _ _ _ _ h ?_⟩
  have R4 := R3.mut (ds' := es ++ fs) (vs := ws ++ ws2) ho fun F os ws' r1 e1 r2 => by
    rw [hp] at e1
    cases e1
    exact r1.append (RpL.split l2 r2).1
  exact (R4.pop.pops l2).push fun _ _ => .non
end
end G9

namespace G9
open PySem PySem.Spec PyProof.Rows L2
section
variable {c : SC} {s : Sta} {PI' : List D → (Sta → Prop) → Sta → Prop} {tg iter : Expr}
/-- for k in e, e a dict that is not locked before: it stays locked -/
theorem ai_dkeysF (h : AE c iter s fun d s1 => ∃ j kvs, d = .ob j ∧ s1.o[j]? = some (.dct .t kvs) ∧ ∀ u, PI' (kvs.map (·.1)) (fun s => s.o[j]? = some (.dct (.l u) kvs)) ⟨s1.r, s1.o.set j (.dct (.l u) kvs)⟩) : AI c tg iter s PI' := by
  refine ⟨?_⟩
  intro X hX σ τ τv H R Q hq pins t I
  refine L2.thn (h X hX σ τ τv H R (fun v H1 => ∃ d s1, Rep c s1 σ (d :: τ) (v :: τv) H1 ∧ ∃ j kvs, d = .ob j ∧ s1.o[j]? = some (.dct .t kvs) ∧ ∀ u, PI' (kvs.map (·.1)) (fun s => s.o[j]? = some (.dct (.l u) kvs)) ⟨s1.r, s1.o.set j (.dct (.l u) kvs)⟩)
    (fun d s1 v H1 h1 R1 => ⟨d, s1, R1, h1⟩) pins t I) fun u1 t1 ⟨v1, H1, I1, r1, d, s1, R1, j, kvs, e1, ho, hP⟩ => ?_
  subst e1
  obtain ⟨p9, u9, od9, hN9, mu9, I2, R2, back⟩ := lk_in hX R1 I1 ho
  have hP := hP (.frz od9 u9)
  have R3 := R2.pop
  have ho3 : (s1.o.set j (Ob.dct (.l (.frz od9 u9)) kvs))[j]? = some (.dct (.l (.frz od9 u9)) kvs) := List.getElem?_set_self (List.getElem?_eq_some_iff.mp ho).1
  obtain ⟨p, F9, os, e2, eF, hob, r, mk⟩ := R3.objR ho3
  subst e2
  obtain ⟨od, nk, hu, hN, _, hkv, _⟩ := lck_iff.mp hob
  cases r1
  have hN' : upd H1 p9 (HO.frz od9 u9) p = some (.frz od (dN X.w p nk)) := by rw [hN, hu, hX.w]
  obtain ⟨hs, es, ep, hgd, hx, hdt, hsz, ent⟩ := frzN I2 hN'
  have q := hq _ _ _ _ _ _ _ hP R3 (it_nK (kvs := kvs) hu)
  rw [← hX.w, ← hkv.len, ← hsz] at q
  exact iter_keys hs hgd hx hdt (L2.pi_one (tk := t1.toks) I2 _ (turn_nK _ hdt) ⟨_, Heap.get?_push_size _ rfl, rfl, rfl⟩ q)
end
end G9

namespace G9
open PySem PySem.Spec PyProof.Rows L2
section
variable {X : Cx} {pins : List (Addr × Obj)} {σ : L2.St} {H : Hp} {s : Shared} {p : Addr} {o : Obj}
theorem dn_ofL (I : Inv X pins σ H s) {nk : List (NestedKey × Addr × V)} {F : Hp} {os : List Addr} {kvs : List (D × D)} (e : H p = some (.frz o (dN X.w p nk))) (eF : Same F H) (hk : NKV X.K F os nk kvs) (h8 : ∀ q ∈ nk, q.1.depth ≤ 8) : (p == sysModules) = false ∧ ∃ xs, KN nk xs ∧ s.heap.DictOfH (nestedKind X.prog X.w) p xs := by
  obtain ⟨_, x⟩ := I.hok p _ e
  obtain ⟨⟨hd, xs, rel, o', es, ep, h1, h2, h3, h4, h5⟩, _, _⟩ := (show ObjOk X.prog X.w H s.heap p (dN X.w p nk) from x)
  refine ⟨hd, xs, rel, o', es, ep, h1, h2, h3, h4, fun x hx => ?_, h5⟩
  obtain ⟨q, hq, e1, e2⟩ := rel.mem x hx
  have all : ∀ {nk : List (NestedKey × Addr × V)} {kvs : List (D × D)}, NKV X.K F os nk kvs → ∀ q ∈ nk, NestedIs s.heap q.1 (.ref q.2.1) := fun h => by
    induction h with
    | nil =>
      intro q hq
      cases hq
    | cons a1 a2 a3 _ ih =>
      intro q hq
      rcases List.mem_cons.mp hq with rfl | hq
      · exact Rp.nk I eF a1 a2 rfl
      · exact ih q hq
  rw [← e1, ← e2]
  exact ⟨all hk q hq, h8 q hq⟩
end
variable {c : SC}
section
variable {s : Sta} {P : D → Sta → Prop} {a b : Expr}
/-- k in d, d locked -/
theorem ac_isInKL (h : AE c a s fun d1 s1 => AE c b s1 fun d2 s2 => ∃ j u kvs, d2 = .ob j ∧ s2.o[j]? = some (.dct (.l u) kvs) ∧ KeyD d1 ∧ P (.bl (getK kvs d1).isSome) s2) : AC c .In a b s P := by
  refine ⟨?_⟩
  intro X hX σ τ τv H R Q hq pins t I
  refine L2.thn (h X hX σ τ τv H R (fun v1 H1 => ∃ d1 s1, Rep c s1 σ (d1 :: τ) (v1 :: τv) H1 ∧ AE c b s1 fun d2 s2 => ∃ j u kvs, d2 = .ob j ∧ s2.o[j]? = some (.dct (.l u) kvs) ∧ KeyD d1 ∧ P (.bl (getK kvs d1).isSome) s2) (fun d1 s1 v1 H1 h1 R1 => ⟨d1, s1, R1, h1⟩) pins t I) fun u1 t1 ⟨v1, H1, I1, r1, d1, s1, R1, h1⟩ => ?_
  refine L2.thn (h1 X hX σ _ _ H1 R1 (fun v2 H2 => ∃ d2 s2, Rep c s2 σ (d2 :: d1 :: τ) (v2 :: v1 :: τv) H2 ∧ ∃ j u kvs, d2 = .ob j ∧ s2.o[j]? = some (.dct (.l u) kvs) ∧ KeyD d1 ∧ P (.bl (getK kvs d1).isSome) s2) (fun d2 s2 v2 H2 h2 R2 => ⟨d2, s2, R2, h2⟩) pins t1 I1) fun u2 t2 ⟨v2, H2, I2, r2, d2, s2, R2, j, u, kvs, e2, ho, ⟨k, hk, h8⟩, hp⟩ => ?_
  subst e2
  obtain ⟨p, F, os, rfl, eF, hob, r, mk⟩ := R2.objR ho
  obtain ⟨od, nk, hu, hN, hz, hkv, hd8⟩ := lck_iff.mp hob
  have hN' : H2 p = some (.frz od (dN X.w p nk)) := by rw [hN, hu, hX.w]
  rw [← hX.K] at hkv r
  obtain ⟨hsm, xs, rel, dd⟩ := dn_ofL I2 hN' eF hkv hd8
  cases r2
  obtain ⟨bb, rfl⟩ := R2.pop.key hk
  cases r1
  cases r with
  | cons _ r =>
    cases r with
    | cons rk _ =>
      have key : (nestedKind X.prog X.w).is t2.heap (.tup k) bb := ⟨Rp.nk I2 eF rk hk rfl, h8⟩
      have es : (atKey xs (.tup k)).isSome = (getK kvs d1).isSome := by
        have h1 := (rel.val (.tup k)).isSome_eq
        rw [Option.isSome_map] at h1
        rw [← h1]
        rcases hkv.get hk with ⟨e1, e2⟩ | ⟨_, _, e1, e2, _⟩
        · rw [e1, e2]
          rfl
        · rw [e1, e2]
          rfl
      refine wpAny_in_heap (room_nk1 hX.room) key hsm dd ?_
      rw [es]
      exact ⟨.bl _, H2, I2.tok _, rfl, hq _ _ _ _ hp (R2.pop.pop.push fun _ _ => .bl _)⟩
end
end G9

namespace G9
open PySem PySem.Spec PyProof.Rows L2
/-! ### dict comprehensions with two fors -/
abbrev dc2E (kx vx t0 i0 t1 i1 : Expr) (f0 f1 : List Expr) (sc : Scope) (po : Pos) : Expr := .DictComp kx vx [⟨t0, i0, f0, 0⟩, ⟨t1, i1, f1, 0⟩] sc po
theorem dturn_out (kx vx t0 i0 t1 i1 : Expr) (f0 f1 : List Expr) (sc : Scope) (po : Pos) (itv acc : Value) (en : Env) :
    compTurn (dc2E kx vx t0 i0 t1 i1 f0 f1 sc po) 0 itv acc en = (do
      standAt i0.pos
      match ← pyNext itv with
      | none => pure (.done .next)
      | some y =>
        letOwnedTupleGo t0 itv y
        assign t0 en y
        let mut go := true
        for e in f0 do
          if go then go ← isTrue e en (eval e en)
        if go then
          let z ← eval i1 en
          standAt i1.pos
          let z ← foldedSetIterable i1 en z
          let _ ← runOwn (.compStart (dc2E kx vx t0 i0 t1 i1 f0 f1 sc po) 1 (← holding [z] (pyIter z)) acc en) en
        again (.compLoop (dc2E kx vx t0 i0 t1 i1 f0 f1 sc po) 0 itv acc en)) := by rfl
theorem dturn_in (kx vx t0 i0 t1 i1 : Expr) (f0 f1 : List Expr) (sc : Scope) (po : Pos) (itv : Value) (Da : Addr) (en : Env) :
    compTurn (dc2E kx vx t0 i0 t1 i1 f0 f1 sc po) 1 itv (.ref Da) en = (do
      standAt i1.pos
      match ← pyNext itv with
      | none => pure (.done .next)
      | some y =>
        letOwnedTupleGo t1 itv y
        assign t1 en y
        let mut go := true
        for e in f1 do
          if go then go ← isTrue e en (eval e en)
        if go then
          (do
            let a ← eval kx en
            let b ← holding [a] (eval vx en)
            standAt { kx.pos with
              endLine := vx.pos.endLine, endCol := vx.pos.endCol }
            holding [a, b] (dictSet Da a b))
        again (.compLoop (dc2E kx vx t0 i0 t1 i1 f0 f1 sc po) 1 itv (.ref Da) en)) := by rfl
section
variable {Pg : Program} {wd : World} {Ar : Around} {Rs : Result → Shared → Prop} {st : Shared} {kx vx t0 i0 t1 i1 : Expr} {f0 f1 : List Expr} {sc : Scope} {po : Pos} {itv acc : Value} {Da : Addr} {en : Env}
abbrev tstB (fs : List Expr) (en : Env) : Sem Bool := forIn fs true fun e r => if r = true then do let ok ← isTrue e en (eval e en); pure (ForInStep.yield ok) else pure (ForInStep.yield r)
theorem dloop_out (hs : ∀ z, foldedSetIterable i1 en z = pure z) (Iv : Nat → Shared → Prop)
    (turn : ∀ n s, Iv n s → wpAny (model Pg wd) Ar (pyNext itv) (fun r s1 => match r with
      | none => Rs (.ok .next) s1
      | some y => wpAny (model Pg wd) Ar (letOwnedTupleGo t0 itv y) (fun _ s2 => wpAny (model Pg wd) Ar (assign t0 en y) (fun _ s3 =>
          wpAny (model Pg wd) Ar (tstB f0 en) (fun ok s4 =>
            if ok = true then wpAny (model Pg wd) Ar (eval i1 en) (fun z s5 => wpAny (model Pg wd) Ar (pyIter z) (fun itw s6 =>
              codeAny (model Pg wd) Ar (.compStart (dc2E kx vx t0 i0 t1 i1 f0 f1 sc po) 1 itw acc en) (fun r s' => match r with
                | .ok _ => ∃ m, m < n ∧ Iv m s'
                | .error _ => False) s6) (notedBy (model Pg wd) Ar en fun e s' => Rs (.error e) s') s5) (notedBy (model Pg wd) Ar en fun e s' => Rs (.error e) s') s4
            else ∃ m, m < n ∧ Iv m s4) (notedBy (model Pg wd) Ar en fun e s' => Rs (.error e) s') s3) (notedBy (model Pg wd) Ar en fun e s' => Rs (.error e) s') s2) (notedBy (model Pg wd) Ar en fun e s' => Rs (.error e) s') s1) (notedBy (model Pg wd) Ar en fun e s' => Rs (.error e) s') s)
    (n : Nat) (h : Iv n st) : codeAny (model Pg wd) Ar (.compLoop (dc2E kx vx t0 i0 t1 i1 f0 f1 sc po) 0 itv acc en) Rs st := by
  refine codeAny_loop rfl Iv (fun n s hI => ?_) n h
  show wpAny _ Ar ((compTurn (dc2E kx vx t0 i0 t1 i1 f0 f1 sc po) 0 itv acc en).onRaise (fun x => do noteFrame x en; theTreesLotGoes x)) _ _ s
  refine wpAny_noted ?_
  rw [dturn_out]
  refine wpAny_bind (wpAny_standAt (wpAny_bind (wpAny_mono (turn n s hI) (fun r s1 k1 => ?_) fun _ _ z => z)))
  cases r with
  | none => exact wpAny_pure k1
  | some y =>
    refine wpAny_bind (wpAny_mono k1 (fun _ s2 k2 => ?_) fun _ _ z => z)
    refine wpAny_bind (wpAny_mono k2 (fun _ s3 k3 => wpAny_bind (wpAny_mono k3 (fun ok s4 k4 => ?_) fun _ _ z => z)) fun _ _ z => z)
    cases ok with
    | false => exact wpAny_pure ⟨rfl, k4⟩
    | true =>
      refine wpAny_bind (wpAny_mono k4 (fun x s5 k5 => ?_) fun _ _ z => z)
      refine wpAny_bind (wpAny_standAt (wpAny_bind (wpAny_of_eq (hs x) (wpAny_bind (wpAny_holding (wpAny_mono k5 (fun itw s6 k6 => ?_) fun _ _ z => z))))))
      refine wpAny_bind <| wpAny_runOwn ?_
      rw [Around.mark_none]
      refine codeAny_mono k6 fun r s' kr => ?_
      cases r with
      | ok f =>
        first
          | exact wpAny_pure ⟨rfl, kr⟩
          | exact wpAny_bind (wpAny_pure (wpAny_pure ⟨rfl, kr⟩))
      | error e => exact kr.elim
theorem dloop_in (Iv : Nat → Shared → Prop)
    (turn : ∀ n s, Iv n s → wpAny (model Pg wd) Ar (pyNext itv) (fun r s1 => match r with
      | none => Rs (.ok .next) s1
      | some y => wpAny (model Pg wd) Ar (letOwnedTupleGo t1 itv y) (fun _ s2 => wpAny (model Pg wd) Ar (assign t1 en y) (fun _ s3 =>
          wpAny (model Pg wd) Ar (tstB f1 en) (fun ok s4 =>
            if ok = true then wpAny (model Pg wd) Ar (eval kx en) (fun a s5 => wpAny (model Pg wd) Ar (eval vx en) (fun b s6 =>
              wpAny (model Pg wd) Ar (dictSet Da a b) (fun _ s7 => ∃ m, m < n ∧ Iv m s7) (notedBy (model Pg wd) Ar en fun e s' => Rs (.error e) s') s6) (notedBy (model Pg wd) Ar en fun e s' => Rs (.error e) s') s5) (notedBy (model Pg wd) Ar en fun e s' => Rs (.error e) s') s4
            else ∃ m, m < n ∧ Iv m s4) (notedBy (model Pg wd) Ar en fun e s' => Rs (.error e) s') s3) (notedBy (model Pg wd) Ar en fun e s' => Rs (.error e) s') s2) (notedBy (model Pg wd) Ar en fun e s' => Rs (.error e) s') s1) (notedBy (model Pg wd) Ar en fun e s' => Rs (.error e) s') s)
    (n : Nat) (h : Iv n st) : codeAny (model Pg wd) Ar (.compLoop (dc2E kx vx t0 i0 t1 i1 f0 f1 sc po) 1 itv (.ref Da) en) Rs st := by
  refine codeAny_loop rfl Iv (fun n s hI => ?_) n h
  show wpAny _ Ar ((compTurn (dc2E kx vx t0 i0 t1 i1 f0 f1 sc po) 1 itv (.ref Da) en).onRaise (fun x => do noteFrame x en; theTreesLotGoes x)) _ _ s
  refine wpAny_noted ?_
  rw [dturn_in]
  refine wpAny_bind (wpAny_standAt (wpAny_bind (wpAny_mono (turn n s hI) (fun r s1 k1 => ?_) fun _ _ z => z)))
  cases r with
  | none => exact wpAny_pure k1
  | some y =>
    refine wpAny_bind (wpAny_mono k1 (fun _ s2 k2 => ?_) fun _ _ z => z)
    refine wpAny_bind (wpAny_mono k2 (fun _ s3 k3 => wpAny_bind (wpAny_mono k3 (fun ok s4 k4 => ?_) fun _ _ z => z)) fun _ _ z => z)
    cases ok with
    | false => exact wpAny_pure ⟨rfl, k4⟩
    | true =>
      exact wpAny_bind (wpAny_bind (wpAny_mono k4 (fun a s5 k5 => wpAny_bind (wpAny_holding (wpAny_mono k5 (fun b s6 k6 => wpAny_bind (wpAny_standAt (wpAny_holding (wpAny_mono k6 (fun _ s7 k7 => wpAny_pure ⟨rfl, k7⟩) fun _ _ z => z)))) fun _ _ z => z))) fun _ _ z => z))
theorem dstart1 (g0 : codeAny (model Pg wd) Ar (.compLoop (dc2E kx vx t0 i0 t1 i1 f0 f1 sc po) 1 itv acc en) Rs st)
    (h : wpAny (model Pg wd) Ar (pyIter itv) (fun itw s' => codeAny (model Pg wd) Ar (.compLoop (dc2E kx vx t0 i0 t1 i1 f0 f1 sc po) 1 itw acc en) Rs s') (notedBy (model Pg wd) Ar en fun x s' => Rs (.error x) s') st) :
    codeAny (model Pg wd) Ar (.compStart (dc2E kx vx t0 i0 t1 i1 f0 f1 sc po) 1 itv acc en) Rs st := by
  refine codeAny_of_tree ?_
  show wpAny _ _ ((compStart (dc2E kx vx t0 i0 t1 i1 f0 f1 sc po) 1 itv acc en).onRaise (fun x => do noteFrame x en; standAt theWindowsPlace)) _ _ st
  refine wpAny_notedAt ?_
  unfold compStart
  show wpAny _ _ (ask >>= _) _ _ st
  refine wpAny_bind <| wpAny_askSetting <| wpAny_ite ?_
  split
  · first
      | exact wpAny_bind (wpAny_pure (wpAny_pure (And.intro rfl g0)))
      | exact wpAny_pure (And.intro rfl g0)
  · first
      | exact wpAny_bind (wpAny_rule (wpAny_bind (wpAny_standAt (wpAny_bind (wpAny_mono h (fun a s' k => wpAny_pure (And.intro rfl k)) fun _ _ x => x)))))
      | (refine wpAny_bind (wpAny_rule ?_); show wpAny _ _ (standAt i1.pos >>= _) _ _ st; exact wpAny_bind (wpAny_standAt (wpAny_bind (wpAny_mono h (fun a s' k => wpAny_pure (And.intro rfl k)) fun _ _ x => x))))
end
section
variable {X : Cx} {pins : List (Addr × Obj)} {σ : L2.St} {H : Hp} {s : Shared}
/-- the loops of a dict comprehension with two fors -/
def DnB2 (X : Cx) (g : TG) (tt : TT) (wi1 : TI) (g1 : TG) (tt1 : TT) (tk tv : TE) (vs vs1 : List Nat) (σ : L2.St) (Q : VK) (J : It) (D : Addr) (H0 : Hp) : Prop := ∃ W : Nat → Nat → Hp → Prop, (∃ m, W 0 m H0) ∧ ∀ i m H, W i m H →
  (J.stop i H ∧ Q (.ref D) H) ∨ (J.go i H ∧ ∃ Nx : Hp → Prop, (∀ H', Nx H' → ∃ m', m' < m ∧ W (i + 1) m' H') ∧ ∀ x H', J.yld i H x H' → g x (wipe σ vs) H' fun σ2 H2 => wipe σ2 vs = wipe σ vs ∧ tt σ2 H2 fun b H3 =>
    if b = true then wi1 σ2 H3 fun J1 H4 => ∃ W1 : Nat → Nat → Hp → Prop, (∃ m, W1 0 m H4) ∧ ∀ j k H, W1 j k H →
      (J1.stop j H ∧ Nx H) ∨ (J1.go j H ∧ ∃ Nx1 : Hp → Prop, (∀ H', Nx1 H' → ∃ k', k' < k ∧ W1 (j + 1) k' H') ∧ ∀ x H', J1.yld j H x H' → g1 x (wipe σ2 vs1) H' fun σ3 H5 => wipe σ3 vs1 = wipe σ2 vs1 ∧ tt1 σ3 H5 fun b H6 =>
        if b = true then tk σ3 H6 fun y H7 => tv σ3 H7 fun z H8 => PutW X D y z H8 Nx1 else Nx1 H6)
    else Nx H3)
def tDn2 (X : Cx) (wi : TI) (g : TG) (tt : TT) (wi1 : TI) (g1 : TG) (tt1 : TT) (tk tv : TE) (vs vs1 : List Nat) : TE := fun σ H Q => wi σ H fun J H1 => ∀ D, H1 D = none → DnB2 X g tt wi1 g1 tt1 tk tv vs vs1 σ Q J D (upd H1 D (dN X.w D []))
theorem dn2_core {Q : VK} {kx vx tg iter tg1 iter1 : Expr} {ifs ifs1 : List Expr} {scope : Scope} {ow : List (Str × Nat)} {vs1 : List Nat} {pos pos' : Pos} {wi wi1 : TI} {g g1 : TG} {tt tt1 : TT} {tk tv : TE} {use : Option (Value → Sem Unit)} {Qf : Value → Shared → Prop}
    (hu : (nestedKind X.prog X.w).room X.A) (hc : X.calm = true) (hN : X.N.Nodup) (I : Inv X pins σ H s) (hi : PI X tg iter wi) (ok : BlkOk X.N X.env.scope scope ow) (hvs1 : ∀ i ∈ vs1, i ∈ ow.map (·.2)) (hs : ∀ x, foldedSetIterable iter X.env x = pure x) (hs1 : ∀ e x, foldedSetIterable iter1 e x = pure x)
    (hg : ∀ s H C cl fp, PG (X.blk s H scope (compEnvC scope cl C X.env) fp) tg g) (ht : ∀ s H C cl fp, PTs (X.blk s H scope (compEnvC scope cl C X.env) fp) ifs tt)
    (hi1 : ∀ s H C cl fp, PI (X.blk s H scope (compEnvC scope cl C X.env) fp) tg1 iter1 wi1) (hg1 : ∀ s H C cl fp, PG (X.blk s H scope (compEnvC scope cl C X.env) fp) tg1 g1) (ht1 : ∀ s H C cl fp, PTs (X.blk s H scope (compEnvC scope cl C X.env) fp) ifs1 tt1)
    (hk : ∀ s H C cl fp, PE (X.blk s H scope (compEnvC scope cl C X.env) fp) kx tk) (hv : ∀ s H C cl fp, PE (X.blk s H scope (compEnvC scope cl C X.env) fp) vx tv)
    (h : tDn2 X wi g tt wi1 g1 tt1 tk tv (ow.map (·.2)) vs1 σ H Q)
    (hRR : ∀ D C s' m H', Inv X pins σ H' s' → Q (.ref D) H' → s'.heap.Ns C m → FpOk X pins H' C → compPost (model X.prog X.w) X.A X.xe use Qf (.ref D) C (.ok .next) s') :
    wpAny (model X.prog X.w) X.A (comprehension (dc2E kx vx tg iter tg1 iter1 ifs ifs1 scope pos) scope X.env pos' newDict false (eval iter X.env) use) Qf X.xe s := by
  generalize hvs : ow.map (·.2) = vs at h
  refine dblk (B := DnB2 X g tt wi1 g1 tt1 tk tv vs vs1 σ Q) (gs := [⟨tg1, iter1, ifs1, 0⟩]) hN I hi ok hs h fun s3 H3 cl fp it tn J D s4 I3 f3 I4 T st4 ⟨W, ⟨m0, w0⟩, turn⟩ => ?_
  subst hvs
  generalize hY : X.blk s3 H3 scope (compEnvC scope cl s3.heap.objs.size X.env) fp = Y
  refine dloop_out (hs1 _) (fun n s' => ∃ i H', Inv (X.blk s3 H3 scope (compEnvC scope cl s3.heap.objs.size X.env) fp) [] (wipe σ (ow.map (·.2))) H' s' ∧ tn i s'.heap ∧ (∀ b ∈ fp, H' b = none) ∧ W i n H') ?_ m0 ⟨0, H3, I4, st4, fun b hb => (f3 b hb).1.1, w0⟩
  rintro n s5 ⟨i, H5, I5, st5, n5, w5⟩
  rcases turn i n H5 w5 with ⟨stop, qq⟩ | ⟨go, Nx, hNx, step⟩
  · refine thnF (T.done (X.blk s3 H3 scope _ fp) rfl rfl rfl hc i [] s5 _ H5 (fun _ _ => False) I5 (blk_stat I5 n5) st5 stop) fun r s6 ⟨e, I6⟩ => ?_
    subst e
    exact dblk_end I3 f3 I6 qq hRR
  · refine thnF (T.item (X.blk s3 H3 scope _ fp) rfl rfl rfl hc i [] s5 _ H5 (fun _ _ => False) I5 (blk_stat I5 n5) st5 go) fun r s6 ⟨u, e, h6⟩ => ?_
    subst e
    refine thnF h6 fun _ s7 ⟨x, H7, I7, r7, y7, st7, n7⟩ => ?_
    refine thnF ((hg s3 H3 _ _ fp).run _ s7 _ H7 x u _ (I7.pinned (blk_stat I7 n7) (T.obj _ _ st7)) r7 (step x H7 y7)) fun _ s8 ⟨σ8, H8, I8, w8, q8⟩ => ?_
    refine thnF ((ht s3 H3 _ _ fp).run _ s8 σ8 H8 _ I8 q8) fun b s9 ⟨H9, I9, q9⟩ => ?_
    have l8 : (wipe σ (ow.map (·.2))).length = σ8.length := by rw [← w8, wipe_length]
    have k8 : ∀ (j : Nat) v, (wipe σ (ow.map (·.2)))[j]? = some (some v) → σ8[j]? = some (some v) := fun j v e => (wipe_some (vs := ow.map (·.2)) (by rw [w8]; exact e)).1
    have k9 : ∀ (j : Nat) v, (wipe σ (ow.map (·.2)))[j]? = some (some v) → (wipe σ8 vs1)[j]? = some (some v) := fun j v e => by
      obtain ⟨e1, e2⟩ := wipe_some (vs := ow.map (·.2)) (show (wipe σ8 (ow.map (·.2)))[j]? = _ by rw [w8]; exact e)
      rw [wipe_out fun z => e2 (hvs1 j z)]
      exact e1
    have fin : ∀ (σ9 : L2.St) (s' : Shared) (H' : Hp), Inv (X.blk s3 H3 scope (compEnvC scope cl s3.heap.objs.size X.env) fp) ([] ++ pinsAt fp s7.heap) σ9 H' s' → (wipe σ (ow.map (·.2))).length = σ9.length → (∀ (j : Nat) v, (wipe σ (ow.map (·.2)))[j]? = some (some v) → σ9[j]? = some (some v)) → Nx H' →
        ∃ m, m < n ∧ ∃ i H', Inv (X.blk s3 H3 scope (compEnvC scope cl s3.heap.objs.size X.env) fp) [] (wipe σ (ow.map (·.2))) H' s' ∧ tn i s'.heap ∧ (∀ b ∈ fp, H' b = none) ∧ W i m H' := fun σ9 s' H' I' hl hk nx => by
      obtain ⟨m', lt, w'⟩ := hNx H' nx
      obtain ⟨z1, z2, z3⟩ := unpin_back (Y := X.blk s3 H3 scope (compEnvC scope cl s3.heap.objs.size X.env) fp) (pins0 := []) (σ0 := wipe σ (ow.map (·.2))) T st7 I' hl hk
      exact ⟨m', lt, i + 1, H', z1, z2, z3, w'⟩
    cases b with
    | false => exact fin _ _ _ I9 l8 k8 q9
    | true =>
      refine thnF ((hi1 s3 H3 _ _ fp).run _ s9 σ8 H9 _ I9 q9) fun xv s10 hx => thnF hx fun itv s11 ⟨it1, fp1, tn1, J1, H11, e1, I11, T1, st11, f11, W1, ⟨m1, w1⟩, turn1⟩ => ?_
      subst e1
      have stat1 : ∀ {H' : Hp}, (∀ b ∈ fp1, H' b = none) → ∀ b ∈ fp1, FpOk (X.blk s3 H3 scope (compEnvC scope cl s3.heap.objs.size X.env) fp) ([] ++ pinsAt fp s7.heap) H' b := fun hn b hb => ⟨hn b hb, (f11 b hb).2⟩
      have loop1 : codeAny (model X.prog X.w) X.A (.compLoop (dc2E kx vx tg iter tg1 iter1 ifs ifs1 scope pos) 1 (.ref it1) (.ref D) (compEnvC scope cl s3.heap.objs.size X.env))
          (fun r s' => match r with
            | .ok _ => ∃ m, m < n ∧ ∃ i H', Inv (X.blk s3 H3 scope (compEnvC scope cl s3.heap.objs.size X.env) fp) [] (wipe σ (ow.map (·.2))) H' s' ∧ tn i s'.heap ∧ (∀ b ∈ fp, H' b = none) ∧ W i m H'
            | .error _ => False) s11 := by
        refine dloop_in (fun k s' => ∃ j H', Inv (X.blk s3 H3 scope (compEnvC scope cl s3.heap.objs.size X.env) fp) ([] ++ pinsAt fp s7.heap) (wipe σ8 vs1) H' s' ∧ tn1 j s'.heap ∧ (∀ b ∈ fp1, H' b = none) ∧ W1 j k H') ?_ m1 ⟨0, H11, I11.weak (wipe_length _ _) (fun j v e => (wipe_some e).1), st11, fun b hb => (f11 b hb).1, w1⟩
        rintro k s12 ⟨j, H12, I12, st12, n12, w12⟩
        rcases turn1 j k H12 w12 with ⟨stop1, nx1⟩ | ⟨go1, Nx1, hNx1, step1⟩
        · refine thnF (T1.done (X.blk s3 H3 scope _ fp) rfl rfl rfl hc j _ s12 (wipe σ8 vs1) H12 (fun _ _ => False) I12 (stat1 n12) st12 stop1) fun r s13 ⟨e, I13⟩ => ?_
          subst e
          exact fin _ _ _ I13 (l8.trans (wipe_length σ8 vs1).symm) k9 nx1
        · refine thnF (T1.item (X.blk s3 H3 scope _ fp) rfl rfl rfl hc j _ s12 (wipe σ8 vs1) H12 (fun _ _ => False) I12 (stat1 n12) st12 go1) fun r s13 ⟨u1, e, h13⟩ => ?_
          subst e
          refine thnF h13 fun _ s14 ⟨x1, H14, I14, r14, y14, st14, n14⟩ => ?_
          refine thnF ((hg1 s3 H3 _ _ fp).run _ s14 (wipe σ8 vs1) H14 x1 u1 _ (I14.pinned (stat1 n14) (T1.obj _ _ st14)) r14 (step1 x1 H14 y14)) fun _ s15 ⟨σ15, H15, I15, w15, q15⟩ => ?_
          refine thnF ((ht1 s3 H3 _ _ fp).run _ s15 σ15 H15 _ I15 q15) fun b1 s16 ⟨H16, I16, q16⟩ => ?_
          have fin1 : ∀ (s' : Shared) (H' : Hp), Inv (X.blk s3 H3 scope (compEnvC scope cl s3.heap.objs.size X.env) fp) (([] ++ pinsAt fp s7.heap) ++ pinsAt fp1 s14.heap) σ15 H' s' → Nx1 H' → ∃ m, m < k ∧ ∃ j H', Inv (X.blk s3 H3 scope (compEnvC scope cl s3.heap.objs.size X.env) fp) ([] ++ pinsAt fp s7.heap) (wipe σ8 vs1) H' s' ∧ tn1 j s'.heap ∧ (∀ b ∈ fp1, H' b = none) ∧ W1 j m H' := fun s' H' I' nx => by
            obtain ⟨m', lt, w'⟩ := hNx1 H' nx
            obtain ⟨z1, z2, z3⟩ := unpin_back (Y := X.blk s3 H3 scope (compEnvC scope cl s3.heap.objs.size X.env) fp) (pins0 := [] ++ pinsAt fp s7.heap) (σ0 := wipe σ8 vs1) T1 st14 I' (by rw [← w15, wipe_length]) (fun j v e => (wipe_some (vs := vs1) (by rw [w15]; exact e)).1)
            exact ⟨m', lt, j + 1, H', z1, z2, z3, w'⟩
          cases b1 with
          | false => exact fin1 _ _ I16 q16
          | true =>
            refine thnF ((hk s3 H3 _ _ fp).run _ s16 σ15 H16 _ I16 q16) fun a1 s17 ⟨yk, H17, I17, r17, q17⟩ => ?_
            refine thnF ((hv s3 H3 _ _ fp).run _ s17 σ15 H17 _ I17 q17) fun a2 s18 ⟨yv, H18, I18, r18, q18⟩ => ?_
            exact d_putN (X := X.blk s3 H3 scope _ fp) hu I18 q18 r17 r18 fun s19 H19 I19 nx => fin1 s19 H19 I19 nx
      exact dstart1 loop1 (T1.self X.A 0 _ _ _ st11 loop1)
theorem pe_dn2 {kx vx tg iter tg1 iter1 : Expr} {ifs ifs1 : List Expr} {scope : Scope} {ow : List (Str × Nat)} {vs1 : List Nat} {pos : Pos} {wi wi1 : TI} {g g1 : TG} {tt tt1 : TT} {tk tv : TE} (hu : (nestedKind X.prog X.w).room X.A) (hc : X.calm = true) (hN : X.N.Nodup) (hi : PI X tg iter wi) (ok : BlkOk X.N X.env.scope scope ow) (hvs1 : ∀ i ∈ vs1, i ∈ ow.map (·.2))
    (hg : ∀ s H C cl fp, PG (X.blk s H scope (compEnvC scope cl C X.env) fp) tg g) (ht : ∀ s H C cl fp, PTs (X.blk s H scope (compEnvC scope cl C X.env) fp) ifs tt)
    (hi1 : ∀ s H C cl fp, PI (X.blk s H scope (compEnvC scope cl C X.env) fp) tg1 iter1 wi1) (hg1 : ∀ s H C cl fp, PG (X.blk s H scope (compEnvC scope cl C X.env) fp) tg1 g1) (ht1 : ∀ s H C cl fp, PTs (X.blk s H scope (compEnvC scope cl C X.env) fp) ifs1 tt1)
    (hk : ∀ s H C cl fp, PE (X.blk s H scope (compEnvC scope cl C X.env) fp) kx tk) (hv : ∀ s H C cl fp, PE (X.blk s H scope (compEnvC scope cl C X.env) fp) vx tv) (hs : ∀ x, foldedSetIterable iter X.env x = pure x) (hs1 : ∀ e x, foldedSetIterable iter1 e x = pure x) :
    PE X (dc2E kx vx tg iter tg1 iter1 ifs ifs1 scope pos) (tDn2 X wi g tt wi1 g1 tt1 tk tv (ow.map (·.2)) vs1) := by
  refine ⟨fun pins s σ H Q I h => ?_⟩
  rw [arm_eval_DictComp]
  refine dn2_core hu hc hN I hi ok hvs1 hs hs1 hg ht hi1 hg1 ht1 hk hv h fun D C s' m H' I' q hn f => ⟨m, hn, fun h'' sb => ?_⟩
  exact ⟨.ref D, H', I'.turned (t' := s'.toks) (fun b o hb e => (sb.2 b hb).trans e) f.1 f.2.1 f.2.2.2.1 f.2.2.2.2.1 f.2.2.2.2.2, rfl, q⟩
theorem ps_setDn2 {i : Nat} {y : Str} {py : Pos} {kx vx tg iter tg1 iter1 : Expr} {ifs ifs1 : List Expr} {scope : Scope} {ow : List (Str × Nat)} {vs1 : List Nat} {pos spos : Pos} {wi wi1 : TI} {g g1 : TG} {tt tt1 : TT} {tk tv : TE} (hu : (nestedKind X.prog X.w).room X.A) (hc : X.calm = true) (hN : X.N.Nodup) (hy : X.N[i]? = some y) (hyl : X.env.scope.names.lookup y = some .local)
    (hsw : swapsWith (dc2E kx vx tg iter tg1 iter1 ifs ifs1 scope pos) (some (.Name y py)) spos.line X.env = pure true) (hi : PI X tg iter wi) (ok : BlkOk X.N X.env.scope scope ow) (hvs1 : ∀ i ∈ vs1, i ∈ ow.map (·.2))
    (hg : ∀ s H C cl fp, PG (X.blk s H scope (compEnvC scope cl C X.env) fp) tg g) (ht : ∀ s H C cl fp, PTs (X.blk s H scope (compEnvC scope cl C X.env) fp) ifs tt)
    (hi1 : ∀ s H C cl fp, PI (X.blk s H scope (compEnvC scope cl C X.env) fp) tg1 iter1 wi1) (hg1 : ∀ s H C cl fp, PG (X.blk s H scope (compEnvC scope cl C X.env) fp) tg1 g1) (ht1 : ∀ s H C cl fp, PTs (X.blk s H scope (compEnvC scope cl C X.env) fp) ifs1 tt1)
    (hk : ∀ s H C cl fp, PE (X.blk s H scope (compEnvC scope cl C X.env) fp) kx tk) (hv : ∀ s H C cl fp, PE (X.blk s H scope (compEnvC scope cl C X.env) fp) vx tv) (hs : ∀ x, foldedSetIterable iter X.env x = pure x) (hs1 : ∀ e x, foldedSetIterable iter1 e x = pure x) :
    PS X (.Assign [.Name y py] (dc2E kx vx tg iter tg1 iter1 ifs ifs1 scope pos) spos) (tAsg (tDn2 X wi g tt wi1 g1 tt1 tk tv (ow.map (·.2)) vs1) (gName i)) := by
  refine ⟨fun pins s σ H D I h => ?_⟩
  rw [exec_Assign_Name_used _ _ _ _ hsw]
  refine wpAny_bind (wpAny_standAt (wpAny_bind ?_))
  show wpAny _ X.A (do let _ ← comprehension (dc2E kx vx tg iter tg1 iter1 ifs ifs1 scope pos) scope X.env (firstIterPos [⟨tg, iter, ifs, 0⟩, ⟨tg1, iter1, ifs1, 0⟩] pos) newDict false (eval iter X.env) (some (assign (.Name y py) X.env))) _ _ s
  have h : tDn2 X wi g tt wi1 g1 tt1 tk tv (ow.map (·.2)) vs1 σ H (fun x H1 => gName i x σ H1 D.nx) := h
  exact wpAny_bind (L2.thn (dn2_core (Qf := fun _ s' => SP X pins D .next s') hu hc hN I hi ok hvs1 hs hs1 hg ht hi1 hg1 ht1 hk hv h fun L C s' m H' I' q hn f => name_end hN hy hyl I' q hn f) fun _ s' hq => wpAny_pure (wpAny_pure hq))
end
variable {c : SC}
section
variable {s : Sta} {P : D → Sta → Prop} {kx vx iter iter1 : Expr} {f1 : List Expr} {scope : Scope} {pos px px1 : Pos} {x x1 : Str} {i0 i1 : Nat}
/-- the inner for; L the dict's place -/
def DcI (c : SC) (kx vx : Expr) (f1 : List Expr) (i1 : Nat) (L : Nat) (kvs0 : List (D × D)) (K : List (D × D) → Sta → Prop) (ys : List D) (Φ : Sta → Prop) (s2 : Sta) : Prop :=
  ∃ I1 : Nat → List (D × D) → Sta → Prop, I1 0 kvs0 s2 ∧ (∀ j kvs s, I1 j kvs s → Φ s ∧ (∀ v ∈ [i1], ∀ d, s.r[v]? ≠ some (some d))) ∧
    (∀ j kvs e s, ys[j]? = some e → I1 j kvs s → AF c f1 ⟨s.r.set i1 (some e), s.o⟩ fun b s3 => if b = true then DcE c kx vx L kvs s3 fun kvs' s4 => I1 (j + 1) kvs' ⟨wipeD s4.r [i1], s4.o⟩ else I1 (j + 1) kvs ⟨wipeD s3.r [i1], s3.o⟩) ∧
    (∀ kvs s, I1 ys.length kvs s → K kvs s)
def DcP2 (c : SC) (scope : Scope) (kx vx iter1 : Expr) (f1 : List Expr) (x1 : Str) (px1 : Pos) (i0 i1 : Nat) (vs : List Nat) (P : D → Sta → Prop) (xs : List D) (Φ : Sta → Prop) (s1 : Sta) : Prop :=
  ∃ I : Nat → List (D × D) → Sta → Prop, I 0 [] ⟨wipeD s1.r vs, s1.o ++ [.dct .t []]⟩ ∧ (∀ i kvs s, I i kvs s → Φ s ∧ (∀ v ∈ vs, ∀ d, s.r[v]? ≠ some (some d))) ∧
    (∀ i kvs d s, xs[i]? = some d → I i kvs s → AI (c.blk scope) (.Name x1 px1) iter1 ⟨s.r.set i0 (some d), s.o⟩ (DcI (c.blk scope) kx vx f1 i1 s1.o.length kvs fun kvs' s' => I (i + 1) kvs' ⟨wipeD s'.r vs, s'.o⟩)) ∧
    (∀ kvs s, I xs.length kvs s → P (.ob s1.o.length) s)
theorem dc2_read {X : Cx} (hX : XC c X) {vs : List Nat} (h : AI c (.Name x px) iter s (DcP2 c scope kx vx iter1 f1 x1 px1 i0 i1 vs P)) (hi0 : i0 ∈ vs) (hi1 : i1 ∈ vs) (hlen : f1.length ≤ 1)
    {σ : L2.St} {τ : List D} {τv : List V} {H : Hp} (R : Rep c s σ τ τv H) {Q : VK} (hq : FinE c P σ τ τv Q) :
    tDn2 X (WI X (.Name x px) iter) (gName i0) (fun σ H Q => Q true H) (fun σ H Q => ∀ s0 H0 C cl fp, WI (X.blk s0 H0 scope (compEnvC scope cl C X.env) fp) (.Name x1 px1) iter1 σ H Q) (gName i1) (fun σ H Q => ∀ s0 H0 C cl fp, match f1 with
        | [] => Q true H
        | [t] => WT (X.blk s0 H0 scope (compEnvC scope cl C X.env) fp) t σ H Q
        | _ => False)
      (fun σ H Q => ∀ s0 H0 C cl fp, WE (X.blk s0 H0 scope (compEnvC scope cl C X.env) fp) kx σ H Q) (fun σ H Q => ∀ s0 H0 C cl fp, WE (X.blk s0 H0 scope (compEnvC scope cl C X.env) fp) vx σ H Q) vs [i1] σ H Q := by
  refine h X hX σ τ τv H R _ fun J d v xs Φ s1 H1 h1 R1 ok => ?_
  obtain ⟨I, h0, hI, turn, done⟩ := h1
  intro Dd hD
  have R2 : Rep c ⟨s1.r, s1.o ++ [.dct .t []]⟩ σ (.ob s1.o.length :: d :: τ) (.ref Dd :: v :: τv) (upd H1 Dd (dN X.w Dd [])) := R1.ownG hD fun F os r => by
    rw [hX.w]
    exact dct_iff.mpr ⟨[], upd_same, Nat.zero_le _, .nil, fun _ h => by cases h⟩
  have R3 : Rep c ⟨wipeD s1.r vs, s1.o ++ [.dct .t []]⟩ σ (.ob s1.o.length :: d :: τ) (.ref Dd :: v :: τv) (upd H1 Dd (dN X.w Dd [])) := R2.unw (scope := scope) rfl
  refine ⟨fun i m H => m = xs.length - i ∧ i ≤ xs.length ∧ ∃ kvs s, I i kvs s ∧ Rep c s σ (.ob s1.o.length :: d :: τ) (.ref Dd :: v :: τv) H, ⟨xs.length, by simp, Nat.zero_le _, [], _, h0, R3⟩, ?_⟩
  rintro i m H2 ⟨rfl, hi, kvs, s2, hI2, R4⟩
  obtain ⟨q1, q4⟩ := hI i kvs s2 hI2
  by_cases hlt : i < xs.length
  · obtain ⟨g1, g2⟩ := ok.go i s2 σ _ _ H2 q1 R4.sw hlt
    refine .inr ⟨g1, fun H' => ∃ kvs s', I (i + 1) kvs s' ∧ Rep c s' σ (.ob s1.o.length :: d :: τ) (.ref Dd :: v :: τv) H', fun H' q => ⟨xs.length - (i + 1), by omega, rfl, by omega, q⟩, fun y H' hy => ?_⟩
    obtain ⟨yd, hy1, R5⟩ := g2 y H' hy
    have R8 : Rep (c.blk scope) ⟨s2.r.set i0 (some yd), s2.o⟩ ((wipe σ vs).set i0 (some y)) (.ob s1.o.length :: d :: τ) (.ref Dd :: v :: τv) H' := R5.rot.setw (scope := scope) q4
    have hw : wipe ((wipe σ vs).set i0 (some y)) vs = wipe σ vs := by rw [wipe_set_mem hi0, wipe_wipe]
    refine ⟨by rw [hw], ?_⟩
    generalize hσ2 : (wipe σ vs).set i0 (some y) = σ2 at *
    have T := turn i kvs yd s2 hy1 hI2
    refine Eq.mpr (if_pos (rfl : true = true)) ?_
    intro s0 H0 C cl fp
    refine T _ (xc_blk hX s0 H0 C cl fp) _ _ _ H' R8 _ fun J1 d1 v1 ys Φ1 s3 H3 h3 R9 ok1 => ?_
    obtain ⟨I1, k0, kI, kturn, kdone⟩ := h3
    have R10 : Rep (c.blk scope) s3 σ2 (.ob s1.o.length :: d1 :: d :: τ) (.ref Dd :: v1 :: v :: τv) H3 := R9.sw
    refine ⟨fun j m H => m = ys.length - j ∧ j ≤ ys.length ∧ ∃ kvs s, I1 j kvs s ∧ Rep (c.blk scope) s σ2 (.ob s1.o.length :: d1 :: d :: τ) (.ref Dd :: v1 :: v :: τv) H, ⟨ys.length, by simp, Nat.zero_le _, kvs, s3, k0, R10⟩, ?_⟩
    rintro j m' H4 ⟨rfl, hj, kvs1, s4, hI4, R11⟩
    obtain ⟨r1, r4⟩ := kI j kvs1 s4 hI4
    by_cases hlt1 : j < ys.length
    · obtain ⟨g3, g4⟩ := ok1.go j s4 σ2 _ _ H4 r1 R11.sw hlt1
      refine .inr ⟨g3, fun H' => ∃ kvs s', I1 (j + 1) kvs s' ∧ Rep (c.blk scope) s' σ2 (.ob s1.o.length :: d1 :: d :: τ) (.ref Dd :: v1 :: v :: τv) H', fun H' q => ⟨ys.length - (j + 1), by omega, rfl, by omega, q⟩, fun z H5 hz => ?_⟩
      obtain ⟨zd, hz1, R12⟩ := g4 z H5 hz
      have R13 : Rep (c.blk scope) ⟨s4.r.set i1 (some zd), s4.o⟩ ((wipe σ2 [i1]).set i1 (some z)) (.ob s1.o.length :: d1 :: d :: τ) (.ref Dd :: v1 :: v :: τv) H5 := R12.rot.setw (scope := scope) r4
      have hw1 : wipe ((wipe σ2 [i1]).set i1 (some z)) [i1] = wipe σ2 [i1] := by rw [wipe_set_mem (List.mem_singleton.mpr rfl), wipe_wipe]
      refine ⟨by rw [hw1], ?_⟩
      generalize hσ3 : (wipe σ2 [i1]).set i1 (some z) = σ3 at *
      have T1 := kturn j kvs1 zd s4 hz1 hI4
      have fin1 : ∀ (kvs' : List (D × D)) (s5 : Sta) (H6 : Hp), I1 (j + 1) kvs' ⟨wipeD s5.r [i1], s5.o⟩ → Rep (c.blk scope) s5 σ3 (.ob s1.o.length :: d1 :: d :: τ) (.ref Dd :: v1 :: v :: τv) H6 →
          ∃ kvs s', I1 (j + 1) kvs s' ∧ Rep (c.blk scope) s' σ2 (.ob s1.o.length :: d1 :: d :: τ) (.ref Dd :: v1 :: v :: τv) H6 := fun kvs' s5 H6 h R => ⟨kvs', _, h, R.unw (scope := scope) (σ := σ2) (vs := [i1]) hw1⟩
      have fin2 : ∀ (s5 : Sta) (H6 : Hp), DcE (c.blk scope) kx vx s1.o.length kvs1 s5 (fun kvs' s6 => I1 (j + 1) kvs' ⟨wipeD s6.r [i1], s6.o⟩) → Rep (c.blk scope) s5 σ3 (.ob s1.o.length :: d1 :: d :: τ) (.ref Dd :: v1 :: v :: τv) H6 →
          ∀ s0 H0 C cl fp, WE (X.blk s0 H0 scope (compEnvC scope cl C X.env) fp) kx σ3 H6 fun y H7 => ∀ s0 H0 C cl fp, WE (X.blk s0 H0 scope (compEnvC scope cl C X.env) fp) vx σ3 H7 fun z H8 => PutW X Dd y z H8 fun H' => ∃ kvs s', I1 (j + 1) kvs s' ∧ Rep (c.blk scope) s' σ2 (.ob s1.o.length :: d1 :: d :: τ) (.ref Dd :: v1 :: v :: τv) H' := fun s5 H6 h R s0 H0 C cl fp => by
        refine AE.run h _ (xc_blk hX s0 H0 C cl fp) _ _ _ H6 R _ fun kd s6 w H7 h4 Ra => ?_
        intro s0' H0' C' cl' fp'
        refine h4 _ (xc_blk hX s0' H0' C' cl' fp') _ _ _ H7 Ra _ fun e s7 w2 H8 h5 Rb => ?_
        obtain ⟨ho, hk, hz, hn⟩ := h5
        exact putW_of (c := c.blk scope) (X := X.blk s0 H0 scope (compEnvC scope cl C X.env) fp) (xc_blk hX s0 H0 C cl fp) Rb ho hk hz rfl fun H' R' => fin1 _ _ _ hn R'
      match f1, hlen, T1 with
      | [], _, T1 =>
        intro s0 H0 C cl fp
        exact fin2 _ _ T1 R13
      | [t], _, T1 =>
        intro s0 H0 C cl fp
        refine AT.run T1 _ (xc_blk hX s0 H0 C cl fp) _ _ _ H5 R13 _ fun b s5 H6 h6 Rx => ?_
        cases b with
        | true => exact fin2 s5 H6 h6 Rx
        | false => exact fin1 _ s5 H6 h6 Rx
    · have e : j = ys.length := by omega
      subst e
      refine .inl ⟨ok1.stop s4 σ2 _ _ H4 r1 R11.sw, ?_⟩
      have Ra : Rep c s4 σ2 (.ob s1.o.length :: d :: τ) (.ref Dd :: v :: τv) H4 := R11.sw.pop
      exact ⟨kvs1, _, kdone kvs1 s4 hI4, Ra.unw (scope := scope) hw⟩
  · have e : i = xs.length := by omega
    subst e
    exact .inl ⟨ok.stop s2 σ _ _ H2 q1 R4.sw, hq _ _ _ _ (done kvs s2 hI2) R4.pop2⟩
theorem as_dc2 {PO' : Out → Prop} {y : Str} {py spos : Pos} {iy : Nat} (N0 : List Str) (sc0 : Scope) (i0 i1 : Nat) (ow : List (Str × Nat)) (hy : c.N[iy]? = some y) (hyl : c.sc.names.lookup y = some .local) (hk : c.sc.kind = .function) (hln : (py.line == pos.line) = true) (ha : (scope.names.any fun (n, k) => n == y && (k == .local || k == .cell)) = false)
    (ok : blkC N0 sc0 scope ow = true) (hi0 : i0 ∈ ow.map (·.2)) (hi1 : i1 ∈ ow.map (·.2)) (hlen : f1.length ≤ 1) (hN : c.N[i0]? = some x) (hN1 : c.N[i1]? = some x1) (hx : (relS scope c.sc).names.lookup x = some .local) (hx1 : (relS scope c.sc).names.lookup x1 = some .local)
    (h : AI c (.Name x px) iter s (DcP2 c scope kx vx iter1 f1 x1 px1 i0 i1 (ow.map (·.2)) (fun d s => PO' (.nx ⟨s.r.set iy (some d), s.o⟩))))
    (hs : ∀ env y, foldedSetIterable iter env y = pure y := by intro _ _; rfl) (hs1 : ∀ env y, foldedSetIterable iter1 env y = pure y := by intro _ _; rfl) (eN : c.N = N0 := by rfl) (eS : c.sc = sc0 := by rfl) : AS c (.Assign [.Name y py] (.DictComp kx vx [⟨.Name x px, iter, [], 0⟩, ⟨.Name x1 px1, iter1, f1, 0⟩] scope pos) spos) s PO' := by
  refine ⟨?_⟩
  intro X hX σ τ τv H R E hq
  refine WS.of (ps_setDn2 (ow := ow) (vs1 := [i1]) (g := gName i0) (g1 := gName i1) (room_nk hX.room) hX.calm (by rw [hX.N]; exact hX.nd) (by rw [hX.N]; exact hy) (by rw [hX.sc]; exact hyl) (swd_true (by rw [hX.sc]; exact hk) (by rw [hX.sc]; exact hyl) hln ha) pi_w (blkOk_by (by rw [hX.N, hX.sc, eN, eS]; exact ok)) (fun i hi => by rw [List.mem_singleton] at hi; rw [hi]; exact hi1) (fun s0 H0 C cl fp => ?_) (fun s0 H0 C cl fp => pts_nil)
    (fun s0 H0 C cl fp => ⟨fun p s σ H R I q => q s0 H0 C cl fp p s I⟩) (fun s0 H0 C cl fp => ?_) (fun s0 H0 C cl fp => pts_of hlen s0 H0 C cl fp) (fun s0 H0 C cl fp => ⟨fun p s σ H Q I q => q s0 H0 C cl fp p s I⟩) (fun s0 H0 C cl fp => ⟨fun p s σ H Q I q => q s0 H0 C cl fp p s I⟩) (hs _) hs1)
    (dc2_read (Q := fun x H1 => gName iy x σ H1 E.nx) hX h hi0 hi1 hlen R (fun d s' v H' hp R' => hq.nx _ _ _ hp R'.set))
  · have hY := xc_blk hX (scope := scope) s0 H0 C cl fp
    exact pg_name (by rw [hY.N]; exact hY.nd) (by rw [hY.N]; exact hN) (loc_of hY (.inl hx)) (fn_of' hY (.inr hx))
  · have hY := xc_blk hX (scope := scope) s0 H0 C cl fp
    exact pg_name (by rw [hY.N]; exact hY.nd) (by rw [hY.N]; exact hN1) (loc_of hY (.inl hx1)) (fn_of' hY (.inr hx1))
end
end G9

namespace G9
open PySem PySem.Spec PyProof.Rows L2
variable {c : SC} {a b : Expr} {s : Sta} {P : D → Sta → Prop}
/-! ### is True, is False -/
theorem rop_isB {neg : Bool} : ROp c (fun x y H Q => ∃ a b : Bool, x = .bl a ∧ y = .bl b ∧ Q (.bl (if neg then !decide (a = b) else decide (a = b))) H) (fun d1 d2 s P => ∃ a b : Bool, d1 = .bl a ∧ d2 = .bl b ∧ P (.bl (if neg then !decide (a = b) else decide (a = b))) s) := by
  intro σ τ τv H s v1 v2 d1 d2 P Q R h hq
  obtain ⟨a, b, rfl, rfl, h⟩ := h
  exact ⟨a, b, R.pop.bl, R.bl, hq _ _ _ _ h (R.pop.pop.push fun _ _ => .bl _)⟩
theorem ac_isB (h : AE c a s fun d1 s1 => AE c b s1 fun d2 s2 => ∃ x y : Bool, d1 = .bl x ∧ d2 = .bl y ∧ P (.bl (decide (x = y))) s2) : AC c .Is a b s P :=
  ac_op (rV := fun _ => rIsB) (fun X _ => op_isBl) (fun X _ => rop_isB (neg := false)) h
theorem ac_isnotB (h : AE c a s fun d1 s1 => AE c b s1 fun d2 s2 => ∃ x y : Bool, d1 = .bl x ∧ d2 = .bl y ∧ P (.bl (!decide (x = y))) s2) : AC c .IsNot a b s P :=
  ac_op (rV := fun _ => rNotB) (fun X _ => op_notBl) (fun X _ => rop_isB (neg := true)) h
end G9

namespace G9
open PySem PySem.Spec PyProof.Rows L2
variable {c : SC}
section
variable {s : Sta} {P : D → Sta → Prop} {a b : Expr} {pos : Pos}
theorem dct_atL {X : Cx} (hX : XC c X) {pins : List (Addr × Obj)} {t : Shared} {σ : L2.St} {τ : List D} {τv : List V} {H : Hp} {j : Nat} {u : HO} {kvs : List (D × D)} {v : V} (I : Inv X pins σ H t) (R : Rep c s σ (.ob j :: τ) (v :: τv) H) (ho : s.o[j]? = some (.dct (.l u) kvs)) :
    ∃ p F os nk xs, v = .ref p ∧ Same F H ∧ NKV X.K F os nk kvs ∧ (p == sysModules) = false ∧ KN nk xs ∧ t.heap.DictOfH (nestedKind X.prog X.w) p xs ∧ RpL X.K F os τv τ ∧ ∀ τ' τv', RpL X.K F os τv' τ' → Rep c s σ τ' τv' H := by
  obtain ⟨p, F, os, rfl, eF, hob, r, mk⟩ := R.objR ho
  obtain ⟨od, nk, hu, hN, hz, hkv, hd8⟩ := lck_iff.mp hob
  have hN' : H p = some (.frz od (dN X.w p nk)) := by rw [hN, hu, hX.w]
  rw [← hX.K] at hkv
  obtain ⟨hsm, xs, rel, dd⟩ := dn_ofL I hN' eF hkv hd8
  exact ⟨p, F, os, nk, xs, rfl, eF, hkv, hsm, rel, dd, by rw [hX.K]; exact r.tail, by rw [hX.K]; exact mk⟩
/-- d[k], k there, d locked -/
theorem ae_dgetL (h : AE c a s fun d s1 => AE c b s1 fun k s2 => ∃ j u kvs y, d = .ob j ∧ s2.o[j]? = some (.dct (.l u) kvs) ∧ KeyD k ∧ getK kvs k = some y ∧ P y s2) (hs : NoSl b) : AE c (.Subscript a b pos) s P := by
  refine ⟨?_⟩
  intro X hX σ τ τv H R Q hq pins t I
  refine subD_of PySem.F.slot_dict_getitem.lookup hs (L2.thn (h X hX σ τ τv H R (fun v1 H1 => ∃ d s1, Rep c s1 σ (d :: τ) (v1 :: τv) H1 ∧ AE c b s1 fun k s2 => ∃ j u kvs y, d = .ob j ∧ s2.o[j]? = some (.dct (.l u) kvs) ∧ KeyD k ∧ getK kvs k = some y ∧ P y s2) (fun d s1 v H1 h1 R1 => ⟨d, s1, R1, h1⟩) pins t I) fun u1 t1 ⟨v1, H1, I1, r1, d, s1, R1, h1⟩ =>
    L2.thn (h1 X hX σ _ _ H1 R1 (fun v2 H2 => ∃ k s2, Rep c s2 σ (k :: d :: τ) (v2 :: v1 :: τv) H2 ∧ ∃ j u kvs y, d = .ob j ∧ s2.o[j]? = some (.dct (.l u) kvs) ∧ KeyD k ∧ getK kvs k = some y ∧ P y s2) (fun d2 s2 v2 H2 h2 R2 => ⟨d2, s2, R2, h2⟩) pins t1 I1) fun u2 t2 ⟨v2, H2, I2, r2, kd, s2, R2, j, u, kvs, y, e1, ho, ⟨k, hk, h8⟩, hy, hP⟩ => ?_)
  subst e1
  obtain ⟨p, F, os, nk, xs, rfl, eF, hkv, hsm, rel, dd, r, mk⟩ := dct_atL hX I2 R2.sw ho
  cases r1
  obtain ⟨bb, rfl⟩ := R2.key hk
  cases r2
  cases r with
  | cons rk r =>
    have key : (nestedKind X.prog X.w).is t2.heap (.tup k) bb := ⟨Rp.nk (v := .ref bb) I2 eF rk hk rfl, h8⟩
    refine ⟨dd.typeIs, ?_⟩
    rcases kn_get hkv rel hk with ⟨g1, g2⟩ | ⟨ee, vv, uu, g1, g2, g3, g4⟩
    · rw [hy] at g1
      cases g1
    · rw [hy] at g1
      cases g1
      obtain ⟨q, hq2, hq3⟩ := Option.map_eq_some_iff.mp g2
      refine wpAny_getItem_heap (room_nk1 hX.room) key dd hq2 ?_
      rw [hq3]
      exact ⟨vv, H2, I2.tok _, g3, hq _ _ _ _ hP (mk _ _ (.cons g4 r))⟩
end
end G9

namespace G9
open PySem PySem.Spec PyProof.Rows L2
variable {c : SC}
section
variable {s : Sta} {P : D → Sta → Prop} {pos : Pos}
/-- d[k], d a dict of the module with text keys and texts as values -/
theorem ae_kget {x : Str} {p1 : Pos} {b : Expr} {p : Addr} (hm : c.mg x = some (.ref p)) (h : AE c b s fun k s1 => ∃ l t, k = .str l ∧ KDct c.K c.w p (S l) (.str (S t)) ∧ P (.str t) s1) (hg : IsG c x := by rfl) (h1 : (x == ("__debug__" : Str)) = false := by decide) (hs : PlainIx b := by intro _ _; rfl) : AE c (.Subscript (.Name x p1) b pos) s P := by
  refine ⟨?_⟩
  intro X hX σ τ τv H R Q hq
  refine WE.of (pe_ix ix_kdict (pe_glob (gl_of hX hg) (by rw [hX.mg]; exact hm) (show RelV (.ref p) (.ref p) from rfl) h1) pe_w hs) (h X hX σ τ τv H R _ fun d2 s2 v2 H2 h2 R2 => ?_)
  obtain ⟨l, t, rfl, kd, h2⟩ := h2
  have e2 := R2.str
  subst e2
  rw [hX.K, hX.w]
  exact ⟨p, S l, _, rfl, rfl, kd, hq _ _ _ _ h2 (R2.pop.push fun _ _ => .str t)⟩
end
end G9

namespace G9
open PySem PySem.Spec PyProof.Rows L2
set_option maxHeartbeats 1000000 in
theorem meets_enum1 {v : Value} {o : Obj} {H : Heap → Prop} (B : Begins v o H) :
    Meets (Builtin.«enumerate.__new__» ⟨[.type "enumerate", v], []⟩) (fun _ R s => H s.heap ∧
      R (.ok (.ret (.ref (s.heap.push o).objs.size))) { s with heap := (s.heap.push o).push { cls := .type "enumerate", data := .fields #[.none, .bool false, .ref s.heap.objs.size, rawInt 0, .none, .none] } }) :=
  .of_wp fun prog w A R s h => by
    obtain ⟨hp, g, d, tk, os⟩ := s
    obtain ⟨h1, h⟩ := h
    have hsub := sub_enumerate
    have q1 : ∀ {A' : Around} {E : Value → Shared → Prop} {Q : Value → Shared → Prop}, Q (.ref hp.objs.size) ⟨hp.push o, g, d, tk, os⟩ → wpAny (model prog w) A' (pyIter v) Q E ⟨hp, g, d, tk, os⟩ :=
      fun q => B.iter prog w _ _ ⟨hp, g, d, tk, os⟩ _ h1 q
    wp_walk using q1
    refine wpAny_stack_any fun st => wpAny_pure ?_
    split
    · rename_i c _ _ _ _ _
      cases (c == Value.type "enumerate")
      · wp_walk using q1
        exact ⟨_, rfl, h⟩
      · wp_walk using q1
        exact ⟨_, rfl, h⟩
    · wp_walk using q1
      exact ⟨_, rfl, h⟩
theorem call_enumT {prog : Program} {w : World} {A : Around} {E : Value → Shared → Prop} {s : Shared} {t : Addr} {items : Array Value} {Q : Value → Shared → Prop} (hT : s.heap.IsTuple t items)
    (h : ∀ h', IsEnum h' (s.heap.objs.size + 1) s.heap.objs.size 0 .none → h'.IsTupleIter s.heap.objs.size t 0 → h'.objs.size = s.heap.objs.size + 2 →
      (∀ b o, s.heap.get? b = some o → h'.get? b = some o) → Q (.ref (s.heap.objs.size + 1)) { s with heap := h' }) :
    wpAny (model prog w) A (call (.type "enumerate") [.ref t]) Q E s := by
  have B := begins_tuple t items
  refine callType_new F.called_enumerate (by decide) (F.typeCall_enumerate_1 _) (F.newCall_enumerate_1 _) (fun obj => F.args_object_init_2 obj _) F.entry_enumerate_new (meets_enum1 B) ⟨hT, ?_⟩
  have hz : (s.heap.push { cls := .type "tuple_iterator", data := .fields #[.ref t, .int 0 0] }).objs.size = s.heap.objs.size + 1 := Heap.size_push ..
  show _ ∧ _
  rw [hz]
  have he : IsEnum ((s.heap.push { cls := .type "tuple_iterator", data := .fields #[.ref t, .int 0 0] }).push { cls := .type "enumerate", data := .fields #[.none, .bool false, .ref s.heap.objs.size, rawInt 0, .none, .none] }) (s.heap.objs.size + 1) s.heap.objs.size 0 .none := by
    have := Heap.get?_push_size (s.heap.push { cls := .type "tuple_iterator", data := .fields #[.ref t, .int 0 0] }) (o := { cls := .type "enumerate", data := .fields #[.none, .bool false, .ref s.heap.objs.size, rawInt 0, .none, .none] }) rfl
    rw [hz] at this
    exact this
  refine ⟨⟨_, he, rfl⟩, h _ he ⟨_, Heap.get?_push_of_some _ (Heap.get?_push_size _ rfl), rfl, rfl⟩ (by rw [Heap.size_push, hz]) fun b o x => Heap.get?_push_of_some _ (Heap.get?_push_of_some _ x)⟩
end G9
namespace G9
open PySem PySem.Spec PyProof.Rows L2
/-- the tuple at a as it stands at each turn, each item in a new pair with its number -/
def ItET (K : PySem.W.Frag) (a : Addr) : It :=
  ⟨fun i H => ∃ (xs : List V) (x : V), SqT K H a xs ∧ xs[i]? = some x, fun i H v H' => ∃ T x, v = .ref T ∧ H T = none ∧ H' = upd H T (.tup [.int (i : Nat), x]) ∧ ∀ xs, SqT K H a xs → xs[i]? = some x, fun i H => ∃ xs : List V, SqT K H a xs ∧ xs.length ≤ i⟩
theorem tup_ne {h : Heap} {a e it : Addr} {items : Array Value} {i : Nat} {c : Int} {old : Value} (p : h.IsTuple a items) (he : IsEnum h e it c old) (hit : h.IsTupleIter it a i) : a ≠ it ∧ e ∉ [it, a] ∨ e = it := by
  by_cases q : e = it
  · exact .inr q
  refine .inl ⟨fun z => ?_, fun z => ?_⟩
  · obtain ⟨o, ho, hc, _⟩ := p
    obtain ⟨o', ho', hc', _⟩ := hit
    rw [z, ho'] at ho
    cases ho
    rw [hc'] at hc
    exact absurd hc (by intro q; injection q with q; exact absurd q (by decide))
  · rcases (by simpa using z : e = it ∨ e = a) with z | z
    · exact q z
    · obtain ⟨o, ho, hc, _⟩ := p
      have he' : h.get? e = some _ := he
      rw [z, ho] at he'
      cases he'
      exact absurd hc (by intro q; injection q with q; exact absurd q (by decide))
theorem enumT_end {prog : Program} {w : World} {A : Around} {E : Value → Shared → Prop} {s : Shared} {e it a : Addr} {i : Nat} {c : Int} {items : Array Value} {old : Value} {Q : Option Value → Shared → Prop} (hh : A.handled = none)
    (he : IsEnum s.heap e it c old) (hit : s.heap.IsTupleIter it a i) (hl : s.heap.IsTuple a items) (hx : items[i]? = none) (hQ : ∀ h', Heap.ExtBut it s.heap h' → Q none { s with heap := h' }) : wpAny (model prog w) A (pyNext (.ref e)) Q E s := by
  have hT : s.TypeIs (.ref e) "enumerate" := ⟨_, he, rfl⟩
  unfold pyNext
  refine wpAny_bind (wpAny_attempt (wpAny_callSpecial?_slot (name := Str.ofString "__next__") hT F.slot_enumerate_next
    (wpAny_call_entry F.slot_enumerate_next hT F.entry_enumerate_next ?_ (F.args_enumerate_next_1 _))))
  show wpAny _ _ (field (.ref e) 2 >>= _) _ _ _
  refine wpAny_bind (wpAny_field he rfl (x := .ref it) rfl ?_)
  refine wpAny_bind (wpAny_nextOf_tuple_end (show A.in1.handled = none from hh) hit hl hx fun h' x he' hx' => ?_)
  obtain ⟨o, ho, hc⟩ := hx'
  refine wpAny_bind (wpAny_isInstance (T := "StopIteration") (b := true) ⟨o, ho, hc⟩ isSubtype_stop ?_)
  exact wpAny_pure (hQ _ he')
theorem turn_enumT {P : Program} {w : World} {K : PySem.W.Frag} {elts : List Expr} {kk : Nat} {tpos : Pos} (a e it : Addr) :
    Turn P w K (.Tuple elts kk tpos) (ItET K a) [e, it] e (fun i h => (∃ old, IsEnum h e it ((i : Nat) : Int) old) ∧ h.IsTupleIter it a i ∧ e ≠ it) where
  mem := by simp
  obj := fun i h st b hb => by
    obtain ⟨⟨old, he⟩, ⟨o, ho, hc, hd⟩, _⟩ := st
    have e' : b = e ∨ b = it := by simpa using hb
    rcases e' with z | z
    · rw [z]
      exact ⟨_, he, fun v q => nomatch q⟩
    · rw [z]
      exact ⟨o, ho, fun v q => by rw [hd] at q; cases q⟩
  keep := fun i h h' st k => by
    obtain ⟨⟨old, he⟩, hi, hne⟩ := st
    exact ⟨⟨old, k e (by simp) _ he⟩, hi.at fun o q => k it (by simp) o q, hne⟩
  item := by
    intro X hP hw hK hc i pins s σ H E I hf st hg
    subst hP hw hK
    obtain ⟨⟨old, he⟩, hit, hne⟩ := st
    obtain ⟨xs, x, hq, hx⟩ := hg
    obtain ⟨its, rv, p, hz⟩ := I.tuple hq
    obtain ⟨u, hu, ru⟩ := rv.get hx
    have p' : s.heap.IsTuple a its.toArray := p
    obtain ⟨n1, n2⟩ := (tup_ne p' he hit).resolve_right hne
    have hel : e < s.heap.objs.size := Heap.lt_size he
    have hil : it < s.heap.objs.size := by
      obtain ⟨_, q, _⟩ := hit
      exact Heap.lt_size q
    have hlt : i < its.toArray.size := by
      have := (List.getElem?_eq_some_iff.mp hu).1
      simpa using this
    refine wpAny_pyNext_enum_itemC (Draws.tuple (show X.A.in1.handled = none from I.ok.hd hc) it a n1 its.toArray) he ⟨hit, p'⟩ hlt hne n2 fun y h' tk hPy ho hst' hT hsz hk => ?_
    have ey : y = u := by
      have h1 : its[i]? = some y := by simpa using hPy
      rw [hu] at h1
      exact (Option.some.inj h1).symm
    subst ey
    obtain ⟨hit', _⟩ := hst'
    refine ⟨_, rfl, wpAny_letOwnedTupleGo_enum (s := { s with heap := h', toks := tk + 1 }) ho fun h'' he' sb => ?_⟩
    have hT2 : h''.get? s.heap.objs.size = some { cls := .type "tuple", data := .seq #[.int i tk, y] } := (sb.2 _ (Nat.ne_of_gt hel)).trans hT
    have new : ObjOk X.prog X.w (upd H s.heap.objs.size (.tup [.int (i : Nat), x])) h'' s.heap.objs.size (.tup [.int (i : Nat), x]) :=
      ⟨by show 2 ≤ sizeLine; decide, [.int i tk, y], .cons ⟨_, rfl⟩ (.cons ru .nil), ⟨_, hT2, rfl, _, rfl⟩⟩
    have I1 : Inv X pins σ (upd H s.heap.objs.size (.tup [.int (i : Nat), x])) { s with heap := h'', toks := tk + 1 } :=
      I.turnedNew (ch := [e, it]) (fun b ob hb q => (sb.2 b (fun z => hb (by simp [z]))).trans (hk b ob (fun z => hb (by simp [z])) (fun z => hb (by simp [z])) q)) hf (Nat.le_refl _) new
    refine ⟨.ref s.heap.objs.size, _, I1, rfl, ⟨_, x, rfl, I.hok.fresh (Nat.le_refl _), rfl, fun ys hy => by rw [I.tuple_inj hy hq]; exact hx⟩, ⟨⟨y, ?_⟩, hit'.at fun o q => (sb.2 it (Ne.symm hne)).trans q, hne⟩, fun b hb => ?_⟩
    · have e1 : ((i + 1 : Nat) : Int) = (i : Int) + 1 := by omega
      rw [e1]
      exact he'
    · have hb' : b < s.heap.objs.size := by
        have e' : b = e ∨ b = it := by simpa using hb
        rcases e' with z | z
        · rw [z]; exact hel
        · rw [z]; exact hil
      rw [upd_ne (Nat.ne_of_lt hb')]
      exact (hf b hb).1
  done := by
    intro X hP hw hK hc i pins s σ H E I hf st hg
    subst hP hw hK
    obtain ⟨⟨old, he⟩, hit, hne⟩ := st
    obtain ⟨xs, hq, hx⟩ := hg
    obtain ⟨its, rv, p, hz⟩ := I.tuple hq
    have p' : s.heap.IsTuple a its.toArray := p
    obtain ⟨f0, f1, f2, f3, f4, f5⟩ := hf it (by simp)
    have hl := rv.length
    exact enumT_end (I.ok.hd hc) he hit p' (by simp; omega) fun h' eb => ⟨rfl, I.turned (t' := s.toks) (fun b o hb q => eb b o hb q) f0 f1 f3 f4 f5⟩
  self := fun A i s Q E st h => let ⟨⟨_, he⟩, _⟩ := st; wpAny_pyIter_enum he h
def iEnumT (K : PySem.W.Frag) (ta : TA) : TI := fun σ H R => ta σ H fun vs H1 => ∃ a xs, vs = [.ref a] ∧ SqT K H1 a xs ∧ R (ItET K a) H1
theorem pi_enumT {X : Cx} {e : Expr} {ta : TA} {p pos tpos : Pos} {elts : List Expr} {kk : Nat} (hg : Gl X "enumerate") (hm : X.mg "enumerate" = none) (ha : PA X [e] ta) (hs : starEach [e] X.env = (false, eval e X.env) :: starEach [] X.env := by rfl) :
    PI X (.Tuple elts kk tpos) (.Call (.Name "enumerate" p) [e] [] pos) (iEnumT X.K ta) := by
  refine ⟨fun pins s σ H R I h => ?_⟩
  refine Call_ (ld_blt I hg hm boot_enumerate (PyProof.Rows.callWith_type1 (thn (ha.run pos pins s σ H _ I h) fun us s1 ⟨vs, H1, I1, r1, q1⟩ => ?_) hs rfl))
  obtain ⟨a, xs, ex, hq, q⟩ := q1
  subst ex
  cases r1 with
  | cons r rr =>
    cases rr
    cases r
    obtain ⟨its, rv, p', hz⟩ := I1.tuple hq
    refine call_enumT (show s1.heap.IsTuple a its.toArray from p') fun h' he hit hsz hk => wpAny_pyIter_enum he ?_
    have I2 : Inv X pins σ H1 { s1 with heap := h' } := I1.kept (t' := s1.toks) hk
    refine ⟨s1.heap.objs.size + 1, [s1.heap.objs.size + 1, s1.heap.objs.size], _, _, H1, rfl, I2, turn_enumT a (s1.heap.objs.size + 1) s1.heap.objs.size, ⟨⟨.none, he⟩, hit, Nat.succ_ne_self _⟩, fun b hb => ?_, q⟩
    have e' : b = s1.heap.objs.size + 1 ∨ b = s1.heap.objs.size := by simpa using hb
    have hle : s1.heap.objs.size ≤ b := by
      rcases e' with z | z
      · rw [z]; exact Nat.le_add_right _ _
      · rw [z]; exact Nat.le_refl _
    exact I1.fpOk hle (I1.hok.fresh hle)
end G9
namespace G9
open PySem PySem.Spec PyProof.Rows L2
variable {c : SC} {s : Sta} {PI' : List D → (Sta → Prop) → Sta → Prop} {P : D → Sta → Prop} {elts : List Expr} {kk : Nat} {p pos tpos : Pos}
/-- the items with their numbers -/
def enD (es : List D) : List D := (List.range es.length).map fun i => .tup [.int (i : Nat), es.getD i .non]
theorem enD_at {es : List D} {i : Nat} (h : i < es.length) : (enD es)[i]? = some (.tup [.int (i : Nat), es[i]]) := by
  unfold enD
  rw [List.getElem?_map, List.getElem?_range h]
  simp [h]
theorem enD_len (es : List D) : (enD es).length = es.length := by simp [enD]
/-- for i, x in enumerate(t), t a tuple -/
theorem ai_enumT {e : Expr} (hm : c.mg "enumerate" = none) (h : AE c e s fun d s1 => ∃ ds, d = .tup ds ∧ PI' (enD ds) (fun _ => True) s1) (hg : IsG c "enumerate" := by rfl)
    (hs : ∀ env, starEach [e] env = (false, eval e env) :: starEach [] env := by intro _; rfl) : AI c (.Tuple elts kk tpos) (.Call (.Name "enumerate" p) [e] [] pos) s PI' := by
  refine ⟨?_⟩
  intro X hX σ τ τv H R Q hq
  have hA : AA c [e] s fun ds s1 => ∃ d es, ds = [d] ∧ d = .tup es ∧ PI' (enD es) (fun _ => True) s1 := aa_one (h.mono fun d s1 ⟨es, h1, h2⟩ => ⟨d, es, rfl, h1, h2⟩) hs
  refine WI.of (pi_enumT (gl_of hX hg) (by rw [hX.mg]; exact hm) pa_w (hs _)) (hA X hX σ τ τv H R _ fun ds s1 vs H1 hP hl R1 => ?_)
  obtain ⟨d, es, rfl, rfl, hP⟩ := hP
  obtain ⟨v, rfl⟩ := one_v hl
  have R1 : Rep c s1 σ (.tup es :: τ) (v :: τv) H1 := R1
  obtain ⟨a, ws, rfl, q, l, _⟩ := R1.rdt
  rw [hX.K]
  refine ⟨a, ws, rfl, q, hq _ (.tup es) (.ref a) (enD es) _ s1 H1 hP R1 ⟨fun i s σ τ τv H hs R hi => ?_, fun s σ τ τv H hs R => ?_⟩⟩
  · obtain ⟨a', ws', e1, q', l', R'⟩ := R.rdt
    cases e1
    have hi : i < es.length := by rw [enD_len] at hi; exact hi
    have hw : ws'[i]? = some ws'[i] := List.getElem?_eq_getElem (by omega)
    refine ⟨⟨ws', ws'[i], q', hw⟩, fun x H' hy => ?_⟩
    obtain ⟨T, y, rfl, hT, rfl, hy⟩ := hy
    have hy := hy ws' q'
    rw [hw] at hy
    cases hy
    have hd : es[i]? = some es[i] := List.getElem?_eq_getElem hi
    have R2 : Rep c s σ (.int (i : Nat) :: es[i] :: .tup es :: τ) (.int (i : Nat) :: ws'[i] :: .ref a :: τv) H := R'.temps fun F os r => by
      obtain ⟨r1, r2⟩ := RpL.split l' r
      obtain ⟨w', h1, h2⟩ := r1.get hd
      rw [hw] at h1
      cases h1
      exact .cons (.int _) (.cons h2 r2)
    have R3 := R2.lay (d := .tup [.int (i : Nat), es[i]]) (o := .tup [.int (i : Nat), ws'[i]]) hT fun F os r e => .tup (.inl (.inl e)) (by
      cases r with
      | cons q1 r =>
        cases r with
        | cons q2 _ => exact .cons q1 (.cons q2 .nil))
    refine ⟨.tup [.int (i : Nat), es[i]], enD_at hi, R3.temps fun F os r => ?_⟩
    cases r with
    | cons q r => exact .cons q r.tail.tail
  · obtain ⟨a', ws', e1, q', l', R'⟩ := R.rdt
    cases e1
    exact ⟨ws', q', by rw [enD_len]; omega⟩
/-- the text of a number from 0 -/
def decN (n : Nat) : List Nat := (toString (n : Int) : Str).cps.toList
theorem ae_strI {e : Expr} (hm : c.mg "str" = none) (h : AE c e s fun d s1 => ∃ n : Nat, d = .int (n : Nat) ∧ n < 10 ^ 15 ∧ P (.str (decN n)) s1) (hg : IsG c "str" := by rfl)
    (he : ∀ env, starEach [e] env = (false, eval e env) :: starEach [] env := by intro _; rfl) : AE c (.Call (.Name "str" p) [e] [] pos) s P := by
  refine ae_callT (r := fun ds s P => ∃ n : Nat, ds = [.int (n : Nat)] ∧ n < 10 ^ 15 ∧ P (.str (decN n)) s) (fun X hX => call_str_int) (fun X _ => ?_) hm (by decide +kernel) (aa_one (h.mono fun d s1 ⟨n, h1, h2, h3⟩ => ⟨n, by rw [h1], h2, h3⟩) he) hg (by decide) (by decide) he (fun _ => rfl)
  intro σ τ τv H s vs ds P Q l R h hq
  obtain ⟨n, rfl, hn, h⟩ := h
  obtain ⟨v, rfl⟩ := one_v l
  have R1 : Rep c s σ (.int (n : Nat) :: τ) (v :: τv) H := R
  have e1 := R1.int
  subst e1
  refine ⟨_, rfl, ?_, hq _ _ _ _ h (R1.pop.push fun F os => ?_)⟩
  · show (n : Int).natAbs.log2 < 1920
    have : (n : Int).natAbs = n := rfl
    rw [this]
    by_cases q : n = 0
    · subst q
      decide
    · exact (Nat.log2_lt q).mpr (Nat.lt_of_lt_of_le hn (Nat.le_trans (show 10 ^ 15 ≤ 2 ^ 60 by decide) (Nat.pow_le_pow_right (by decide) (by decide))))
  · have e0 : ∀ x : Str, S x.cps.toList = x := fun x => by
      cases x
      simp [S]
    have h1 : ∀ (K : PySem.W.Frag) (F : Hp) (os : List Addr), Rp K F os (.str (S (decN n))) (.str (decN n)) := fun K F os => .str _
    unfold decN at h1 ⊢
    rw [e0] at h1
    exact h1 _ _ _
end G9

namespace G9
open PySem PySem.Spec PyProof.Rows L2
section
variable {c : SC}
variable {s : Sta} {P : D → Sta → Prop} {elt tg iter : Expr} {ifs : List Expr} {scope : Scope} {pos px : Pos} {x : Str} {i0 : Nat} {own : Bool} {vs : List Nat}
/-- what an iterator over two values yields -/
structure ItOk2 (c : SC) (J : It) (Φ : Sta → Prop) (d : D) (v : V) (d2 : D) (v2 : V) (xs : List D) : Prop where
  go : ∀ (i : Nat) s σ τ τv H, Φ s → Rep c s σ (d :: d2 :: τ) (v :: v2 :: τv) H → i < xs.length → J.go i H ∧ ∀ x H', J.yld i H x H' → ∃ y, xs[i]? = some y ∧ Rep c s σ (y :: d :: d2 :: τ) (x :: v :: v2 :: τv) H'
  stop : ∀ s σ τ τv H, Φ s → Rep c s σ (d :: d2 :: τ) (v :: v2 :: τv) H → J.stop xs.length H
theorem lc_readZ {X : Cx} (hX : XC c X) {ow : List (Str × Nat)} {σ : L2.St} {τ : List D} {τv : List V} {H : Hp} {Q : VK} (hq : FinE c P σ τ τv Q) (hlen : ifs.length ≤ 1)
    (h : ∀ R' : It → Hp → Prop, (∀ J d v d2 v2 xs Φ s1 H1, LcQ c scope elt tg ifs (ow.map (·.2)) own P xs Φ s1 → Rep c s1 σ (d :: d2 :: τ) (v :: v2 :: τv) H1 → ItOk2 c J Φ d v d2 v2 xs → R' J H1) → WI X tg iter σ H R') :
    tLc (WI X tg iter) (fun y σ H Q => ∀ s0 H0 C cl fp, WG (X.blk s0 H0 scope (compEnvC scope cl C X.env) fp) tg y σ H Q) (fun σ H Q => ∀ s0 H0 C cl fp, match ifs with
        | [] => Q true H
        | [t] => WT (X.blk s0 H0 scope (compEnvC scope cl C X.env) fp) t σ H Q
        | _ => False) (fun σ H Q => ∀ s0 H0 C cl fp, WE (X.blk s0 H0 scope (compEnvC scope cl C X.env) fp) elt σ H Q) (ow.map (·.2)) σ H Q := by
  refine h _ fun J d v d2 v2 xs Φ s1 H1 h1 R1 ok => ?_
  have hq : FinE c P σ (d2 :: τ) (v2 :: τv) Q := fun e s' w H' hp R' => hq e s' w H' hp (R'.temps fun F os r => by
    cases r with
    | cons a r => exact .cons a r.tail)
  have okgo : ∀ (i : Nat) (s : Sta) (σ : L2.St) (H : Hp) {x : D} {xv : V}, Φ s → Rep c s σ (d :: x :: d2 :: τ) (v :: xv :: v2 :: τv) H → i < xs.length → J.go i H ∧ ∀ y H', J.yld i H y H' → ∃ yd, xs[i]? = some yd ∧ Rep c s σ (yd :: d :: x :: d2 :: τ) (y :: v :: xv :: v2 :: τv) H' := fun i s σ H x xv hΦ R hi => by
    have R' : Rep c s σ (d :: d2 :: x :: τ) (v :: v2 :: xv :: τv) H := R.temps fun F os r => by
      cases r with
      | cons a r =>
        cases r with
        | cons b r =>
          cases r with
          | cons e r => exact .cons a (.cons e (.cons b r))
    obtain ⟨g1, g2⟩ := ok.go i s σ _ _ H hΦ R' hi
    refine ⟨g1, fun y H' hy => ?_⟩
    obtain ⟨yd, h1, R2⟩ := g2 y H' hy
    refine ⟨yd, h1, R2.temps fun F os r => ?_⟩
    cases r with
    | cons z r =>
      cases r with
      | cons a r =>
        cases r with
        | cons e r =>
          cases r with
          | cons b r => exact .cons z (.cons a (.cons b (.cons e r)))
  have okstop : ∀ (s : Sta) (σ : L2.St) (H : Hp) {x : D} {xv : V}, Φ s → Rep c s σ (d :: x :: d2 :: τ) (v :: xv :: v2 :: τv) H → J.stop xs.length H := fun s σ H x xv hΦ R => ok.stop s σ (x :: τ) (xv :: τv) H hΦ (R.temps fun F os r => by
    cases r with
    | cons a r =>
      cases r with
      | cons b r =>
        cases r with
        | cons e r => exact .cons a (.cons e (.cons b r)))
  clear ok
  generalize d2 :: τ = τ at *
  generalize v2 :: τv = τv at *
  obtain ⟨I, h0, hI, turn, done, hz⟩ := h1
  intro Dd hD
  obtain ⟨l1, l2⟩ := R1.ol
  generalize hvs : ow.map (·.2) = vs at *
  have R2 : Rep c ⟨s1.r, s1.o ++ [.lst []]⟩ σ (.ob s1.o.length :: d :: τ) (.ref Dd :: v :: τv) (upd H1 Dd (.lst [])) := R1.own hD fun F os r => .nil
  have R3 : Rep c ⟨wipeD s1.r vs, s1.o ++ [.lst []]⟩ σ (.ob s1.o.length :: d :: τ) (.ref Dd :: v :: τv) (upd H1 Dd (.lst [])) := by
    have := (R2.wipe (vs := vs) (scope := scope)).unwipe (σ := σ) (vs := vs) wipe_wipe
    have e : wipeD (wipeD s1.r vs) vs = wipeD s1.r vs := by
      have go : ∀ {ws us : List Nat} {r : List (Option D)}, (∀ i ∈ ws, i ∈ us) → wipeD (wipeD r ws) us = wipeD r us := by
        intro ws us r
        have one : ∀ {us : List Nat} {r : List (Option D)} {w : Nat}, w ∈ us → wipeD (r.set w none) us = wipeD r us := by
          intro us
          induction us with
          | nil => intro r w h; cases h
          | cons u us ih =>
            intro r w h
            unfold wipeD
            by_cases e : w ∈ us
            · rw [ih e]
            · have e2 : w = u := by
                rcases List.mem_cons.mp h with q | q
                · exact q
                · exact absurd q e
              subst e2
              have go2 : ∀ {ws : List Nat}, w ∉ ws → wipeD (r.set w none) ws = (wipeD r ws).set w none := by
                intro ws hw
                induction ws with
                | nil => rfl
                | cons y ws ih2 =>
                  unfold wipeD
                  rw [ih2 fun q => hw (List.mem_cons_of_mem _ q), List.set_comm _ _ (show w ≠ y from fun e => hw (by rw [e]; exact List.mem_cons_self))]
              rw [go2 e, List.set_set]
        induction ws generalizing r with
        | nil => intro _; rfl
        | cons w ws ih =>
          intro h
          show wipeD ((wipeD r ws).set w none) us = _
          rw [one (h w List.mem_cons_self), ih fun i hi => h i (List.mem_cons_of_mem _ hi)]
      exact go fun i h => h
    exact e ▸ this
  refine ⟨fun i m H => m = xs.length - i ∧ i ≤ xs.length ∧ ∃ acc s, I i acc s ∧ Rep c s σ (.ob s1.o.length :: d :: τ) (.ref Dd :: v :: τv) H, ⟨xs.length, by simp, Nat.zero_le _, [], _, h0, R3⟩, ?_⟩
  rintro i m H2 ⟨rfl, hi, acc, s2, hI2, R4⟩
  have sw : ∀ {s : Sta} {σ : L2.St} {H : Hp} {c : SC} {d1 d2 : D} {v1 v2 : V} {τ : List D} {τv : List V}, Rep c s σ (d1 :: d2 :: τ) (v1 :: v2 :: τv) H → Rep c s σ (d2 :: d1 :: τ) (v2 :: v1 :: τv) H := fun R => R.temps fun F os r => by
    cases r with
    | cons a r =>
      cases r with
      | cons b r => exact .cons b (.cons a r)
  obtain ⟨q1, q2, q3, q4⟩ := hI i acc s2 hI2
  by_cases hlt : i < xs.length
  · obtain ⟨g1, g2⟩ := okgo i s2 σ H2 q1 (sw R4) hlt
    refine .inr ⟨g1, fun H' => ∃ acc s', I (i + 1) acc s' ∧ Rep c s' σ (.ob s1.o.length :: d :: τ) (.ref Dd :: v :: τv) H', fun H' q => ⟨xs.length - (i + 1), by omega, rfl, by omega, q⟩, fun y H' hy => ?_⟩
    obtain ⟨yd, hy1, R5⟩ := g2 y H' hy
    have R6 : Rep c s2 σ (yd :: .ob s1.o.length :: d :: τ) (y :: .ref Dd :: v :: τv) H' := R5.temps fun F os r => by
      cases r with
      | cons a r =>
        cases r with
        | cons b r =>
          cases r with
          | cons c r => exact .cons a (.cons c (.cons b r))
    have R7 := R6.wipe (vs := vs) (scope := scope)
    have R8 : Rep (c.blk scope) s2 (wipe σ vs) (yd :: .ob s1.o.length :: d :: τ) (y :: .ref Dd :: v :: τv) H' := by
      obtain ⟨F, os, a, b, e, r⟩ := R7
      refine ⟨F, os, a, b, ⟨?_, fun k dd hk => ?_⟩, r⟩
      · have := e.len
        simp only [wipeD_len] at this ⊢
        exact this
      · exact e.get k dd (wipeD_id q4 k dd hk)
    intro t0 G0 C0 cl0 fp0
    refine AGw.run (turn i acc yd s2 hy1 hI2) _ (xc_blk hX t0 G0 C0 cl0 fp0) _ _ _ _ _ R8 _ fun sT σT HT T RT hwT => ?_
    have hw : wipe σT vs = wipe σ vs := by rw [hwT, wipe_wipe]
    refine ⟨by rw [hw], ?_⟩
    have fin1 : ∀ (s3 : Sta) (H3 : Hp), (∃ s4, Gc (s1.o.length + 1) ⟨wipeD s3.r vs, s3.o⟩ s4 ∧ I (i + 1) acc s4) → Rep (c.blk scope) s3 σT (.ob s1.o.length :: d :: τ) (.ref Dd :: v :: τv) H3 →
        ∃ acc s', I (i + 1) acc s' ∧ Rep c s' σ (.ob s1.o.length :: d :: τ) (.ref Dd :: v :: τv) H3 := fun s3 H3 h R => by
      obtain ⟨s4, g, hI4⟩ := h
      have R1' := R.unwipe (σ := σ) (vs := vs) hw
      exact ⟨acc, s4, hI4, R1'.gc g (Nat.le_succ_of_le l1) ⟨by unfold D.bnd; exact Nat.lt_succ_self _, D.bndL_le (Nat.le_succ _) l2⟩⟩
    have fin2 : ∀ (s3 : Sta) (H3 : Hp), AE (c.blk scope) elt s3 (fun e s3 => s3.o[s1.o.length]? = some (.lst acc) ∧ ∃ s4, Gc (s1.o.length + 1) ⟨wipeD s3.r vs, s3.o.set s1.o.length (.lst (acc ++ [e]))⟩ s4 ∧ I (i + 1) (acc ++ [e]) s4) → Rep (c.blk scope) s3 σT (.ob s1.o.length :: d :: τ) (.ref Dd :: v :: τv) H3 →
        ∀ s0 H0 C cl fp, WE (X.blk s0 H0 scope (compEnvC scope cl C X.env) fp) elt σT H3 fun w H4 => ∃ acc, H4 Dd = some (.lst acc) ∧ acc.length < sizeLine ∧ ∃ acc' s', I (i + 1) acc' s' ∧ Rep c s' σ (.ob s1.o.length :: d :: τ) (.ref Dd :: v :: τv) (upd H4 Dd (.lst (acc ++ [w]))) := fun s3 H3 h R s0 H0 C cl fp => by
      refine h _ (xc_blk hX s0 H0 C cl fp) _ _ _ H3 R _ fun e s4 w H4 h4 Ra => ?_
      obtain ⟨ho, s5, g, hI5⟩ := h4
      have Rb := sw Ra
      obtain ⟨p, ws, e1, hp, F, os, _, _, r⟩ := Rb.obj ho
      cases e1
      have hl : ws.length = acc.length := by
        have := r.length
        have l2 := Rb.pop.len
        simp only [List.length_append, List.length_cons] at this l2 ⊢
        omega
      refine ⟨ws, hp, by omega, acc ++ [e], s5, hI5, ?_⟩
      have Rc := Rb.mut (ds' := acc ++ [e]) (vs := ws ++ [w]) ho fun F os ws' r1 e1 r2 => by
        rw [hp] at e1
        cases e1
        cases r2 with
        | cons a _ => exact r1.append (.cons a .nil)
      have Rd' := (sw Rc).pop.unwipe (σ := σ) (vs := vs) hw
      exact Rd'.gc g (Nat.le_succ_of_le l1) ⟨by unfold D.bnd; exact Nat.lt_succ_self _, D.bndL_le (Nat.le_succ _) l2⟩
    match ifs, hlen, T with
    | [], _, T =>
      intro s0 H0 C cl fp
      have T' : AE (c.blk scope) elt sT _ := T
      show ∀ s0 H0 C cl fp, _
      exact fin2 _ _ T' RT
    | [t], _, T =>
      intro s0 H0 C cl fp
      refine AT.run T _ (xc_blk hX s0 H0 C cl fp) _ _ _ HT RT _ fun b s3 H3 h3 R9 => ?_
      cases b with
      | true => exact fin2 s3 H3 h3 R9
      | false => exact fin1 s3 H3 h3 R9
  · have e : i = xs.length := by omega
    subst e
    exact .inl ⟨okstop s2 σ H2 q1 (sw R4), Rep.newC R4.pop2 q2 (done acc s2 hI2) l1 l2.2 hq⟩
/-- the pairs of two tuples -/
def zpD (as bs : List D) : List D := (as.zip bs).map fun q => .tup [q.1, q.2]
theorem ae_two2 {e e2 : Expr} {PA' : List D → Sta → Prop} (h : AE c e s fun d s1 => AE c e2 s1 fun d2 s2 => PA' [d, d2] s2) (hs : ∀ env, starEach [e, e2] env = (false, eval e env) :: starEach [e2] env := by intro _; rfl)
    (hs2 : ∀ env, starEach [e2] env = (false, eval e2 env) :: starEach [] env := by intro _; rfl) : AA c [e, e2] s PA' := aa_two h hs hs2
theorem zip_run {X : Cx} (hX : XC c X) {e e2 : Expr} {p zpos tpos : Pos} {elts : List Expr} {kk : Nat} {PP : List D → (Sta → Prop) → Sta → Prop} {σ : L2.St} {τ : List D} {τv : List V} {H : Hp} (R : Rep c s σ τ τv H) (hm : c.mg "zip" = none) (hg : IsG c "zip")
    (hA : AA c [e, e2] s fun ds s1 => ∃ as bs, ds = [.tup as, .tup bs] ∧ as.length = bs.length ∧ PP (zpD as bs) (fun _ => True) s1)
    (hs : starEach [e, e2] X.env = (false, eval e X.env) :: starEach [e2] X.env) (hpl : (backTo zpos (starEach [e2] X.env)).any (·.1) = false)
    (R' : It → Hp → Prop) (hR : ∀ J d v d2 v2 xs Φ s1 H1, PP xs Φ s1 → Rep c s1 σ (d :: d2 :: τ) (v :: v2 :: τv) H1 → ItOk2 c J Φ d v d2 v2 xs → R' J H1) : WI X (.Tuple elts kk tpos) (.Call (.Name "zip" p) [e, e2] [] zpos) σ H R' := by
  refine WI.of (RZ.pi_zipA (gl_of hX hg) (by rw [hX.mg]; exact hm) pa_w hs hpl) (hA X hX σ τ τv H R _ fun ds s1 vs H1 hP hl R1 => ?_)
  obtain ⟨as, bs, rfl, hlen, hP⟩ := hP
  obtain ⟨v, v2, rfl⟩ : ∃ v v2, vs = [v, v2] := by
    match vs, hl with
    | [v, v2], _ => exact ⟨v, v2, rfl⟩
  have R1 : Rep c s1 σ (.tup as :: .tup bs :: τ) (v :: v2 :: τv) H1 := R1
  have sw : ∀ {s : Sta} {σ : L2.St} {H : Hp} {d1 d2 : D} {v1 v2 : V} {τ : List D} {τv : List V}, Rep c s σ (d1 :: d2 :: τ) (v1 :: v2 :: τv) H → Rep c s σ (d2 :: d1 :: τ) (v2 :: v1 :: τv) H := fun R => R.temps fun F os r => by
    cases r with
    | cons a r =>
      cases r with
      | cons b r => exact .cons b (.cons a r)
  obtain ⟨a, ws, rfl, q, l, _⟩ := R1.rdt
  obtain ⟨b, us, rfl, q2, l2, _⟩ := (sw R1).rdt
  have zl : (zpD as bs).length = as.length := by simp [zpD, hlen]
  rw [hX.K]
  refine ⟨a, b, ws, us, rfl, .inr ⟨q, q2, hR _ (.tup as) (.ref a) (.tup bs) (.ref b) _ _ s1 H1 hP R1 ⟨fun i s σ τ τv H hs R hi => ?_, fun s σ τ τv H hs R => ?_⟩⟩⟩
  · obtain ⟨a', ws', e1, q', l', R'⟩ := R.rdt
    cases e1
    rw [zl] at hi
    have hw : ws'[i]? = some ws'[i] := List.getElem?_eq_getElem (by omega)
    have hd1 : as[i]? = some as[i] := List.getElem?_eq_getElem hi
    have hd2 : bs[i]? = some bs[i] := List.getElem?_eq_getElem (by omega)
    have Ra : Rep c s σ (as[i] :: .tup as :: .tup bs :: τ) (ws'[i] :: .ref a :: .ref b :: τv) H := R'.temps fun F os r => by
      obtain ⟨r1, r2⟩ := RpL.split l' r
      obtain ⟨w', g1, g2⟩ := r1.get hd1
      rw [hw] at g1
      cases g1
      exact .cons g2 r2
    have Rc : Rep c s σ (.tup bs :: as[i] :: .tup as :: τ) (.ref b :: ws'[i] :: .ref a :: τv) H := Ra.temps fun F os r => by
      cases r with
      | cons x r =>
        cases r with
        | cons y r =>
          cases r with
          | cons z r => exact .cons z (.cons x (.cons y r))
    obtain ⟨b2, us', e3, q2', l3, R3⟩ := Rc.rdt
    cases e3
    have hu : us'[i]? = some us'[i] := List.getElem?_eq_getElem (by omega)
    have Rd : Rep c s σ (as[i] :: bs[i] :: .tup as :: .tup bs :: τ) (ws'[i] :: us'[i] :: .ref a :: .ref b :: τv) H := R3.temps fun F os r => by
      obtain ⟨r1, r2⟩ := RpL.split l3 r
      obtain ⟨w', g1, g2⟩ := r1.get hd2
      rw [hu] at g1
      cases g1
      cases r2 with
      | cons z r =>
        cases r with
        | cons x r =>
          cases r with
          | cons y r => exact .cons x (.cons g2 (.cons y (.cons z r)))
    refine ⟨⟨ws', us', _, _, q', q2', hw, hu⟩, fun x H' hy => ?_⟩
    obtain ⟨T, y1, y2, rfl, hT, rfl, h1, h2⟩ := hy
    have h1 := h1 ws' q'
    have h2 := h2 us' q2'
    rw [hw] at h1
    rw [hu] at h2
    cases h1
    cases h2
    have Re := Rd.lay (d := .tup [as[i], bs[i]]) (o := .tup [ws'[i], us'[i]]) hT fun F os r e => .tup (.inl (.inl e)) (by
      cases r with
      | cons q1 r =>
        cases r with
        | cons q2 _ => exact .cons q1 (.cons q2 .nil))
    refine ⟨.tup [as[i], bs[i]], ?_, Re.temps fun F os r => ?_⟩
    · unfold zpD
      have ez : (as.zip bs)[i]? = some (as[i], bs[i]) := List.getElem?_zip_eq_some.mpr ⟨hd1, hd2⟩
      rw [List.getElem?_map, ez]
      rfl
    · cases r with
      | cons q r => exact .cons q r.tail.tail
  · obtain ⟨a', ws', e1, q', l', R'⟩ := R.rdt
    obtain ⟨b', us', e2, q2', l2', R2'⟩ := (sw R).rdt
    cases e1
    cases e2
    exact ⟨ws', us', q', q2', .inl (by rw [zl]; omega)⟩
variable {e e2 : Expr} {p zpos tpos : Pos} {elts : List Expr} {kk : Nat}
/-- y = [elt for a, b in zip(t, u)], t and u tuples of one length -/
theorem as_lcz {PO' : Out → Prop} {y : Str} {py spos : Pos} {iy : Nat} (N0 : List Str) (sc0 : Scope) (own : Bool) (ow : List (Str × Nat)) (hm : c.mg "zip" = none) (hy : c.N[iy]? = some y) (hyl : c.sc.names.lookup y = some .local) (hk : c.sc.kind = .function) (hln : (py.line == pos.line) = true) (ha : (scope.names.any fun (n, k) => n == y && (k == .local || k == .cell)) = false)
    (ok : blkC N0 sc0 scope ow = true) (hlen : ifs.length ≤ 1) (h : AE c e s fun d s1 => AE c e2 s1 fun d2 s2 => ∃ as bs, d = .tup as ∧ d2 = .tup bs ∧ as.length = bs.length ∧ LcQ c scope elt (.Tuple elts kk tpos) ifs (ow.map (·.2)) own (fun d s => PO' (.nx ⟨s.r.set iy (some d), s.o⟩)) (zpD as bs) (fun _ => True) s2)
    (hg : IsG c "zip" := by rfl) (hs1 : ∀ env, starEach [e, e2] env = (false, eval e env) :: starEach [e2] env := by intro _; rfl) (hs2 : ∀ env, starEach [e2] env = (false, eval e2 env) :: starEach [] env := by intro _; rfl) (hpl : ∀ env, (backTo zpos (starEach [e2] env)).any (·.1) = false := by intro _; rfl)
    (hs : ∀ env y, foldedSetIterable (.Call (.Name "zip" p) [e, e2] [] zpos) env y = pure y := by intro _ _; rfl) (eN : c.N = N0 := by rfl) (eS : c.sc = sc0 := by rfl) : AS c (.Assign [.Name y py] (.ListComp elt [⟨.Tuple elts kk tpos, .Call (.Name "zip" p) [e, e2] [] zpos, ifs, 0⟩] scope pos) spos) s PO' := by
  refine ⟨?_⟩
  intro X hX σ τ τv H R E hq
  have hA : AA c [e, e2] s fun ds s1 => ∃ as bs, ds = [.tup as, .tup bs] ∧ as.length = bs.length ∧ LcQ c scope elt (.Tuple elts kk tpos) ifs (ow.map (·.2)) own (fun d s => PO' (.nx ⟨s.r.set iy (some d), s.o⟩)) (zpD as bs) (fun _ => True) s1 :=
    aa_two (h.mono fun d s1 q => q.mono fun d2 s2 ⟨as, bs, h1, h2, h3, h4⟩ => ⟨as, bs, by rw [h1, h2], h3, h4⟩) hs1 hs2
  exact WS.of (ps_setLc (own := ow) hX.calm (by rw [hX.N]; exact hX.nd) (by rw [hX.N]; exact hy) (by rw [hX.sc]; exact hyl) (sw_true (by rw [hX.sc]; exact hk) (by rw [hX.sc]; exact hyl) hln ha) pi_w (blkOk_by (by rw [hX.N, hX.sc, eN, eS]; exact ok)) (fun s0 H0 C cl fp => ⟨fun p s σ H v u Q I r q => q s0 H0 C cl fp p s u I r⟩) (fun s0 H0 C cl fp => pts_of hlen s0 H0 C cl fp) (fun s0 H0 C cl fp => ⟨fun p s σ H Q I q => q s0 H0 C cl fp p s I⟩) (hs _))
    (lc_readZ (Q := fun x H1 => gName iy x σ H1 E.nx) hX (fun d s' v H' hp R' => hq.nx _ _ _ hp R'.set) hlen fun R' hR => zip_run hX R hm hg hA (hs1 _) (hpl _) R' hR)
end
end G9

namespace G9
open PySem PySem.Spec PyProof.Rows L2
/-! ### exceptions: defs that raise, raise, try -/
abbrev SpecX := List D → List Ob → (D → List Ob → Prop) → (Value → D → List Ob → Prop) → Prop
def spX (w : World) (K : PySem.W.Frag) (R : SpecX) : Sp := fun vs H Q E => ∃ (ds : List D) (F : Hp) (os : List Addr) (O : List Ob) (P : D → List Ob → Prop) (PE : Value → D → List Ob → Prop), Ent w K F H os O ∧ RpL K F os vs ds ∧ R ds O P PE ∧
  (∀ d O' F' os' H' v, P d O' → Ext F H os F' H' os' → Ent w K F' H' os' O' → Rp K F' os' v d → Q v H') ∧
  ∀ cls p O' F' os' H' dd, PE cls p O' → Ext F H os F' H' os' → Ent w K F' H' os' O' → PayOk p dd H' → E cls dd H'
/-- a def that may raise, to be called by its name -/
structure CalX (P : Program) (w : World) (K : PySem.W.Frag) (mg : Str → Option Value) (base : Heap) (k : Nat) (x : Str) (R : SpecX) : Prop where
  ex : ∃ (f : Addr) (fd : FuncData) (ps : List Str), FnOk P w K mg base (L2.CX P w) k f fd ps (spX w K R) ∧ mg x = some (.ref f) ∧ PySem.W.keepIn K (.ref f) = true ∧ Binds K fd ps []
  mono : ∀ ds O Q Q' E E', (∀ d O', Q d O' → Q' d O') → (∀ cls p O', E cls p O' → E' cls p O') → R ds O Q E → R ds O Q' E'
theorem CalX.le {P : Program} {w : World} {K : PySem.W.Frag} {mg : Str → Option Value} {base : Heap} {j k : Nat} {x : Str} {R : SpecX} (C : CalX P w K mg base j x R) (h : j ≤ k) : CalX P w K mg base k x R := by
  obtain ⟨f, fd, ps, F, r⟩ := C.ex
  exact ⟨⟨f, fd, ps, F.mono h, r⟩, C.mono⟩
theorem CalX.mk' {P : Program} {w : World} {K : PySem.W.Frag} {mg : Str → Option Value} {base : Heap} {k : Nat} {x y qual : Str} {st : Stmt} {f : Addr} {fd : FuncData} {ps : List Str} {R : SpecX} (F : Fun K y qual st f fd) (h : FnOk P w K mg base (L2.CX P w) k f fd ps (spX w K R)) (n : mg x = some (.ref f)) (kp : PySem.W.keepIn K (.ref f) = true) (b : Binds K fd ps []) (mono : ∀ ds O Q Q' E E', (∀ d O', Q d O' → Q' d O') → (∀ cls p O', E cls p O' → E' cls p O') → R ds O Q E → R ds O Q' E') :
    CalX P w K mg base k x R := ⟨⟨f, fd, ps, h, n, kp, b⟩, mono⟩
section
variable {P : Program} {w : World} {K : PySem.W.Frag} {mg : Str → Option Value} {base : Heap}
theorem fnX {x qual : Str} {st : Stmt} {f : Addr} {fd : FuncData} {N ps : List Str} {k : Nat} {R : SpecX} (F : Fun K x qual st f fd) (Sc : FnScope N ps (defScope st)) (len : ∀ ds O Q E, R ds O Q E → ds.length = ps.length)
    (body : ∀ (F0 H0 : Hp) (os0 : List Addr) (ds : List D) (O : List Ob) (Q : D → List Ob → Prop) (PE : Value → D → List Ob → Prop), R ds O Q PE →
      ASs ⟨P, w, K, mg, base, N, defScope st, k, true, F0, H0, os0, fun cls p s => ∃ d' O', GcR O.length .non s.o d' O' ∧ PE cls p O'⟩ (defBody st) ⟨start N ds, O⟩ (RetP O.length Q)) :
    FnOk P w K mg base (L2.CX P w) (k + 1) f fd ps (spX w K R) := by
  refine F.okX Sc (fun vs H Q E h => ?_) (fun cdv A outer s H vs Q E hr h => ?_)
  · obtain ⟨ds, F, os, O, P, PE, _, h1, h2, _⟩ := h
    exact h1.length.trans (len _ _ _ _ h2)
  · obtain ⟨ds, F0, os, O, P', PE, he, hv, hR, hq, hqe⟩ := h
    refine ⟨_, pss_w, ?_⟩
    have hl : vs.length = ds.length := hv.length
    refine body F0 H os ds O P' PE hR _ ⟨rfl, rfl, rfl, rfl, rfl, rfl, rfl, Sc.nd, rfl, passes_of rfl, (takes_of rfl rfl rfl rfl).imp fun cls d σ H' h => ?_, hr, fun _ _ => rfl, fun _ => ⟨rfl, rfl⟩⟩ _ [] [] H ⟨F0, os, he, Ext.refl, ⟨?_, fun i d hd => ?_⟩, .nil⟩ _ ⟨fun s' σ' H' h R => ?_, fun d s' σ' v H' h R => ?_, fun _ _ _ h => h.elim, fun _ _ _ h => h.elim⟩
    · obtain ⟨p, s', ⟨d', O', g, hp⟩, pay, R⟩ := h
      obtain ⟨F', os', a, b, _, _⟩ := R
      obtain ⟨os2, a2, b2, r2⟩ := gcr_ok g a b (Nat.le_of_eq he.len) .non
      exact hqe cls p O' F' os2 H' d hp b2 a2 pay
    · show (L2.start N vs).length = (start N ds).length
      simp [L2.start, start, hl]
    · show ∃ v, (L2.start N vs)[i]? = some (some v) ∧ _
      have hi : i < ds.length := by
        rcases Nat.lt_or_ge i ds.length with q | q
        · exact q
        · unfold start at hd
          rw [List.getElem?_append_right (by simpa using q)] at hd
          have := List.mem_of_getElem? hd
          rw [List.mem_replicate] at this
          cases this.2
      unfold start at hd
      rw [List.getElem?_append_left (by simpa using hi), List.getElem?_map] at hd
      cases q : ds[i]? with
      | none =>
        rw [q] at hd
        cases hd
      | some y =>
        rw [q] at hd
        have e : y = d := Option.some.inj (Option.some.inj hd)
        subst e
        obtain ⟨v, h1, h2⟩ := hv.get q
        refine ⟨v, ?_, h2⟩
        unfold L2.start
        rw [List.getElem?_append_left (by simpa [hl] using hi), List.getElem?_map, h1]
        rfl
    · obtain ⟨d', O', g, hp⟩ := h
      obtain ⟨F', os', a, b, _, _⟩ := R
      obtain ⟨os2, a2, b2, r2⟩ := gcr_ok g a b (Nat.le_of_eq he.len) .non
      exact hq d' O' F' os2 H' _ hp b2 a2 r2
    · obtain ⟨d', O', g, hp⟩ := h
      obtain ⟨F', os', a, b, _, r⟩ := R
      cases r with
      | cons r _ =>
        obtain ⟨os2, a2, b2, r2⟩ := gcr_ok g a b (Nat.le_of_eq he.len) r
        exact hq d' O' F' os2 H' _ hp b2 a2 r2
end
section
variable {c : SC} {s : Sta} {e : Expr} {es : List Expr} {pos p p2 pos' : Pos} {x : Str}
theorem Rep.bare {σ : L2.St} {τ : List D} {τv : List V} {H : Hp} (R : Rep c s σ τ τv H) : Rep c s σ [] [] H := let ⟨F, os, a, b, e, _⟩ := R; ⟨F, os, a, b, e, .nil⟩
theorem fnX_at {X : Cx} (hX : XC c X) {kf : Nat} {f : Addr} {fd : FuncData} {ps : List Str} {sp : Sp} (F : FnOk c.prog c.w c.K c.mg c.base (L2.CX c.prog c.w) kf f fd ps sp) : FnOk X.prog X.w X.K X.mg X.base (L2.CX X.prog X.w) kf f fd ps sp := by
  rw [hX.prog, hX.w, hX.K, hX.mg, hX.base]
  exact F
/-- a call of a def that may raise -/
theorem ae_callX {P : D → Sta → Prop} {kf : Nat} {R : SpecX} (C : CalX c.prog c.w c.K c.mg c.base kf x R) (hk : kf ≤ c.k) (h : AA c (e :: es) s fun ds s1 => R ds s1.o (fun d o => P d ⟨s1.r, o⟩) fun cls p o => c.err cls p ⟨s1.r, o⟩)
    (hg : IsG c x := by rfl) (hdb : (x == ("__debug__" : Str)) = false := by decide) (he : ∀ env, starEach (e :: es) env = (false, eval e env) :: starEach es env := by intro _; rfl)
    (hpl : ∀ env, (backTo pos (starEach es env)).any (·.1) = false := by intro _; rfl) : AE c (.Call (.Name x p) (e :: es) [] pos) s P := by
  refine ⟨?_⟩
  intro X hX σ τ τv H R Q hq
  obtain ⟨f, fd, ps, F, hm, kp, hb⟩ := C.ex
  refine WE.of (pe_callS (fnX_at hX F) (hX.room.mono hk) (gl_of hX hg) (by rw [hX.mg]; exact hm) (by rw [hX.K]; exact kp) (by rw [hX.K]; exact hb) (fun σ => passAt hX.tk σ) pa_w hdb (he _) (hpl _)) ?_
  refine h X hX σ τ τv H R _ fun ds s1 vs H1 h1 hl R1 => ?_
  obtain ⟨F1, os1, a1, b1, e1, r1⟩ := R1
  obtain ⟨ra, rb⟩ := RpL.split hl r1
  refine ⟨ds, F1, os1, s1.o, _, _, a1, ra, h1, fun d O' F' os' H' v hp ext ent rp => hq d ⟨s1.r, O'⟩ v H' hp ⟨F', os', ent, b1.trans a1 ext, e1.mono ext.ff ext.pre, .cons rp (rb.mono ext.ff ext.pre)⟩,
    fun cls p O' F' os' H' dd hp ext ent pay => ⟨p, ⟨s1.r, O'⟩, hp, pay, F', os', ent, b1.trans a1 ext, e1.mono ext.ff ext.pre, .nil⟩⟩
/-- what is known of an own exception class without own __init__, to raise it -/
structure XOwn (K : PySem.W.Frag) (mg : Str → Option Value) (x : Str) (C : Addr) : Prop where
  ok : PySem.W.excIn K C [.type "ValueError", .type "Exception", .type "BaseException", .type "object"] "ValueError.__new__" = true
  g : mg x = some (.ref C)
  kp : PySem.W.keepIn K (.ref C) = true
  sb : PySem.W.subIn K (.ref C) (.type "BaseException") = some true
  ty : PySem.W.typeIn K (.ref C) = some (.type "type")
/-- raise X('m') -/
theorem as_raise {P : Out → Prop} {m : Str} {j : Nat} {C : Addr} (T : XOwn c.K c.mg x C) (h : c.err (.ref C) .non s) (hg : IsG c x := by rfl) (hdb : (x == ("__debug__" : Str)) = false := by decide) :
    AS c (.Raise (some (.Call (.Name x p) [.Constant (.str m) j p2] [] pos)) none pos') s P := by
  refine ⟨?_⟩
  intro X hX σ τ τv H R E hq
  have ek := hX.K
  refine WS.of (ps_raise hX.calm hX.tk (pmk_own PySem.F.excBase_ValueError (by rw [ek]; exact T.ok) (by rw [hX.mg]; exact T.g) (by rw [ek]; exact T.kp) (raises_own (by rw [ek]; exact T.sb) (by rw [ek]; exact T.ty)) (gl_of hX hg) hdb)) ?_
  exact ⟨.non, s, h, .inl ⟨rfl, rfl⟩, R.bare⟩
/-- the context of a try's body -/
def SC.tr (c : SC) (F0 H0 : Hp) (os0 : List Addr) (err : Value → D → Sta → Prop) : SC := { c with F0 := F0, H0 := H0, os0 := os0, err := err }
/-- a state behind the try's start is a state of the def -/
theorem Rep.tr {F0 H0 : Hp} {os0 : List Addr} {err : Value → D → Sta → Prop} {s s' : Sta} {σ' : L2.St} {τ τ' : List D} {τv τv' : List V} {H' : Hp} (a : Ent c.w c.K F0 H0 os0 s.o) (b : Ext c.F0 c.H0 c.os0 F0 H0 os0) (r : RpL c.K F0 os0 τv τ)
    (R : Rep (c.tr F0 H0 os0 err) s' σ' τ' τv' H') : Rep c s' σ' (τ' ++ τ) (τv' ++ τv) H' := by
  obtain ⟨F, os, a1, b1, e1, r1⟩ := R
  have b1' : Ext F0 H0 os0 F H' os := b1
  exact ⟨F, os, a1, b.trans a b1', e1, r1.append (r.mono b1'.ff b1'.pre)⟩
theorem xc_tr {X : Cx} (hX : XC c X) {F0 H0 : Hp} {os0 : List Addr} {err : Value → D → Sta → Prop} {pn : List (Addr × Obj)} {xe : Value → Shared → Prop} (tk : Takes (X.tr pn xe) (Wish (c.tr F0 H0 os0 err))) (ps : PassesOwn (model X.prog X.w) X.A X.env xe) : XC (c.tr F0 H0 os0 err) (X.tr pn xe) :=
  ⟨hX.prog, hX.w, hX.K, hX.mg, hX.base, hX.N, hX.sc, hX.nd, hX.calm, ps, tk, hX.room, hX.fn, hX.top⟩
/-- the suite of an except clause, the exception of the class cls with the fields p in hand -/
def SuiO (c : SC) (suite : List Stmt) (cls : Value) (p : D) (s : Sta) (P : Out → Prop) : Prop := ∀ X, XC c X → ∀ σ τ τv H, Rep c s σ τ τv H → ∀ (a : Addr) (oe : Obj) (d : Option Addr) (pn : List (Addr × Obj)), Zc cls d oe → (∃ vs, oe.data = .fields vs) → H a = none → PayOk p d H → ∀ E, FinS c P τ τv E →
  WSs (X.suite a ((a, oe) :: pn)) suite E σ H
def SuiA (c : SC) (i : Nat) (suite : List Stmt) (cls : Value) (p : D) (s : Sta) (P : Out → Prop) : Prop := ∀ X, XC c X → ∀ σ τ τv H, Rep c s σ τ τv H → ∀ (a : Addr) (oe : Obj) (d : Option Addr) (pn : List (Addr × Obj)), Zc cls d oe → (∃ vs, oe.data = .fields vs) → H a = none → PayOk p d H → ∀ E, FinS c P τ τv E →
  WSs (X.suite a ((a, oe) :: pn)) suite { nx := fun σ' H' => E.nx (σ'.set i none) H', rt := E.rt, bk := fun σ' H' => E.bk (σ'.set i none) H', ct := fun σ' H' => E.ct (σ'.set i none) H' } (σ.set i (some (.ref a))) H
/-- the class that an except clause names -/
def NamesC (c : SC) (x : Str) (C : Value) : Prop := IsG c x ∧ (x == ("__debug__" : Str)) = false ∧ (c.mg x = some C ∨ (c.mg x = none ∧ bootBuiltins x = some C ∧ x ≠ "__name__"))
theorem names_of {X : Cx} (hX : XC c X) {C : Value} (h : NamesC c x C) : Names X x C := ⟨gl_of hX h.1, h.2.1, by rw [hX.mg]; exact h.2.2⟩
variable {body suite : List Stmt} {b₀ : Stmt} {np : Pos} {n : Str} {C : Value}
theorem finS_tr {F0 H0 : Hp} {os0 : List Addr} {err : Value → D → Sta → Prop} {s : Sta} {τ : List D} {τv : List V} {P : Out → Prop} {E : Ends} (a : Ent c.w c.K F0 H0 os0 s.o) (b : Ext c.F0 c.H0 c.os0 F0 H0 os0) (r : RpL c.K F0 os0 τv τ) (hq : FinS c P τ τv E) : FinS (c.tr F0 H0 os0 err) P [] [] E :=
  ⟨fun s' σ' H' hp R => hq.nx s' σ' H' hp (R.tr a b r), fun d s' σ' v H' hp R => hq.rt d s' σ' v H' hp (R.tr a b r), fun s' σ' H' hp R => hq.bk s' σ' H' hp (R.tr a b r), fun s' σ' H' hp R => hq.ct s' σ' H' hp (R.tr a b r)⟩
/-- try: body / except x: suite -/
theorem as_try {P : Out → Prop} (hc : NamesC c x C) (ht : c.all = true) (h : ∀ F0 H0 os0, ASs (c.tr F0 H0 os0 fun cls p s' => ∃ b, PySem.W.exmOne c.K cls C = some b ∧ (b = true → SuiO c (b₀ :: suite) cls p s' P) ∧ (b = false → c.err cls p s')) body s P) :
    AS c (.Try body [.ExceptHandler (some (.Name x np)) none (b₀ :: suite) pos'] [] [] pos) s P := by
  refine ⟨?_⟩
  intro X hX σ τ τv H R E hq
  obtain ⟨t1, t2⟩ := hX.top ht
  obtain ⟨F, os, a, b, e, r⟩ := R
  refine WS.of (ps_try_only (tb := fun W D σ H => ∀ pn xe, Takes (X.tr pn xe) W → PassesOwn (model X.prog X.w) X.A X.env xe → WSs (X.tr pn xe) body D σ H)
    (ts := fun a cls d D σ H => ∀ oe pn, Zc cls d oe → (∃ vs, oe.data = .fields vs) → WSs (X.suite a ((a, oe) :: pn)) (b₀ :: suite) D σ H) t1 t2 (names_of hX hc) hX.tk (fun W pn xe tk ps => ⟨fun pins s σ H D I h => h pn xe tk ps pins s I⟩) (fun a oe cls d pn hz hf => ⟨fun pins s σ H D I h => h oe pn hz hf pins s I⟩)) ?_
  intro pn xe tk ps
  refine h F H os (X.tr pn xe) (xc_tr hX (tk.imp fun cls d σ' H' hw => ?_) ps) σ [] [] H ⟨F, os, a, Ext.refl, e, .nil⟩ E (finS_tr a b r hq)
  obtain ⟨p, s', ⟨bb, h1, h2, h3⟩, pay, R'⟩ := hw
  have R2 := R'.tr a b r
  refine ⟨bb, by rw [hX.K]; exact h1, fun hb a' na oe pn' hz hf => ?_, fun hb => ⟨p, s', h3 hb, pay, R2.bare⟩⟩
  exact h2 hb X hX σ' τ τv H' R2 a' oe d pn' hz hf na pay E hq
/-- try: body / except x as n: suite -/
theorem as_tryAs {P : Out → Prop} {i : Nat} (hc : NamesC c x C) (ht : c.all = true) (hi : c.N[i]? = some n) (hl : c.sc.names.lookup n = some .local) (h : ∀ F0 H0 os0, ASs (c.tr F0 H0 os0 fun cls p s' => ∃ b, PySem.W.exmOne c.K cls C = some b ∧ (b = true → SuiA c i (b₀ :: suite) cls p s' P) ∧ (b = false → c.err cls p s')) body s P) :
    AS c (.Try body [.ExceptHandler (some (.Name x np)) (some n) (b₀ :: suite) pos'] [] [] pos) s P := by
  refine ⟨?_⟩
  intro X hX σ τ τv H R E hq
  obtain ⟨t1, t2⟩ := hX.top ht
  obtain ⟨F, os, a, b, e, r⟩ := R
  refine WS.of (ps_try_as (i := i) (tb := fun W D σ H => ∀ pn xe, Takes (X.tr pn xe) W → PassesOwn (model X.prog X.w) X.A X.env xe → WSs (X.tr pn xe) body D σ H)
    (ts := fun a cls d D σ H => ∀ oe pn, Zc cls d oe → (∃ vs, oe.data = .fields vs) → WSs (X.suite a ((a, oe) :: pn)) (b₀ :: suite) D σ H) t1 t2 (by rw [hX.N]; exact hX.nd) (by rw [hX.N]; exact hi) (by unfold Env.kindOf; rw [hX.sc]; exact hl) (names_of hX hc) hX.tk (fun W pn xe tk ps => ⟨fun pins s σ H D I h => h pn xe tk ps pins s I⟩) (fun a oe cls d pn hz hf => ⟨fun pins s σ H D I h => h oe pn hz hf pins s I⟩)) ?_
  intro pn xe tk ps
  refine h F H os (X.tr pn xe) (xc_tr hX (tk.imp fun cls d σ' H' hw => ?_) ps) σ [] [] H ⟨F, os, a, Ext.refl, e, .nil⟩ E (finS_tr a b r hq)
  obtain ⟨p, s', ⟨bb, h1, h2, h3⟩, pay, R'⟩ := hw
  have R2 := R'.tr a b r
  refine ⟨bb, by rw [hX.K]; exact h1, fun hb a' na oe pn' hz hf => ?_, fun hb => ⟨p, s', h3 hb, pay, R2.bare⟩⟩
  exact h2 hb X hX σ' τ τv H' R2 a' oe d pn' hz hf na pay E hq
end
end G9

namespace G9
open PySem PySem.Spec PyProof.Rows L2
/-! ### sorted(set(l)), l a list of ints -/
abbrev bareSet (w : World) : Obj := { cls := .type "set", dict := none, data := .set #[] 0 (.fresh 0 0 (!w.params.followText "set-order")) }
/-- what set(l) leaves behind it -/
def Made (w : World) (s : Shared) (ns : List Int) (t : Shared) : Prop := ∃ (g : Heap) (k n : Nat), t = { s with heap := g, toks := k } ∧ SetR w g s.heap.objs.size (fun j => decide (j ∈ ns)) n ∧ n ≤ ns.length ∧ ∀ b o, s.heap.get? b = some o → g.get? b = some o
section
variable {P : Program} {w : World} {A : Around} {E : Value → Shared → Prop} {s : Shared}
/-- the new set is filled from the list -/
theorem set_fill {l : Addr} {items : Array Value} (ns : List Int) {B : Around} (hB : B.handled = none) (hl : s.heap.IsList l items) (hit : IntsAre items.toList ns) (hb : ns.length + 1 < scanBound) :
    codeAny (model P w) B (.call (.builtin "set.__init__") ⟨[.ref s.heap.objs.size, .ref l], []⟩) (wants (fun r t => r = .none ∧ Made w s ns t) E) { s with heap := s.heap.push (bareSet w) } := by
  have len : items.size = ns.length := by
    have q := IntsAre.length hit
    rwa [Array.length_toList] at q
  have at0 : (s.heap.push (bareSet w)).get? s.heap.objs.size = some (bareSet w) := Heap.get?_push_size _ rfl
  obtain ⟨o, ho, hc, m, hd⟩ := hl
  obtain ⟨oc, od, odt, osl⟩ := o
  dsimp only at hc hd
  subst hc hd
  have hl : s.heap.IsList l items := ⟨_, ho, rfl, m, rfl⟩
  have ho2 := Heap.get?_push_of_some (bareSet w) ho
  have hl2 := hl.push (bareSet w)
  have n1 := F.sub_list_set
  have n2 := F.sub_list_frozenset
  have n3 : (Value.type "list" == Value.type "dict") = false := by decide
  have lS := Heap.lt_size ho
  have sz : (s.heap.push (bareSet w)).objs.size = s.heap.objs.size + 1 := Heap.size_push ..
  refine codeAny_call_builtin F.called_set.init.plain F.entry_set_init (check_set_init_1 (s := { s with heap := s.heap.push (bareSet w) }) ⟨_, at0, rfl⟩ ?_)
  unfold Builtin.«set.__init__» noKeywords Builtin.Frozenset.updateFrom
  generalize ep : pyIter = pI
  wp_walk
  subst ep
  refine wpAny_pyIter_list hl2 ?_
  refine wpAny_bind (wpAny_runValue ?_)
  refine set_update_ints ((Walks.list (by simp [hB]) _ l (by rw [sz]; exact Nat.ne_of_lt (Nat.lt_succ_of_lt lS)) items).toS) s.heap.objs.size (by rw [sz]; simp only [List.mem_cons, List.not_mem_nil, or_false, not_or]; exact ⟨Nat.ne_of_lt (Nat.lt_succ_self _), Nat.ne_of_gt lS⟩) ns len hb (fun i v hv => ?_) (items.size - 0) 0 _ (by omega) (Nat.zero_le _)
    ⟨⟨_, Heap.get?_push_size _ rfl, rfl, rfl⟩, hl2.push _⟩ ⟨0, Nat.le_refl 0, setR_new_at (Heap.get?_push_of_some _ at0)⟩ fun t n hm hn hS => ?_
  · have hi : i < ns.length := by
      rw [← len]
      exact (Array.getElem?_eq_some_iff.mp hv).1
    obtain ⟨tk, e⟩ := IntsAre.int_at hit i v (by rw [Array.getElem?_toList]; exact hv)
    exact ⟨ns[i], tk, List.getElem?_eq_getElem hi, by rw [e, List.getD_eq_getElem?_getD, List.getElem?_eq_getElem hi]; rfl⟩
  · obtain ⟨g, gg, d, k, os⟩ := t
    have e1 : gg = s.gens := hm.gens
    have e2 : d = s.drawn := hm.drawn
    have e3 : os = s.os := hm.os
    subst e1 e2 e3
    show wpAny _ _ _ _ _ _
    refine wpAny_pure ?_
    show wpAny _ _ (ret Value.none) _ _ _
    refine wpAny_pure ⟨rfl, g, k, n, rfl, hS, by omega, fun b u e => ?_⟩
    have lb := Heap.lt_size e
    exact hm.heap b u (by rw [sz]; simp only [List.mem_cons, List.not_mem_nil, or_false, not_or]; exact ⟨Nat.ne_of_lt lb, Nat.ne_of_lt (Nat.lt_succ_of_lt lb)⟩) (Heap.get?_push_of_some _ (Heap.get?_push_of_some _ e))
theorem set_of_list {l : Addr} {items : Array Value} (ns : List Int) {Q : Value → Shared → Prop} (hh : A.handled = none) (hl : s.heap.IsList l items) (hit : IntsAre items.toList ns) (hb : ns.length + 1 < scanBound) (h : ∀ t, Made w s ns t → Q (.ref s.heap.objs.size) t) :
    wpAny (model P w) A (call (.type "set") [.ref l]) Q E s := by
  obtain ⟨cc, tl, hmro⟩ := F.called_set.mro
  have f1 := F.called_set.made
  have f2 := F.called_set.sub
  have f3 := F.called_set.notType
  have f4 := F.called_set.canCreate
  have f5 := F.typeCall_set_1 (.ref l)
  refine wpAny_call (codeAny_of_tree ?_)
  show wpAny _ _ (callAny (.type "set") _) _ _ _
  refine wpAny_pure ⟨Code.quiet_builtin _ (by decide +kernel), codeAny_builtin F.entry_type_call ?_⟩
  rw [Around.under_plain (weight_type_call_type "set" [.ref l] []) rfl]
  repeat (any_goals (first | assumption | wp_step))
  refine codeAny_mono (code_set_led1 (.ref l) (E := E) (Q₁ := fun u t => u = .ref s.heap.objs.size ∧ t = { s with heap := s.heap.push (bareSet w) }) ⟨rfl, rfl⟩) fun r t hr => ?_
  match r, hr with
  | .error e, hr => exact hr
  | .ok (.ret u), hr =>
    obtain ⟨rfl, rfl⟩ := hr
    have at0 : (s.heap.push (bareSet w)).get? s.heap.objs.size = some (bareSet w) := Heap.get?_push_size _ rfl
    have hT : Shared.TypeIs { s with heap := s.heap.push (bareSet w) } (.ref s.heap.objs.size) "set" := ⟨_, at0, rfl⟩
    have f6 := F.called_set.init.lookup
    have f7 := F.called_set.init.bind (.ref s.heap.objs.size)
    repeat (any_goals (first | assumption | wp_step))
    refine codeAny_mono (set_fill (E := E) ns (by simp [hh]) hl hit hb) fun r2 t2 hr2 => ?_
    match r2, hr2 with
    | .error e, hr2 => exact hr2
    | .ok (.ret r), hr2 =>
      obtain ⟨rfl, hm⟩ := hr2
      repeat (any_goals (first | assumption | wp_step))
      exact h _ hm
end
end G9
namespace G9
open PySem PySem.Spec PyProof.Rows L2
def rSetI (K : PySem.W.Frag) (w : World) : List V → Hp → VK → Prop := fun vs H Q => ∃ (l : Addr) (ns : List Int), vs = [.ref l] ∧ SqL K H l (ns.map V.int) ∧ ns.length + 1 < scanBound ∧ ∀ (p : Addr) (n : Nat), H p = none → n ≤ ns.length → Q (.ref p) (upd H p (SetO w p (fun j => decide (j ∈ ns)) n))
theorem cr_setI {X : Cx} (hc : X.calm = true) : CallR X (.type "set") (rSetI X.K X.w) := by
  intro pins s σ H vs us Q I r h
  obtain ⟨l, ns, rfl, hs, hb, q⟩ := h
  rw [Vals.ref1 r]
  obtain ⟨its, rv, pl, hz⟩ := I.list hs
  refine set_of_list ns (I.ok.hd hc) pl.isList (by simpa using ints_of_vals rv) hb fun t ht => ?_
  obtain ⟨g, k, n, rfl, hR, hn, kp⟩ := ht
  have fr : H s.heap.objs.size = none := I.hok.fresh (Nat.le_refl _)
  exact ⟨.ref s.heap.objs.size, upd H s.heap.objs.size (SetO X.w s.heap.objs.size (fun j => decide (j ∈ ns)) n), I.laid (t' := k) kp (Nat.le_refl _) (setO_new hR), rfl, q _ n fr hn⟩
theorem sortI_set {ns ms : List Int} (hm : ms.Pairwise (· < ·)) (h : ∀ k, k ∈ ms ↔ k ∈ ns) {ms2 : List Int} (hm2 : ms2.Pairwise (· < ·)) (h2 : ∀ k, k ∈ ms2 ↔ k ∈ ns) : ms = ms2 := by
  induction ms generalizing ms2 ns with
  | nil =>
    cases ms2 with
    | nil => rfl
    | cons b r => exact absurd ((h b).mpr ((h2 b).mp (by simp))) (by simp)
  | cons a l ih =>
    cases ms2 with
    | nil => exact absurd ((h2 a).mpr ((h a).mp (by simp))) (by simp)
    | cons b r =>
      obtain ⟨a1, a2⟩ := List.pairwise_cons.mp hm
      obtain ⟨b1, b2⟩ := List.pairwise_cons.mp hm2
      have ab : a = b := by
        rcases List.mem_cons.mp ((h2 a).mpr ((h a).mp (by simp))) with q | q
        · exact q
        rcases List.mem_cons.mp ((h b).mpr ((h2 b).mp (by simp))) with p | p
        · exact p.symm
        have := b1 a q
        have := a1 b p
        omega
      subst ab
      have : l = r := ih (ns := ns.filter (· != a)) a2 (fun k => by
        rw [List.mem_filter, ← h k, List.mem_cons]
        constructor
        · intro q
          have := a1 k q
          exact ⟨.inr q, by simp; omega⟩
        · rintro ⟨q | q, n⟩
          · simp [q] at n
          · exact q) b2 (fun k => by
        rw [List.mem_filter, ← h2 k, List.mem_cons]
        constructor
        · intro q
          have := b1 k q
          exact ⟨.inr q, by simp; omega⟩
        · rintro ⟨q | q, n⟩
          · simp [q] at n
          · exact q)
      rw [this]
section
variable {c : SC} {s : Sta} {P : D → Sta → Prop} {e o : Expr} {pos pos2 p p2 apos cpos : Pos}
/-- sorted(set(l)) -/
theorem ae_sortedSet (own : Bool) (hm : c.mg "sorted" = none) (hm2 : c.mg "set" = none) (h : AE c e s fun d s1 => ∃ l : List Int, RdL s1 d (l.map D.int) ∧ l.length < 64 ∧ ∀ ms : List Int, ms.Pairwise (· < ·) → (∀ k, k ∈ ms ↔ k ∈ l) → NewL own s1 (ms.map D.int) P) (hg : IsG c "sorted" := by rfl) (hg2 : IsG c "set" := by rfl)
    (he : ∀ env, starEach [e] env = (false, eval e env) :: starEach [] env := by intro _; rfl) (he2 : ∀ env, starEach [.Call (.Name "set" p2) [e] [] pos2] env = (false, eval (.Call (.Name "set" p2) [e] [] pos2) env) :: starEach [] env := by intro _; rfl) : AE c (.Call (.Name "sorted" p) [.Call (.Name "set" p2) [e] [] pos2] [] pos) s P := by
  refine ⟨?_⟩
  intro X hX σ τ τv H R Q hq
  refine WE.of (pe_callB (cr_sortedSet hX.calm) (gl_of hX hg) (by rw [hX.mg]; exact hm) (by decide +kernel) (pa_cons (pe_callTy (cr_setI hX.calm) (gl_of hX hg2) (by rw [hX.mg]; exact hm2) boot_set (pa_cons pe_w pa_nil (he _)) (by decide) (by decide) (he _) rfl) pa_nil (he2 _)) (by decide) (by decide) (he2 _) rfl) ?_
  refine h X hX σ τ τv H R _ fun d s1 v H1 h1 R1 => ?_
  obtain ⟨l, hd, hz, h1⟩ := h1
  obtain ⟨a, rfl, q⟩ := R1.intsL hd
  refine ⟨a, l, rfl, by rw [hX.K]; exact q, by unfold scanBound; omega, fun p1 n np hn => ?_⟩
  refine ⟨p1, _, n, rfl, upd_same, by omega, fun ms p3 hs hk hl np3 => ?_⟩
  have R2 : Rep c s1 σ (d :: τ) (.ref a :: τv) (upd H1 p1 (SetO X.w p1 (fun j => decide (j ∈ l)) n)) := R1.grow (fun b o e => by rw [upd_ne (ne_of_none e np)]; exact e) fun F os r _ => r
  exact R2.newL np3 (fun F os _ => rp_ints _) (fun F os r => r.tail) (h1 ms hs fun k => by rw [hk]; simp) hq
theorem occ_none {l : List Nat} {x : Nat} (h : x ∉ l) : Builtin.Str.occurrences (S l) (S [x]) 0 (S l).length 1 = [] := by
  rw [StrLaws.occ_eq, S_len, Nat.sub_zero]
  have go : ∀ (m : List Nat) (k : Nat), (forIn (m := Id) m ((#[] : Array Nat), k) (StrLaws.occBody (S l) (S [x]) l.length 1)).run.fst.toList = [] := by
    intro m
    induction m with
    | nil => intro k; rfl
    | cons b r ih =>
      intro k
      have no : ¬ ((((#[] : Array Nat).size < 1 ∧ k ≤ b) ∧ b + (S [x]).length ≤ l.length) ∧ Builtin.Str.subAt (S l) (S [x]) b = true) := fun q => by
        have h1 := q.1.2
        rw [S_len] at h1
        have hb : b < l.length := by
          simp at h1
          omega
        rw [sub_one l x b hb] at q
        have := of_decide_eq_true q.2
        exact h (List.mem_of_getElem? this)
      simp only [List.forIn_cons, StrLaws.occBody, if_neg no]
      exact ih k
  exact go _ _
def findD (l : List Nat) (x : Nat) : Int := if x ∈ l then (l.idxOf x : Nat) else -1
theorem find_one (l : List Nat) (x : Nat) : Txt.find (S l) (S [x]) = findD l x := by
  unfold Txt.find findD
  by_cases h : x ∈ l
  · rw [occ_one h, if_pos h]
  · rw [occ_none h, if_neg h]
/-- s.find(sign) -/
theorem ae_find (h : AE c o s fun d s1 => isS d fun l => AE c e s1 fun y s2 => ∃ k, y = .str [k] ∧ P (.int (findD l k)) s2)
    (hbase : ∀ env, attributeBase o "find" env (eval o env) = eval o env := by intro _; rfl) (hline : (apos.endLine == cpos.line) = true := by rfl) (hs : ∀ env, starEach [e] env = (false, eval e env) :: starEach [] env := by intro _; rfl)
    (hfew : ∀ env, ((backTo cpos (starEach [e] env)).all (fun x => !x.1) && (backToKw cpos (keywordEach [] env)).all (fun x => x.1.isSome)
      && decide ([e].length + ([] : List Keyword).length + (if ([] : List Keyword).isEmpty then 0 else 1) < 30)) = true := by intro _; rfl) : AE c (.Call (.Attribute o "find" apos) [e] [] cpos) s P := by
  refine ae_bm PySem.F.plainAttrs_str PySem.F.slot_str_find PySem.F.type_str_find (r := fun d ds s P => ∃ l k, d = .str l ∧ ds = [.str [k]] ∧ P (.int (findD l k)) s) (fun X hX => mt_find) (fun X _ => ?_)
    (h.mono fun d s1 ⟨l, h1, h3⟩ => ⟨by subst h1; exact .inl ⟨rfl, l, rfl⟩, aa_one (h3.mono fun y s2 ⟨k, h4, h6⟩ => ⟨l, k, h1, by rw [h4], h6⟩) hs⟩) hbase hfew hline hs (fun _ => rfl)
  intro σ τ τv H s v vs d ds P Q l R h hq
  obtain ⟨t, k, rfl, rfl, h⟩ := h
  obtain ⟨w, rfl⟩ := one_v l
  have R1 : Rep c s σ (.str t :: .str [k] :: τ) (v :: w :: τv) H := R.temps fun F os r => by
    cases r with
    | cons a r =>
      cases r with
      | cons b r => exact .cons b (.cons a r)
  have e1 := R1.str
  have e2 := R1.pop.str
  subst e1 e2
  exact ⟨S t, S [k], rfl, rfl, hq _ _ _ _ h (R1.pop.pop.push fun _ _ => by rw [find_one]; exact .int _)⟩
end
end G9

namespace G9
open PySem PySem.Spec PyProof.Rows L2
variable {c : SC}
theorem putO_two {j i : Nat} (ne : i ≠ j) {o : List Ob} {x y : Ob} (hx : Ob.bnd 0 x) (hy : Ob.bnd 0 y) : putO [j, i] o [x, y] = (o.set j x).set i y := by
  unfold putO
  have ed : ([x, y].drop [j, i].length).map (Ob.ren (idF [j, i] o.length)) = [] := rfl
  rw [ed, List.append_nil]
  refine List.ext_getElem? fun m => ?_
  rcases Nat.lt_or_ge m o.length with hm | hm
  · rw [List.getElem?_map, List.getElem?_range hm, List.getElem?_set, List.getElem?_set, List.length_set]
    by_cases h2 : i = m
    · subst h2
      rw [if_pos rfl, if_pos hm]
      have e1 : [j, i].findIdx? (· == i) = some 1 := by
        rw [List.findIdx?_cons, List.findIdx?_cons]
        have : (j == i) = false := by simp; omega
        rw [this]
        simp
      simp only [Option.map_some, e1]
      rw [show [x, y].getD 1 .dead = y from rfl, Ob.ren_closed hy]
    · rw [if_neg h2]
      by_cases h1 : j = m
      · subst h1
        rw [if_pos rfl, if_pos hm]
        have e1 : [j, i].findIdx? (· == j) = some 0 := by
          rw [List.findIdx?_cons]
          simp
        simp only [Option.map_some, e1]
        rw [show [x, y].getD 0 .dead = x from rfl, Ob.ren_closed hx]
      · rw [if_neg h1]
        have e1 : [j, i].findIdx? (· == m) = none := by
          rw [List.findIdx?_cons, List.findIdx?_cons]
          have q1 : (j == m) = false := by simpa using h1
          have q2 : (i == m) = false := by simpa using h2
          rw [q1, q2]
          simp
        simp only [Option.map_some, e1]
        rw [List.getD_eq_getElem?_getD, List.getElem?_eq_getElem hm]
        rfl
  · rw [List.getElem?_eq_none (by simpa using hm), List.getElem?_eq_none (by simpa using hm)]
section
variable {s : Sta} {P : D → Sta → Prop} {e : Expr} {es : List Expr} {pos p : Pos} {x : Str}
/-- a call that is handed the objects j and i (i as second one) -/
theorem ae_call2 {kf : Nat} {R : Spec} (j i : Nat) (ne : i ≠ j) (C : CalA c.prog c.w c.K c.mg c.base kf x R) (hk : kf ≤ c.k)
    (h : AA c (e :: es) s fun ds s1 => ∃ (dl : List D) (x y : Ob), ds = D.renL (idF [j, i] 0) dl ∧ D.bndL 2 dl ∧ s1.o[j]? = some x ∧ s1.o[i]? = some y ∧ Ob.bnd 0 x ∧ Ob.bnd 0 y ∧
      R dl [x, y] fun d O' => ∃ x' y', O' = [x', y'] ∧ Ob.bnd 0 x' ∧ Ob.bnd 0 y' ∧ D.bnd 0 d ∧ P d ⟨s1.r, (s1.o.set j x').set i y'⟩)
    (hg : IsG c x := by rfl) (hdb : (x == ("__debug__" : Str)) = false := by decide) (he : ∀ env, starEach (e :: es) env = (false, eval e env) :: starEach es env := by intro _; rfl)
    (hpl : ∀ env, (backTo pos (starEach es env)).any (·.1) = false := by intro _; rfl) : AE c (.Call (.Name x p) (e :: es) [] pos) s P := by
  refine ae_callJ [j, i] (by simp; omega) C hk (.mk fun X hX σ τ τv H R Q hq => h X hX σ τ τv H R Q fun ds s1 vs H1 ⟨dl, x, y, e1, hb, h1, h2, hx, hy, hR⟩ hlv R1 => hq ds s1 vs H1 ?_ hlv R1) hg hdb he hpl
  refine ⟨dl, [x, y], e1, hb, rfl, fun a b hab => ?_, C.mono _ _ _ _ (fun d O' ⟨x', y', e2, hx', hy', hd, q⟩ _ => ?_) hR⟩
  · match a, hab with
    | 0, hab =>
      cases hab
      exact ⟨x, rfl, by rw [Ob.ren_closed hx]; exact h1, Ob.bnd_le (Nat.zero_le _) hx⟩
    | 1, hab =>
      cases hab
      exact ⟨y, rfl, by rw [Ob.ren_closed hy]; exact h2, Ob.bnd_le (Nat.zero_le _) hy⟩
  · subst e2
    rw [putO_two ne hx' hy', D.ren_closed hd]
    exact q
end
end G9

namespace G9
open PySem PySem.Spec PyProof.Rows L2
/-! ### except suites: tests of the caught exception, plain answers -/
def Grow (H H' : Hp) : Prop := ∀ b o, H b = some o → H' b = some o
theorem Grow.refl (H : Hp) : Grow H H := fun _ _ h => h
theorem Grow.trans {H H1 H2 : Hp} (a : Grow H H1) (b : Grow H1 H2) : Grow H H2 := fun x o h => b x o (a x o h)
theorem Grow.upd {H H1 : Hp} {p : Addr} {o : HO} (a : Grow H H1) (n : H1 p = none) : Grow H (upd H1 p o) := fun x u h => by
  rw [upd_ne (ne_of_none (a x u h) n)]
  exact a x u h
/-- e gives v -/
def STe (Y : Cx) (i : Nat) (a : Addr) (e : Expr) (v : V) : Prop := ∀ σ H, σ[i]? = some (some (.ref a)) → ∀ Q : VK, (∀ H', Grow H H' → Q v H') → WE Y e σ H Q
def STt (Y : Cx) (i : Nat) (a : Addr) (e : Expr) (b : Bool) : Prop := ∀ σ H, σ[i]? = some (some (.ref a)) → ∀ Q : Bool → Hp → Prop, (∀ H', Grow H H' → Q b H') → WT Y e σ H Q
def STw (Y : Cx) (i : Nat) (a : Addr) (e : Expr) (b : Bool) : Prop := ∀ σ H, σ[i]? = some (some (.ref a)) → ∀ Q : Bool → Hp → Prop, (∀ H', Grow H H' → Q b H') → WW Y e σ H Q
def STa (Y : Cx) (i : Nat) (a : Addr) (es : List Expr) (vs : List V) : Prop := ∀ σ H, σ[i]? = some (some (.ref a)) → ∀ Q : List V → Hp → Prop, (∀ H', Grow H H' → Q vs H') → WA Y es σ H Q
/-- the suite returns v -/
def STs (Y : Cx) (i : Nat) (a : Addr) (st : List Stmt) (v : V) : Prop := ∀ σ H, σ[i]? = some (some (.ref a)) → ∀ E : Ends, (∀ H', Grow H H' → E.rt v H') → WSs Y st E σ H
section
variable {Y : Cx} {i : Nat} {a : Addr} {e e2 : Expr} {es rest : List Expr} {n x : Str} {pos p p2 : Pos} {b b' : Bool} {v : V} {t u more : List Stmt} {j : Nat}
theorem st_bl {k pos} : STe Y i a (.Constant (.bool b) k pos) (.bl b) := fun σ H _ Q q => WE.of pe_bl (q H (Grow.refl H))
theorem st_non {k pos} : STe Y i a (.Constant .none k pos) .non := fun σ H _ Q q => WE.of pe_non (q H (Grow.refl H))
theorem st_int {m : Int} {k pos} : STe Y i a (.Constant (.int m) k pos) (.int m) := fun σ H _ Q q => WE.of pe_int (q H (Grow.refl H))
theorem st_var (hn : Y.N[i]? = some n) (hl : Y.env.scope.names.lookup n = some .local) (h1 : (n == ("__debug__" : Str)) = false := by decide) (h2 : (n == ("__classdict__" : Str)) = false := by decide) : STe Y i a (.Name n pos) (.ref a) := fun σ H hi Q q =>
  WE.of (pe_var hn (.inl hl) h1 h2) ⟨_, hi, q H (Grow.refl H)⟩
theorem st_glob {w : Value} (hg : Gl Y x) (hm : Y.mg x = some w) (r : RelV v w) (hd : (x == ("__debug__" : Str)) = false := by decide) : STe Y i a (.Name x pos) v := fun σ H _ Q q => WE.of (pe_glob hg hm r hd) (q H (Grow.refl H))
theorem st_bltn {T : String} (hg : Gl Y x) (hm : Y.mg x = none) (hv : bootBuiltins x = some (.type T)) (hn : x ≠ "__name__" := by decide) (hd : (x == ("__debug__" : Str)) = false := by decide) : STe Y i a (.Name x pos) (.ty T) := fun σ H _ Q q =>
  WE.of (pe_bltn (v := .ty T) hg hm hv rfl hn hd) (q H (Grow.refl H))
theorem sta_nil : STa Y i a [] [] := fun σ H _ Q q => WA.of pa_nil (q H (Grow.refl H))
theorem sta_cons {vs : List V} (h : STe Y i a e v) (h2 : STa Y i a es vs) (hs : ∀ env, starEach (e :: es) env = (false, eval e env) :: starEach es env := by intro _; rfl) : STa Y i a (e :: es) (v :: vs) := fun σ H hi Q q =>
  WA.of (pa_cons pe_w pa_w (hs _)) (h σ H hi _ fun H1 g1 => h2 σ H1 hi _ fun H2 g2 => q H2 (g1.trans g2))
theorem st_val (h : STe Y i a e (.bl b)) (he : ∀ env whole, isTrue e env whole = (do let v ← whole; standAt e.pos; holding [v] (truthy v)) := by intro _ _; rfl) : STt Y i a e b := fun σ H hi Q q =>
  WT.of (pt_val pe_w (he _)) (h σ H hi _ fun H' g => ⟨b, rfl, q H' g⟩)
theorem st_not (h : STt Y i a e b) : STt Y i a (.UnaryOp .Not e pos) (!b) := fun σ H hi Q q => WT.of (pt_not pt_w) (h σ H hi _ fun H' g => q H' g)
theorem st_or (h : STt Y i a e b) (h2 : b = false → STw Y i a (.BoolOp .Or (e2 :: rest) pos) b') : STw Y i a (.BoolOp .Or (e :: e2 :: rest) pos) (b || b') := fun σ H hi Q q => by
  refine WW.of (pw_or pt_w pw_w) (h σ H hi _ fun H' g => ?_)
  cases b with
  | true => exact q H' g
  | false => exact h2 rfl σ H' hi _ fun H2 g2 => q H2 (g.trans g2)
theorem st_or1 (h : STt Y i a e b) : STw Y i a (.BoolOp .Or [e] pos) b := fun σ H hi Q q => WW.of (pw_or1 pt_w) (h σ H hi _ fun H' g => q H' g)
theorem st_w {op : BoolOp} (h : STw Y i a (.BoolOp op es pos) b) : STt Y i a (.BoolOp op es pos) b := fun σ H hi Q q => WT.of (PW.pt pw_w) (h σ H hi _ fun H' g => q H' g)
theorem st_andV {b' : Bool} (h : STe Y i a e (.bl b)) (h2 : b = true → STe Y i a (.BoolOp .And (e2 :: rest) pos) (.bl b')) : STe Y i a (.BoolOp .And (e :: e2 :: rest) pos) (.bl (b && b')) := fun σ H hi Q q => by
  refine WE.of (pe_and pe_w pe_w) (h σ H hi _ fun H' g => ⟨b, rfl, ?_⟩)
  cases b with
  | true =>
    rw [if_pos rfl]
    exact h2 rfl σ H' hi _ fun H2 g2 => q H2 (g.trans g2)
  | false => exact q H' g
theorem st_oneV {op} (h : STe Y i a e v) : STe Y i a (.BoolOp op [e] pos) v := fun σ H hi Q q => WE.of (pe_one pe_w) (h σ H hi Q q)
theorem st_notV (h : STe Y i a e (.bl b)) : STe Y i a (.UnaryOp .Not e pos) (.bl (!b)) := fun σ H hi Q q => WE.of (pe_not pe_w) (h σ H hi _ fun H' g => ⟨b, rfl, q H' g⟩)
theorem st_ret (h : STe Y i a e v) : STs Y i a [.Return (some e) pos] v := fun σ H hi E q => WSs.of (pss_one (ps_ret pe_w)) (h σ H hi _ fun H' g => q H' g)
theorem st_ifT (h : STt Y i a e true) (ht : STs Y i a t v) : STs Y i a (.If e t u pos :: more) v := fun σ H hi E q =>
  WSs.of (pss_cons (ps_if pt_w pss_w pss_w) pss_w) (h σ H hi _ fun H' g => (if_pos rfl).mpr (ht σ H' hi _ fun H2 g2 => q H2 (g.trans g2)))
theorem st_ifF (h : STt Y i a e false) (hm : STs Y i a more v) : STs Y i a (.If e t [] pos :: more) v := fun σ H hi E q =>
  WSs.of (pss_cons (ps_if pt_w pss_w pss_nil) pss_w) (h σ H hi _ fun H' g => (if_neg (by simp)).mpr (hm σ H' hi _ fun H2 g2 => q H2 (g.trans g2)))
end
end G9
namespace G9
open PySem PySem.Spec PyProof.Rows L2
/-- isinstance(e, (c1, ..)), e the exception that the suite holds -/
theorem call_isET {X : Cx} {a D : Addr} {oe : Obj} {pn : List (Addr × Obj)} (C : ExcC X.K D) (hz : Zc (.ref D) none oe) (hf : ∃ vs, oe.data = .fields vs) :
    CallR (X.suite a ((a, oe) :: pn)) (.builtin "isinstance") (fun xs H Q => ∃ (tp : Addr) (cs : List V) (ws : List Value) (b : Bool), xs = [.ref a, .ref tp] ∧ H tp = some (.tup cs) ∧ Paired ClsV cs ws ∧ PySem.W.kitAny X.K (.ref D) ws = some b ∧ Q (.bl b) H) := by
  intro pins s σ H xs us Q I r h
  obtain ⟨tp, cs, ws, b, rfl, hT, hp, e, q⟩ := h
  obtain ⟨u1, u2, rfl, r1, r2⟩ := vals2 r
  cases (show u1 = Value.ref a from r1)
  cases (show u2 = Value.ref tp from r2)
  obtain ⟨hget, _⟩ := I.pin (a, oe) (List.mem_append.mpr (.inl List.mem_cons_self))
  obtain ⟨vs, hv⟩ := hf
  have J : PySem.W.InstAt s.heap a oe D none := by
    obtain ⟨oc, od, oda, osl⟩ := oe
    obtain ⟨h1, h2⟩ := hz
    dsimp only at h1 h2 hv
    subst h1 h2 hv
    exact ⟨hget, rfl, rfl, trivial⟩
  obtain ⟨_, its, rv, o, h1, h2, n, h3⟩ := (show ObjOk X.prog X.w H s.heap tp (.tup cs) from I.hok tp _ hT)
  have e3 := ClsV.all hp rv
  subst e3
  obtain ⟨oc, od, dt, sl⟩ := o
  simp only at h2 h3
  subst h2 h3
  exact PySem.W.kia_tup (PySem.W.handS_kitx_exc C.hg C.hk C.hs C.hd C.ha C.hn C.ht C.hm) I.kIn J h1 e (fun z => nomatch z) fun tk => ⟨.bl b, H, I.tok tk, rfl, q⟩
section
variable {X : Cx} {i : Nat} {a D : Addr} {oe : Obj} {pn : List (Addr × Obj)} {e e2 : Expr} {es : List Expr} {pos p tp : Pos} {b : Bool} {kk : Nat}
theorem st_isi1 {c : V} {cv : Value} (C : ExcC X.K D) (hz : Zc (.ref D) none oe) (hf : ∃ vs, oe.data = .fields vs) (hg : Gl X "isinstance") (hm : X.mg "isinstance" = none) (h1 : STe (X.suite a ((a, oe) :: pn)) i a e (.ref a)) (h2 : STe (X.suite a ((a, oe) :: pn)) i a e2 c) (hc : ∀ u, RelV c u → u = cv) (hk : PySem.W.kitOne X.K (.ref D) cv = some b)
    (he : ∀ env, starEach [e, e2] env = (false, eval e env) :: starEach [e2] env := by intro _; rfl) (he2 : ∀ env, starEach [e2] env = (false, eval e2 env) :: starEach [] env := by intro _; rfl) (hpl : ∀ env, (backTo pos (starEach [e2] env)).any (·.1) = false := by intro _; rfl) :
    STe (X.suite a ((a, oe) :: pn)) i a (.Call (.Name "isinstance" p) [e, e2] [] pos) (.bl b) := fun σ H hi Q q => by
  refine WE.of (pe_callB (call_isE C hz hf) hg hm (by decide +kernel) (pa_cons pe_w (pa_cons pe_w pa_nil (he2 _)) (he _)) (by decide) (by decide) (he _) (hpl _)) (h1 σ H hi _ fun H1 g1 => h2 σ H1 hi _ fun H2 g2 => ?_)
  exact ⟨c, cv, b, rfl, hc, hk, q H2 (g1.trans g2)⟩
theorem st_isiT {cs : List V} {ws : List Value} (C : ExcC X.K D) (hz : Zc (.ref D) none oe) (hf : ∃ vs, oe.data = .fields vs) (hg : Gl X "isinstance") (hm : X.mg "isinstance" = none) (h1 : STe (X.suite a ((a, oe) :: pn)) i a e (.ref a)) (h2 : STa (X.suite a ((a, oe) :: pn)) i a es cs) (hp : Paired ClsV cs ws) (hz2 : cs.length ≤ sizeLine) (hk : PySem.W.kitAny X.K (.ref D) ws = some b)
    (he : ∀ env, starEach [e, .Tuple es kk tp] env = (false, eval e env) :: starEach [.Tuple es kk tp] env := by intro _; rfl) (he2 : ∀ env, starEach [.Tuple es kk tp] env = (false, eval (.Tuple es kk tp) env) :: starEach [] env := by intro _; rfl) (hpl : ∀ env, (backTo pos (starEach [.Tuple es kk tp] env)).any (·.1) = false := by intro _; rfl) :
    STe (X.suite a ((a, oe) :: pn)) i a (.Call (.Name "isinstance" p) [e, .Tuple es kk tp] [] pos) (.bl b) := fun σ H hi Q q => by
  refine WE.of (pe_callB (call_isET C hz hf) hg hm (by decide +kernel) (pa_cons pe_w (pa_cons (pe_tup pa_w) pa_nil (he2 _)) (he _)) (by decide) (by decide) (he _) (hpl _)) (h1 σ H hi _ fun H1 g1 => h2 σ H1 hi _ fun H2 g2 => ?_)
  refine ⟨hz2, fun r hr => ?_⟩
  exact ⟨r, cs, ws, b, rfl, upd_same, hp, hk, q _ ((g1.trans g2).upd hr)⟩
end
/-- plain data -/
inductive Pln : V → D → Prop
  | non : Pln .non .non
  | bl (b : Bool) : Pln (.bl b) (.bl b)
  | int (i : Int) : Pln (.int i) (.int i)
theorem Pln.rp {K : PySem.W.Frag} {F : Hp} {os : List Addr} {v : V} {d : D} (h : Pln v d) : Rp K F os v d := by
  cases h with
  | non => exact .non
  | bl b => exact .bl b
  | int i => exact .int i
section
variable {c : SC} {s : Sta} {P : Out → Prop} {i : Nat} {suite : List Stmt} {cls : Value} {p : D}
theorem suiA_of {v : V} {d : D} (hv : Pln v d) (hi : i < s.r.length) (h : ∀ X, XC c X → ∀ (a : Addr) (oe : Obj) (pn : List (Addr × Obj)), Zc cls none oe → (∃ vs, oe.data = .fields vs) → STs (X.suite a ((a, oe) :: pn)) i a suite v) (hp : p = .non) (hr : P (.rt d s)) : SuiA c i suite cls p s P := by
  intro X hX σ τ τv H R a oe dd pn hz hf na pay E hq
  have ed : dd = none := by
    rcases pay with ⟨_, e⟩ | ⟨l, b, da, e, _⟩
    · exact e
    · rw [hp] at e
      cases e
  subst ed
  have hl : i < σ.length := by
    obtain ⟨F, os, _, _, e, _⟩ := R
    rw [e.len]
    exact hi
  refine h X hX a oe pn hz hf (σ.set i (some (.ref a))) H (List.getElem?_set_self hl) _ fun H' g => ?_
  have R1 : Rep c s σ τ τv H' := R.grow g fun F os r _ => r
  exact hq.rt d s σ v H' hr (R1.push fun _ _ => hv.rp)
theorem suiO_of {v : V} {d : D} (hv : Pln v d) (h : ∀ X, XC c X → ∀ (a : Addr) (oe : Obj) (pn : List (Addr × Obj)), Zc cls none oe → (∃ vs, oe.data = .fields vs) → ∀ σ H E, (∀ H', Grow H H' → E.rt v H') → WSs (X.suite a ((a, oe) :: pn)) suite E σ H) (hp : p = .non) (hr : P (.rt d s)) : SuiO c suite cls p s P := by
  intro X hX σ τ τv H R a oe dd pn hz hf na pay E hq
  have ed : dd = none := by
    rcases pay with ⟨_, e⟩ | ⟨l, b, da, e, _⟩
    · exact e
    · rw [hp] at e
      cases e
  subst ed
  refine h X hX a oe pn hz hf σ H _ fun H' g => ?_
  have R1 : Rep c s σ τ τv H' := R.grow g fun F os r _ => r
  exact hq.rt d s σ v H' hr (R1.push fun _ _ => hv.rp)
end
end G9

namespace G9
open PySem PySem.Spec PyProof.Rows L2
/-! ### classes of errors: who is under whom -/
theorem kit_own {K : PySem.W.Frag} {t : Value} {C : Addr} {b : Bool} (ne : (t == Value.ref C) = false) (hd : PySem.W.hasDictIn K C = true) (ht : PySem.W.typeIn K (.ref C) = some (.type "type")) (h : PySem.W.subIn K t (.ref C) = some b) : PySem.W.kitOne K t (.ref C) = some b := by
  obtain ⟨cd, hc, _⟩ := PySem.W.any_some hd
  unfold PySem.W.kitOne
  rw [if_neg (by rw [ne]; simp)]
  unfold PySem.W.kitCls
  show (if ((PySem.W.clsIn K C).isSome && PySem.W.typeIn K (.ref C) == some (.type "type")) = true then _ else _) = _
  rw [hc, ht, if_pos (by rfl)]
  exact h
theorem kit_self {K : PySem.W.Frag} {t : Value} : PySem.W.kitOne K t t = some true := by
  unfold PySem.W.kitOne
  rw [if_pos (by simp)]
theorem kit_blt {K : PySem.W.Frag} {D : Addr} {T : String} {b : Bool} (hm : PySem.W.kitMeta T = true) (h : PySem.W.subIn K (.ref D) (.type T) = some b) : PySem.W.kitOne K (.ref D) (.type T) = some b := by
  unfold PySem.W.kitOne
  rw [if_neg (by simp)]
  unfold PySem.W.kitCls
  show (if PySem.W.kitMeta T = true then _ else _) = _
  rw [if_pos hm]
  exact h
theorem any_no {K : PySem.W.Frag} {t : Value} : ∀ {cs : List Value}, (∀ c ∈ cs, PySem.W.kitOne K t c = some false) → PySem.W.kitAny K t cs = some false
  | [], _ => rfl
  | c :: cs, h => by
    unfold PySem.W.kitAny
    rw [h c (by simp)]
    exact any_no fun d hd => h d (by simp [hd])
end G9

namespace G9
open PySem PySem.Spec PyProof.Rows L2
variable {c : SC}
/-! ### a call that is handed objects: the frame, for any end -/
theorem frameJ {s1 : Sta} {σ : L2.St} {τ : List D} {τv vs : List V} {H1 : Hp} {dl : List D} {Ol : List Ob} (js : List Nat) (nd : js.Nodup) (hb1 : D.bndL js.length dl) (hlen : js.length = Ol.length)
    (hob : ∀ (i j : Nat), js[i]? = some j → ∃ ob, Ol[i]? = some ob ∧ s1.o[j]? = some (ob.ren (idF js 0)) ∧ Ob.bnd js.length ob) (hl : vs.length = (D.renL (idF js 0) dl).length) (R1 : Rep c s1 σ (D.renL (idF js 0) dl ++ τ) (vs ++ τv) H1) :
    ∃ F1 osc, Ent c.w c.K F1 H1 osc Ol ∧ RpL c.K F1 osc vs dl ∧ ∀ O' F' os' H' d v, Ext F1 H1 osc F' H' os' → Ent c.w c.K F' H' os' O' → Rp c.K F' os' v d → js.length ≤ O'.length ∧ Rep c ⟨s1.r, putO js s1.o O'⟩ σ (D.ren (idF js s1.o.length) d :: τ) (v :: τv) H' := by
  obtain ⟨F1, os1, a1, b1, e1, r1⟩ := R1
  obtain ⟨ra, rb⟩ := RpL.split hl r1
  -- the addresses that the callee sees
  have hjl : ∀ {i j : Nat}, js[i]? = some j → j < os1.length := fun {i j} hij => by
    obtain ⟨ob, _, h2, _⟩ := hob i j hij
    rw [a1.len]
    exact (List.getElem?_eq_some_iff.mp h2).1
  let osc : List Addr := js.map fun j => os1.getD j 0
  have hosc : ∀ {i j : Nat}, js[i]? = some j → osc[i]? = os1[j]? := fun {i j} hij => by
    show (js.map _)[i]? = _
    rw [List.getElem?_map, hij]
    show some (os1.getD j 0) = _
    rw [List.getD_eq_getElem?_getD, List.getElem?_eq_getElem (hjl hij)]
    rfl
  have idlt : ∀ {i : Nat} {n : Nat}, i < js.length → ∃ j, js[i]? = some j ∧ idF js n i = j := fun {i n} hi => by
    refine ⟨js[i], List.getElem?_eq_getElem hi, ?_⟩
    unfold idF
    rw [List.getElem?_eq_getElem hi]
  have un : ∀ (i : Nat) (a : Addr), i < js.length → os1[idF js 0 i]? = some a → osc[i]? = some a := fun i a hi q => by
    obtain ⟨j, h1, h2⟩ := idlt (n := 0) hi
    rw [hosc h1, ← h2]
    exact q
  have mem_osc : ∀ {a : Addr}, a ∈ osc → ∃ (i j : Nat), js[i]? = some j ∧ os1[j]? = some a ∧ osc[i]? = some a := fun {a} ha => by
    obtain ⟨i, hi, e⟩ := List.getElem_of_mem ha
    have hi' : i < js.length := by simpa [osc] using hi
    obtain ⟨j, h1, _⟩ := idlt (n := 0) hi'
    have h2 : osc[i]? = some a := by rw [List.getElem?_eq_getElem hi, e]
    exact ⟨i, j, h1, (hosc h1) ▸ h2, h2⟩
  have sub : ∀ {a : Addr}, a ∈ osc → a ∈ os1 := fun ha => by
    obtain ⟨i, j, _, h2, _⟩ := mem_osc ha
    exact List.mem_of_getElem? h2
  have ec : Ent c.w c.K F1 H1 osc Ol := by
    refine ⟨a1.ex, by simp [osc, hlen], ?_, fun a ha => a1.al a (sub ha), fun i a ob q1 q2 => ?_, fun i a ob q1 q2 q3 => ?_⟩
    · refine List.pairwise_iff_getElem.mpr fun i k hi' hk' hik q => ?_
      have hk2 : k < js.length := by simpa [osc] using hk'
      have q : osc[i]? = osc[k]? := by rw [List.getElem?_eq_getElem hi', List.getElem?_eq_getElem hk', q]
      obtain ⟨ji, h1, _⟩ := idlt (n := 0) (show i < js.length by omega)
      obtain ⟨jk, h2, _⟩ := idlt (n := 0) hk2
      rw [hosc h1, hosc h2] at q
      have e3 : ji = jk := by
        rw [List.getElem?_eq_getElem (hjl h1), List.getElem?_eq_getElem (hjl h2)] at q
        exact (List.getElem_inj a1.nd).mp (Option.some.inj q)
      subst e3
      obtain ⟨hi1, e1'⟩ := List.getElem?_eq_some_iff.mp h1
      obtain ⟨hi2, e2'⟩ := List.getElem?_eq_some_iff.mp h2
      have := (List.getElem_inj nd).mp (e1'.trans e2'.symm)
      omega
    · have hi : i < js.length := by
        rw [hlen]
        exact (List.getElem?_eq_some_iff.mp q2).1
      obtain ⟨j, h1, _⟩ := idlt (n := 0) hi
      obtain ⟨ob', h2, h3, h4⟩ := hob i j h1
      rw [q2] at h2
      cases h2
      rw [hosc h1] at q1
      have z := a1.obj j a _ q1 h3
      cases ob with
      | dead => trivial
      | lst ds =>
        obtain ⟨ws, z1, z2⟩ := z
        exact ⟨ws, z1, z2.unren un h4⟩
      | dct tb kvs =>
        obtain ⟨ws, z1, z2⟩ := z
        rw [dct_flat] at z2
        exact ⟨ws, z1.ren (dct_keys _ kvs).symm, z2.unren un h4⟩
      | ext x ds =>
        obtain ⟨ho, ws, z1, z0, z2⟩ := z
        exact ⟨ho, ws, z1, z0, z2.unren un h4⟩
    · have hi : i < js.length := by
        rw [hlen]
        exact (List.getElem?_eq_some_iff.mp q2).1
      obtain ⟨j, h1, _⟩ := idlt (n := 0) hi
      obtain ⟨ob', h2, h3, h4⟩ := hob i j h1
      rw [q2] at h2
      cases h2
      rw [hosc h1] at q1
      refine a1.nf j a _ q1 h3 fun z => q3 ?_
      cases ob with
      | dead => rfl
      | lst ds =>
        unfold Ob.ren at z
        cases z
      | dct tb ds =>
        unfold Ob.ren at z
        cases z
      | ext x ds =>
        unfold Ob.ren at z
        cases z
  refine ⟨F1, osc, ec, ra.unren un hb1, fun O' F' os' H' d v ext ent rp => ?_⟩
  -- behind the call
  obtain ⟨t, ht⟩ := ext.pre
  have oscl : osc.length = js.length := by simp [osc]
  have hO' : js.length ≤ O'.length := by
    rw [← ent.len, ht, List.length_append, oscl]
    omega
  let os2 := os1 ++ t
  have tnew : ∀ {a : Addr}, a ∈ t → H1 a = none := fun {a} ha => by
    rcases ext.fresh a (by rw [ht]; exact List.mem_append_right _ ha) with q | q
    · have nd' := ent.nd
      rw [ht] at nd'
      exact absurd rfl ((List.nodup_append.mp nd').2.2 a q a ha)
    · exact q
  have map : ∀ (i : Nat) (a : Addr), os'[i]? = some a → os2[idF js s1.o.length i]? = some a := fun i a q => by
    rw [ht] at q
    by_cases hi : i < js.length
    · obtain ⟨j, h1, h2⟩ := idlt (n := s1.o.length) hi
      rw [List.getElem?_append_left (by omega), hosc h1] at q
      rw [h2]
      show (os1 ++ t)[j]? = _
      rw [List.getElem?_append_left (hjl h1)]
      exact q
    · rw [List.getElem?_append_right (by omega), oscl] at q
      have : idF js s1.o.length i = s1.o.length + (i - js.length) := by
        unfold idF
        rw [List.getElem?_eq_none (by omega)]
      rw [this]
      show (os1 ++ t)[_]? = _
      rw [List.getElem?_append_right (by rw [a1.len]; omega), a1.len, Nat.add_sub_cancel_left]
      exact q
  have p0 : ∃ t, os2 = os1 ++ t := ⟨t, rfl⟩
  have keep : ∀ b, H1 b ≠ none → H' b ≠ none := fun b hb q => by
    by_cases hbo : b ∈ osc
    · exact ent.al b (by rw [ht]; exact List.mem_append_left _ hbo) q
    · cases z : H1 b with
      | none => exact hb z
      | some o =>
        rw [ext.kept b o z hbo] at q
        cases q
  have putl : (putO js s1.o O').length = s1.o.length + (O'.length - js.length) := by
    unfold putO
    simp
  have obj2 : ∀ (j : Nat) (a : Addr) (ob : Ob), os2[j]? = some a → (putO js s1.o O')[j]? = some ob →
      (∃ (i : Nat) (o' : Ob), os'[i]? = some a ∧ O'[i]? = some o' ∧ ob = o'.ren (idF js s1.o.length)) ∨ (a ∉ osc ∧ H1 a ≠ none ∧ a ∈ os1 ∧ os1[j]? = some a ∧ s1.o[j]? = some ob) := fun j a ob q1 q2 => by
    have q1' : (os1 ++ t)[j]? = some a := q1
    by_cases hj : j < os1.length
    · rw [List.getElem?_append_left hj] at q1'
      have hjo : j < s1.o.length := a1.len ▸ hj
      unfold putO at q2
      rw [List.getElem?_append_left (by simpa using hjo), List.getElem?_map, List.getElem?_range hjo] at q2
      by_cases hm : j ∈ js
      · obtain ⟨i, hi, e⟩ := List.getElem_of_mem hm
        have hij : js[i]? = some j := by rw [List.getElem?_eq_getElem hi, e]
        have q3 : some ((O'.getD i .dead).ren (idF js s1.o.length)) = some ob := by
          have := find_js nd hij
          simpa [this] using q2
        refine .inl ⟨i, O'[i]'(by omega), ?_, List.getElem?_eq_getElem _, ?_⟩
        · rw [ht, List.getElem?_append_left (by omega), hosc hij]
          exact q1'
        · have := Option.some.inj q3
          rw [List.getD_eq_getElem?_getD, List.getElem?_eq_getElem (by omega)] at this
          exact this.symm
      · have q3 : some (s1.o.getD j .dead) = some ob := by
          have := find_none hm
          simpa [this] using q2
        have q4 : s1.o[j]? = some ob := by
          rw [← q3, List.getD_eq_getElem?_getD, List.getElem?_eq_getElem hjo]
          rfl
        refine .inr ⟨fun z => ?_, a1.al a (List.mem_of_getElem? q1'), List.mem_of_getElem? q1', q1', q4⟩
        obtain ⟨i, j', h1, h2, _⟩ := mem_osc z
        have := ix_inj a1.nd q1' h2
        subst this
        exact hm (List.mem_of_getElem? h1)
    · rw [List.getElem?_append_right (by omega)] at q1'
      unfold putO at q2
      rw [List.getElem?_append_right (by simp [a1.len] at hj ⊢; omega), List.getElem?_map, List.length_map, List.length_range, List.getElem?_drop] at q2
      cases q3 : O'[js.length + (j - s1.o.length)]? with
      | none =>
        rw [q3] at q2
        cases q2
      | some o' =>
        rw [q3] at q2
        refine .inl ⟨js.length + (j - s1.o.length), o', ?_, q3, (Option.some.inj q2).symm⟩
        rw [ht, List.getElem?_append_right (by omega), oscl, Nat.add_sub_cancel_left, ← a1.len]
        exact q1'
  have F'old : ∀ a, a ∈ os1 → a ∉ osc → F' a = F1 a := fun a ha hn => ext.old a (a1.al a ha) hn
  refine ⟨hO', F', os2, ⟨ent.ex, ?_, ?_, fun a ha => ?_, fun j a ob q1 q2 => ?_, fun j a ob q1 q2 q3 => ?_⟩, ⟨b1.ff.trans ext.ff, fun b hb hn => ?_, fun b o hb hn => ?_, ?_, fun a ha => ?_⟩, e1.mono ext.ff p0, .cons (rp.ren map) (rb.mono ext.ff p0)⟩
  · show os2.length = (putO js s1.o O').length
    rw [putl]
    show (os1 ++ t).length = _
    have := ent.len
    rw [ht, List.length_append, oscl] at this
    rw [List.length_append, a1.len]
    omega
  · refine List.nodup_append.mpr ⟨a1.nd, ?_, fun a ha b hb z => ?_⟩
    · have nd' := ent.nd
      rw [ht] at nd'
      exact (List.nodup_append.mp nd').2.1
    · subst z
      exact a1.al a ha (tnew hb)
  · rcases List.mem_append.mp ha with ha | ha
    · exact keep a (a1.al a ha)
    · exact ent.al a (by rw [ht]; exact List.mem_append_right _ ha)
  · rcases obj2 j a ob q1 q2 with ⟨i, o', z1, z2, rfl⟩ | ⟨z1, z2, z3, z4, z5⟩
    · have z := ent.obj i a o' z1 z2
      cases o' with
      | dead => trivial
      | lst ds =>
        obtain ⟨ws, y1, y2⟩ := z
        exact ⟨ws, y1, y2.ren map⟩
      | dct tb kvs =>
        obtain ⟨ws, y1, y2⟩ := z
        refine ⟨ws, y1.ren (dct_keys _ kvs), ?_⟩
        rw [dct_flat]
        exact y2.ren map
      | ext x ds =>
        obtain ⟨ho, ws, y1, y0, y2⟩ := z
        exact ⟨ho, ws, y1, y0, y2.ren map⟩
    · have z := a1.obj j a ob z4 z5
      cases ob with
      | dead => trivial
      | lst ds =>
        obtain ⟨ws, y1, y2⟩ := z
        exact ⟨ws, ext.kept a _ y1 z1, y2.mono ext.ff p0⟩
      | dct tb kvs =>
        obtain ⟨ws, y1, y2⟩ := z
        exact ⟨ws, y1.keep fun o q => ext.kept a o q z1, y2.mono ext.ff p0⟩
      | ext x ds =>
        obtain ⟨ho, ws, y1, y0, y2⟩ := z
        exact ⟨ho, ws, ext.kept a _ y1 z1, x.mono _ _ _ _ _ ext.ff y0, y2.mono ext.ff p0⟩
  · rcases obj2 j a ob q1 q2 with ⟨i, o', z1, z2, rfl⟩ | ⟨z1, z2, z3, z4, z5⟩
    · refine ent.nf i a o' z1 z2 fun z => q3 ?_
      rw [z]
      rfl
    · rw [F'old a z3 z1]
      exact a1.nf j a ob z4 z5 q3
  · have nos : b ∉ os1 := fun z => by
      rcases b1.fresh b z with y | y
      · exact hn y
      · exact hb y
    have hH1 : H1 b ≠ none := fun z => by
      cases y : c.H0 b with
      | none => exact hb y
      | some o =>
        rw [b1.kept b o y hn] at z
        cases z
    rw [ext.old b hH1 fun z => nos (sub z), b1.old b hb hn]
  · have nos : b ∉ os1 := fun z => by
      rcases b1.fresh b z with y | y
      · exact hn y
      · rw [hb] at y
        cases y
    exact ext.kept b o (b1.kept b o hb hn) fun z => nos (sub z)
  · obtain ⟨u, hu⟩ := b1.pre
    exact ⟨u ++ t, by show os1 ++ t = _; rw [hu, List.append_assoc]⟩
  · rcases List.mem_append.mp ha with ha | ha
    · exact b1.fresh a ha
    · have := tnew ha
      by_cases hm' : a ∈ c.os0
      · exact .inl hm'
      · refine .inr ?_
        cases y : c.H0 a with
        | none => rfl
        | some o =>
          rw [b1.kept a o y hm'] at this
          cases this
section
variable {s : Sta} {P : D → Sta → Prop} {e : Expr} {es : List Expr} {pos p : Pos} {x : Str}
theorem ae_callXJ {kf : Nat} {R : SpecX} (js : List Nat) (nd : js.Nodup) (C : CalX c.prog c.w c.K c.mg c.base kf x R) (hk : kf ≤ c.k)
    (h : AA c (e :: es) s fun ds s1 => ∃ (dl : List D) (Ol : List Ob), ds = D.renL (idF js 0) dl ∧ D.bndL js.length dl ∧ js.length = Ol.length ∧ (∀ (i j : Nat), js[i]? = some j → ∃ ob, Ol[i]? = some ob ∧ s1.o[j]? = some (ob.ren (idF js 0)) ∧ Ob.bnd js.length ob) ∧
      R dl Ol (fun d O' => js.length ≤ O'.length → P (D.ren (idF js s1.o.length) d) ⟨s1.r, putO js s1.o O'⟩) fun cls p O' => js.length ≤ O'.length → c.err cls p ⟨s1.r, putO js s1.o O'⟩)
    (hg : IsG c x := by rfl) (hdb : (x == ("__debug__" : Str)) = false := by decide) (he : ∀ env, starEach (e :: es) env = (false, eval e env) :: starEach es env := by intro _; rfl)
    (hpl : ∀ env, (backTo pos (starEach es env)).any (·.1) = false := by intro _; rfl) : AE c (.Call (.Name x p) (e :: es) [] pos) s P := by
  refine ⟨?_⟩
  intro X hX σ τ τv H Rp0 Q hq
  obtain ⟨f, fd, ps, F, hm, kp, hb⟩ := C.ex
  refine WE.of (pe_callS (fnX_at hX F) (hX.room.mono hk) (gl_of hX hg) (by rw [hX.mg]; exact hm) (by rw [hX.K]; exact kp) (by rw [hX.K]; exact hb) (fun σ => passAt hX.tk σ) pa_w hdb (he _) (hpl _)) ?_
  refine h X hX σ τ τv H Rp0 _ fun ds s1 vs H1 h1 hl R1 => ?_
  obtain ⟨dl, Ol, rfl, hb1, hlen, hob, hR⟩ := h1
  obtain ⟨F1, osc, ec, rv, fr⟩ := frameJ js nd hb1 hlen hob hl R1
  refine ⟨dl, F1, osc, Ol, _, _, ec, rv, hR, fun d O' F' os' H' v hp ext ent rp => ?_, fun cls p O' F' os' H' dd hp ext ent pay => ?_⟩
  · obtain ⟨hO, R2⟩ := fr O' F' os' H' d v ext ent rp
    exact hq _ _ v H' (hp hO) R2
  · obtain ⟨hO, R2⟩ := fr O' F' os' H' .non .non ext ent .non
    exact ⟨p, _, hp hO, pay, R2.bare⟩
/-- no object handed, none brought back -/
theorem ae_callXP {kf : Nat} {R : SpecX} (C : CalX c.prog c.w c.K c.mg c.base kf x R) (hk : kf ≤ c.k)
    (h : AA c (e :: es) s fun ds s1 => D.bndL 0 ds ∧ R ds [] (fun d O' => O' = [] ∧ D.bnd 0 d ∧ P d s1) fun cls p O' => O' = [] ∧ c.err cls p s1)
    (hg : IsG c x := by rfl) (hdb : (x == ("__debug__" : Str)) = false := by decide) (he : ∀ env, starEach (e :: es) env = (false, eval e env) :: starEach es env := by intro _; rfl)
    (hpl : ∀ env, (backTo pos (starEach es env)).any (·.1) = false := by intro _; rfl) : AE c (.Call (.Name x p) (e :: es) [] pos) s P := by
  refine ae_callXJ [] (by simp) C hk (.mk fun X hX σ τ τv H R Q hq => h X hX σ τ τv H R Q fun ds s1 vs H1 ⟨h1, h2⟩ hl R1 => hq ds s1 vs H1 ?_ hl R1) hg hdb he hpl
  refine ⟨ds, [], (D.renL_closed h1).symm, h1, rfl, (fun i j h => by simp at h), C.mono _ _ _ _ _ _ (fun d O' ⟨q1, q2, q3⟩ _ => ?_) (fun cls p O' ⟨q1, q2⟩ _ => ?_) h2⟩
  · subst q1
    rw [putO_nil, D.ren_closed q2, List.map_nil, List.append_nil]
    exact q3
  · subst q1
    rw [putO_nil, List.map_nil, List.append_nil]
    exact q2
/-- one object handed -/
theorem ae_callX1 {kf : Nat} {R : SpecX} (j : Nat) (C : CalX c.prog c.w c.K c.mg c.base kf x R) (hk : kf ≤ c.k)
    (h : AA c (e :: es) s fun ds s1 => ∃ (dl : List D) (ob : Ob), ds = D.renL (idF [j] 0) dl ∧ D.bndL 1 dl ∧ s1.o[j]? = some ob ∧ Ob.bnd 0 ob ∧
      R dl [ob] (fun d O' => ∃ ob', O' = [ob'] ∧ Ob.bnd 0 ob' ∧ D.bnd 0 d ∧ P d ⟨s1.r, s1.o.set j ob'⟩) fun cls p O' => ∃ ob', O' = [ob'] ∧ Ob.bnd 0 ob' ∧ c.err cls p ⟨s1.r, s1.o.set j ob'⟩)
    (hg : IsG c x := by rfl) (hdb : (x == ("__debug__" : Str)) = false := by decide) (he : ∀ env, starEach (e :: es) env = (false, eval e env) :: starEach es env := by intro _; rfl)
    (hpl : ∀ env, (backTo pos (starEach es env)).any (·.1) = false := by intro _; rfl) : AE c (.Call (.Name x p) (e :: es) [] pos) s P := by
  refine ae_callXJ [j] (by simp) C hk (.mk fun X hX σ τ τv H R Q hq => h X hX σ τ τv H R Q fun ds s1 vs H1 ⟨dl, ob, e1, hb, ho, hbo, h2⟩ hl R1 => hq ds s1 vs H1 ?_ hl R1) hg hdb he hpl
  refine ⟨dl, [ob], e1, hb, rfl, fun i j' h => ?_, C.mono _ _ _ _ _ _ (fun d O' ⟨ob', q1, q2, q3, q4⟩ _ => ?_) (fun cls p O' ⟨ob', q1, q2, q3⟩ _ => ?_) h2⟩
  · match i, h with
    | 0, h =>
      cases h
      exact ⟨ob, rfl, by rw [Ob.ren_closed hbo]; exact ho, Ob.bnd_le (Nat.zero_le _) hbo⟩
  · subst q1
    rw [putO_one, D.ren_closed q3, Ob.ren_closed q2, List.map_nil, List.append_nil]
    exact q4
  · subst q1
    rw [putO_one, Ob.ren_closed q2, List.map_nil, List.append_nil]
    exact q3
end
end G9

namespace G9
open PySem PySem.Spec PyProof.Rows L2
/-! ### tuples known to have no attributes; dicts of texts -/
/-- a tuple whose object is told, without attributes -/
def ptX : OX := ⟨fun _ _ ho vs => ∃ o : Obj, ho = .frz o (.tup vs) ∧ o.dict = none, fun _ _ _ _ _ _ h => h⟩
def rTupP (K : PySem.W.Frag) : List V → Hp → VK → Prop := fun xs H Q => ∃ (p : Addr) (ys : List V), xs = [.ref p] ∧ SqL K H p ys ∧ ∀ (l : Addr) (o : Obj), H l = none → o.dict = none → Q (.ref l) (upd H l (.frz o (.tup ys)))
theorem cr_tupP {X : Cx} : CallR X (.type "tuple") (rTupP X.K) := by
  intro pins s σ H xs us Q I r h
  obtain ⟨p, ys, rfl, hq, q⟩ := h
  rw [Vals.ref1 r]
  obtain ⟨its, r', pl, hz⟩ := I.list hq
  have len := r'.length
  refine call_tuple_list pl.isList (fun g kp => ?_) (by simp only [List.size_toArray] <;> omega)
  have I1 : Inv X pins σ H { s with heap := g } := I.kept (t' := s.toks) kp
  have I2 : Inv X pins σ (upd H g.objs.size (.frz { cls := .type "tuple", data := .seq its.toArray } (.tup ys))) { s with heap := g.push { cls := .type "tuple", data := .seq its.toArray } } :=
    I1.laid (t' := s.toks) (fun b o e => Heap.get?_push_of_some _ e) (Nat.le_refl _) (show ObjOk X.prog X.w _ _ _ (.frz _ (.tup ys)) from ⟨Heap.get?_push_size _ rfl, hz, its, r', IsTup.new _ _⟩)
  exact ⟨.ref g.objs.size, _, I2, rfl, q _ _ (I1.hok.fresh (Nat.le_refl _)) rfl⟩
theorem pairsV {X : Cx} {pins : List (Addr × Obj)} {σ : L2.St} {H : Hp} {s : Shared} (I : Inv X pins σ H s) : ∀ {ps : List Addr} {kvs : List (Key × V)}, Paired (fun p kv => SqT X.K H p [kV kv.1, kv.2]) ps kvs →
    ∃ (pv : List (Value × Value)) (prs : List (Key × Value)), KV kvs prs ∧ pv.length = ps.length ∧ prs.length = ps.length ∧ ∀ (j : Nat) (k v : Value), pv[j]? = some (k, v) → ∃ (b : Addr) (kk : Key), ps[j]? = some b ∧ IsTup s.heap b #[k, v] ∧ prs[j]? = some (kk, v) ∧ keyIs kk k = true
  | _, _, .nil => ⟨[], [], .nil, rfl, rfl, fun j k v e => by simp at e⟩
  | _, _, .cons (a := p) (b := kv) h t => by
    obtain ⟨pv, prs, r, l1, l2, hp⟩ := pairsV I t
    obtain ⟨its, rv, ht, _⟩ := I.tuple h
    obtain ⟨u, y, ei, ru, ry⟩ := vals2 rv
    subst ei
    refine ⟨(u, y) :: pv, (kv.1, y) :: prs, .cons ⟨rfl, ry⟩ r, by simp [l1], by simp [l2], fun j k v e => ?_⟩
    cases j with
    | zero =>
      cases e
      exact ⟨p, kv.1, rfl, ht, rfl, kV_is (P := X.prog) (w := X.w) ru⟩
    | succ j =>
      obtain ⟨b, kk, e1, e2, e3, e4⟩ := hp j k v (by simpa using e)
      exact ⟨b, kk, by simpa using e1, e2, by simpa using e3, e4⟩
def rDictP (K : PySem.W.Frag) : List V → Hp → VK → Prop := fun xs H Q => ∃ (a : Addr) (o : Obj) (ps : List Addr) (kvs : List (Key × V)), xs = [.ref a] ∧ H a = some (.frz o (.tup (ps.map V.ref))) ∧ o.dict = none ∧ Paired (fun p kv => SqT K H p [kV kv.1, kv.2]) ps kvs ∧
  ∀ p, H p = none → Q (.ref p) (upd H p (.dK (mergeK [] kvs)))
theorem cr_dictP {X : Cx} (hc : X.calm = true) : CallR X (.type "dict") (rDictP X.K) := by
  intro pins s σ H xs us Q I r h
  obtain ⟨a, o, ps, kvs, rfl, ha, hod, hp, q⟩ := h
  rw [Vals.ref1 r]
  obtain ⟨ho, hz, its, rv, o2, ho2, hc2, n, hd2⟩ := (show ObjOk X.prog X.w H s.heap a (.frz o (.tup (ps.map V.ref))) from I.hok a _ ha)
  cases ho.symm.trans ho2
  have ei := refs_at rv
  subst ei
  rw [List.length_map] at hz
  obtain ⟨pv, prs, rel, l1, l2, hpv⟩ := pairsV I hp
  have P := PairArg.tuple (prog := X.prog) (w := X.w) a (ps.map Value.ref).toArray (fun j => ps.getD j 0) pv
  refine PySem.call_dict_pairs (knd := mixKind X.prog X.w) (kvs := prs) P (I.ok.hd hc) ⟨⟨o, n, ho, hc2, hod, hd2⟩, by simp [l1], fun j k v e => ?_⟩ ⟨by rw [l2, l1], fun i k v e => ?_⟩ (by rw [l1]; exact hz) fun g tk hd kp => ?_
  · obtain ⟨b, kk, e1, e2, _, _⟩ := hpv j k v e
    have eb : ps.getD j 0 = b := by rw [List.getD_eq_getElem?_getD, e1]; rfl
    exact ⟨by simp [e1], .inl (by show s.heap.IsTuple (ps.getD j 0) _; rw [eb]; exact e2)⟩
  · obtain ⟨b, kk, e1, e2, e3, e4⟩ := hpv i k v e
    exact ⟨kk, e3, e4⟩
  · have hm : (s.heap.objs.size == sysModules) = false := beq_eq_false_iff_ne.mpr (Nat.ne_of_gt I.big)
    have hlen : (mergeK [] kvs).length ≤ sizeLine := by
      refine Nat.le_trans (length_mergeK kvs []) ?_
      rw [List.length_nil, Nat.zero_add, rel.length, l2]
      exact hz
    exact ⟨.ref s.heap.objs.size, upd H s.heap.objs.size (.dK (mergeK [] kvs)), I.laid (t' := tk) (fun b u e => kp b u (by simp) e) (Nat.le_refl _) (show ObjOk X.prog X.w _ _ _ (.dK (mergeK [] kvs)) from ⟨hlen, hm, merged [] prs, KV.merge rel .nil, hd⟩), rfl, q _ (I.hok.fresh (Nat.le_refl _))⟩
/-! ### dicts of texts -/
abbrev SPs := List (List Nat × List Nat)
def sdD (l : SPs) : List (D × D) := l.map fun p => (.str p.1, .str p.2)
def sdK (l : SPs) : List (Key × V) := l.map fun p => (Sum.inr (S p.1), V.str (S p.2))
def prS (p : List Nat × List Nat) : D := .tup [.str p.1, .str p.2]
def sdget : SPs → List Nat → Option (List Nat)
  | [], _ => none
  | p :: l, k => if p.1 = k then some p.2 else sdget l k
def sdput (l : SPs) (k v : List Nat) : SPs := if (l.any fun p => decide (p.1 = k)) = true then l.map (fun p => if p.1 = k then (p.1, v) else p) else l ++ [(k, v)]
def sdAll (l : SPs) : SPs := l.foldl (fun acc p => sdput acc p.1 p.2) []
theorem sd_val (k : List Nat) : ∀ l : SPs, valV (sdK l) (Sum.inr (S k)) = (sdget l k).map fun z => V.str (S z)
  | [] => rfl
  | p :: l => by
    show valV ((Sum.inr (S p.1), V.str (S p.2)) :: sdK l) _ = _
    unfold sdget
    by_cases e : p.1 = k
    · rw [valV_pos (by rw [e]), if_pos e]
      rfl
    · rw [valV_neg (by
        intro q
        exact e (S_inj.mp (Sum.inr.inj q))), if_neg e]
      exact sd_val k l
theorem inr_S (a b : List Nat) : (decide ((Sum.inr (S a) : Key) = Sum.inr (S b))) = decide (a = b) := decide_eq_decide.mpr ⟨fun q => S_inj.mp (Sum.inr.inj q), fun q => by rw [q]⟩
theorem sd_put (l : SPs) (k v : List Nat) : putK (sdK l) (Sum.inr (S k)) (.str (S v)) = sdK (sdput l k v) := by
  have e1 : ((sdK l).any fun kv => decide (kv.1 = Sum.inr (S k))) = l.any fun p => decide (p.1 = k) := by
    unfold sdK
    rw [List.any_map]
    congr 1
    funext p
    exact inr_S p.1 k
  unfold putK sdput
  rw [e1]
  by_cases h : (l.any fun p => decide (p.1 = k)) = true
  · rw [if_pos h, if_pos h]
    unfold sdK
    rw [List.map_map, List.map_map]
    refine List.map_congr_left fun p _ => ?_
    show (if (Sum.inr (S p.1) : Key) = Sum.inr (S k) then _ else _) = _
    by_cases e : p.1 = k
    · rw [if_pos (by rw [e])]
      show _ = (Sum.inr (S (if p.1 = k then (p.1, v) else p).1), V.str (S (if p.1 = k then (p.1, v) else p).2))
      rw [if_pos e]
    · rw [if_neg fun q => e (S_inj.mp (Sum.inr.inj q))]
      show _ = (Sum.inr (S (if p.1 = k then (p.1, v) else p).1), V.str (S (if p.1 = k then (p.1, v) else p).2))
      rw [if_neg e]
  · rw [if_neg h, if_neg h]
    unfold sdK
    rw [List.map_append]
    rfl
theorem sd_all (l : SPs) : mergeK [] (sdK l) = sdK (sdAll l) := by
  have go : ∀ (l a : SPs), mergeK (sdK a) (sdK l) = sdK (l.foldl (fun acc p => sdput acc p.1 p.2) a) := by
    intro l
    induction l with
    | nil => intro a; rfl
    | cons p l ih =>
      intro a
      show mergeK (putK (sdK a) (Sum.inr (S p.1)) (.str (S p.2))) (sdK l) = _
      rw [sd_put, ih]
      rfl
  exact go l []
theorem sdput_len (l : SPs) (k v : List Nat) : (sdput l k v).length ≤ l.length + 1 := by
  unfold sdput
  split
  · rw [List.length_map]; omega
  · rw [List.length_append]; exact Nat.le_refl _
section
variable {w : World} {K : PySem.W.Frag} {F H : Hp} {os : List Addr} {a : Addr}
theorem sd_vs : ∀ {kk : List (Key × V)} {l : SPs}, RpL K F os (kk.map fun p => kV p.1) (l.map fun p => D.str p.1) → RpL K F os (kk.map (·.2)) (l.map fun p => D.str p.2) → kk = sdK l
  | [], [], _, _ => rfl
  | [], _ :: _, h, _ => by cases h
  | _ :: _, [], h, _ => by cases h
  | (k, v) :: kk, p :: l, h, h2 => by
    cases h with
    | cons q r =>
      cases h2 with
      | cons q2 r2 =>
        have ih := sd_vs r r2
        subst ih
        cases k with
        | inl i =>
          have q : Rp K F os (.int i) (.str p.1) := q
          cases q
        | inr z =>
          have q : Rp K F os (.str z) (.str p.1) := q
          have q2 : Rp K F os v (.str p.2) := q2
          cases q2
          cases q
          rfl
theorem sd_iff {l : SPs} : ObOk w K F os H a (.dct .a (sdD l)) ↔ H a = some (.dK (sdK l)) := by
  have e1 : (sdD l).map (·.1) = l.map fun p => D.str p.1 := by unfold sdD; rw [List.map_map]; rfl
  have e2 : (sdD l).map (·.2) = l.map fun p => D.str p.2 := by unfold sdD; rw [List.map_map]; rfl
  constructor
  · rintro ⟨vks, h, r⟩
    rw [e1, e2] at r
    rcases h with ⟨_, kk, h1, rfl⟩ | ⟨nk, h, _⟩
    · have e3 : (kk.map fun p => (kV p.1, p.2)).map (·.1) = kk.map fun p => kV p.1 := by rw [List.map_map]; rfl
      have e4 : (kk.map fun p => (kV p.1, p.2)).map (·.2) = kk.map (·.2) := by rw [List.map_map]; rfl
      rw [e3, e4] at r
      have len := r.length
      simp only [List.length_append, List.length_map] at len
      obtain ⟨r1, r2⟩ := RpL.split (by simp only [List.length_map]; omega) r
      rw [h1, sd_vs r1 r2]
    · rcases h with ⟨h, _⟩ | ⟨od, h, _⟩ <;> cases h
  · intro h
    refine ⟨(sdK l).map fun p => (kV p.1, p.2), .inl ⟨rfl, _, h, rfl⟩, ?_⟩
    rw [e1, e2, List.map_map, List.map_map]
    have g1 : ∀ l : SPs, RpL K F os ((sdK l).map ((·.1) ∘ fun p => (kV p.1, p.2))) (l.map fun p => D.str p.1) := fun l => by
      induction l with
      | nil => exact .nil
      | cons p l ih => exact .cons (.str _) ih
    have g2 : ∀ l : SPs, RpL K F os ((sdK l).map ((·.2) ∘ fun p => (kV p.1, p.2))) (l.map fun p => D.str p.2) := fun l => by
      induction l with
      | nil => exact .nil
      | cons p l ih => exact .cons (.str _) ih
    exact (g1 l).append (g2 l)
end
section
variable {c : SC} {s : Sta} {P : D → Sta → Prop} {PO' : Out → Prop} {a b e o i value : Expr} {pos pos' p apos cpos : Pos}
/-- tuple(l) of a list, as an object known to have no attributes -/
theorem ae_tupP (hm : c.mg "tuple" = none) (h : AE c e s fun d s1 => ∃ es, RdL s1 d es ∧ P (.ob s1.o.length) ⟨s1.r, s1.o ++ [.ext ptX es]⟩) (hg : IsG c "tuple" := by rfl)
    (he : ∀ env, starEach [e] env = (false, eval e env) :: starEach [] env := by intro _; rfl) : AE c (.Call (.Name "tuple" p) [e] [] pos) s P := by
  refine ae_callT (rV := fun X => rTupP X.K) (r := fun ds s P => ∃ d es, ds = [d] ∧ RdL s d es ∧ P (.ob s.o.length) ⟨s.r, s.o ++ [.ext ptX es]⟩) (fun X hX => cr_tupP) (fun X hX => ?_) hm (by decide +kernel) (aa_one (h.mono fun d s1 ⟨es, h1, h2⟩ => ⟨d, es, rfl, h1, h2⟩) he) hg (by decide) (by decide) he (fun _ => rfl)
  intro σ τ τv H s vs ds P Q l R h hq
  obtain ⟨d, es, rfl, hd, h⟩ := h
  obtain ⟨v, rfl⟩ := one_v l
  have R1 : Rep c s σ (d :: τ) (v :: τv) H := R
  obtain ⟨q, ws, rfl, hs, hl, R2⟩ := R1.rdl hd
  refine ⟨q, ws, rfl, by rw [hX.K]; exact hs, fun t o nt ot => ?_⟩
  have R3 := R2.ownG (ho := .frz o (.tup ws)) (ob0 := .ext ptX es) nt fun F os r => ⟨_, ws, upd_same, ⟨o, rfl, ot⟩, (RpL.split hl r).1⟩
  refine hq _ _ _ _ h (R3.temps fun F os r => ?_)
  cases r with
  | cons x r => exact .cons x ((RpL.split hl r).2).tail
/-- dict(t), t such a tuple of pairs of texts -/
theorem ae_dictP (hm : c.mg "dict" = none) (h : AE c e s fun d s1 => ∃ (j : Nat) (l : SPs), d = .ob j ∧ s1.o[j]? = some (.ext ptX (l.map prS)) ∧ P (.ob s1.o.length) ⟨s1.r, s1.o ++ [.dct .a (sdD (sdAll l))]⟩) (hg : IsG c "dict" := by rfl)
    (he : ∀ env, starEach [e] env = (false, eval e env) :: starEach [] env := by intro _; rfl) : AE c (.Call (.Name "dict" p) [e] [] pos) s P := by
  refine ae_callT (rV := fun X => rDictP X.K) (r := fun ds s P => ∃ d, ds = [d] ∧ ∃ (j : Nat) (l : SPs), d = .ob j ∧ s.o[j]? = some (.ext ptX (l.map prS)) ∧ P (.ob s.o.length) ⟨s.r, s.o ++ [.dct .a (sdD (sdAll l))]⟩) (fun X hX => cr_dictP hX.calm) (fun X hX => ?_) hm (by decide +kernel) (aa_one (h.mono fun d s1 h => ⟨d, rfl, h⟩) he) hg (by decide) (by decide) he (fun _ => rfl)
  intro σ τ τv H s vs ds P Q l R h hq
  obtain ⟨d, rfl, j, l2, rfl, ho, h⟩ := h
  obtain ⟨v, rfl⟩ := one_v l
  have R1 : Rep c s σ (.ob j :: τ) (v :: τv) H := R
  obtain ⟨q, F, os, rfl, eF, ⟨ho1, ws, hH, ⟨ot, rfl, hd⟩, rr⟩, _⟩ := R1.objG ho
  obtain ⟨ps, rfl, hp⟩ : ∃ ps : List Addr, ws = ps.map V.ref ∧ Paired (fun p kv => SqT c.K H p [kV kv.1, kv.2]) ps (sdK l2) := by
    clear hH h ho
    induction l2 generalizing ws with
    | nil =>
      cases rr
      exact ⟨[], rfl, .nil⟩
    | cons p l ih =>
      cases rr with
      | cons x r =>
        obtain ⟨ps, rfl, hp⟩ := ih _ r
        have x : Rp c.K F os _ (.tup [.str p.1, .str p.2]) := x
        cases x with
        | tup q1 q2 =>
          cases q2 with
          | cons y1 q2 =>
            cases q2 with
            | cons y2 q2 =>
              cases q2
              cases y1
              cases y2
              exact ⟨_ :: ps, rfl, .cons (sq_t eF q1) hp⟩
  refine ⟨q, ot, ps, sdK l2, rfl, hH, hd, by rw [hX.K]; exact hp, fun t nt => ?_⟩
  rw [sd_all]
  have R3 := R1.ownG (ho := .dK (sdK (sdAll l2))) (ob0 := .dct .a (sdD (sdAll l2))) nt fun F os r => sd_iff.mpr upd_same
  refine hq _ _ _ _ h (R3.temps fun F os r => ?_)
  cases r with
  | cons x r => exact .cons x r.tail
/-- dict(d): a copy -/
theorem ae_dictC (hm : c.mg "dict" = none) (h : AE c e s fun d s1 => ∃ (j : Nat) (l : SPs), d = .ob j ∧ s1.o[j]? = some (.dct .a (sdD l)) ∧ P (.ob s1.o.length) ⟨s1.r, s1.o ++ [.dct .a (sdD l)]⟩) (hg : IsG c "dict" := by rfl)
    (he : ∀ env, starEach [e] env = (false, eval e env) :: starEach [] env := by intro _; rfl) : AE c (.Call (.Name "dict" p) [e] [] pos) s P := by
  refine ae_callT (rV := fun X xs H Q => ∃ (a : Addr) (kvs : List (Key × V)), xs = [.ref a] ∧ Rd H a (.dK kvs) ∧ ∀ p, H p = none → Q (.ref p) (upd H p (.dK kvs))) (r := fun ds s P => ∃ d, ds = [d] ∧ ∃ (j : Nat) (l : SPs), d = .ob j ∧ s.o[j]? = some (.dct .a (sdD l)) ∧ P (.ob s.o.length) ⟨s.r, s.o ++ [.dct .a (sdD l)]⟩) (fun X hX => call_dictD) (fun X hX => ?_) hm (by decide +kernel) (aa_one (h.mono fun d s1 h => ⟨d, rfl, h⟩) he) hg (by decide) (by decide) he (fun _ => rfl)
  intro σ τ τv H s vs ds P Q l R h hq
  obtain ⟨d, rfl, j, l2, rfl, ho, h⟩ := h
  obtain ⟨v, rfl⟩ := one_v l
  have R1 : Rep c s σ (.ob j :: τ) (v :: τv) H := R
  obtain ⟨q, F, os, rfl, eF, hob, _⟩ := R1.objG ho
  refine ⟨q, sdK l2, rfl, .inl (sd_iff.mp hob), fun t nt => ?_⟩
  have R3 := R1.ownG (ho := .dK (sdK l2)) (ob0 := .dct .a (sdD l2)) nt fun F os r => sd_iff.mpr upd_same
  refine hq _ _ _ _ h (R3.temps fun F os r => ?_)
  cases r with
  | cons x r => exact .cons x r.tail
/-- d[k] = v -/
theorem as_sdput (h : AE c value s fun e s1 => AE c o s1 fun d s2 => AE c i s2 fun k s3 => ∃ (j : Nat) (l : SPs) (kk vv : List Nat), d = .ob j ∧ k = .str kk ∧ e = .str vv ∧ s3.o[j]? = some (.dct .a (sdD l)) ∧ l.length < sizeLine ∧ PO' (.nx ⟨s3.r, s3.o.set j (.dct .a (sdD (sdput l kk vv)))⟩))
    (hs : ∀ env, swapsWith value (some (.Subscript o i pos')) pos.line env = pure false := by intro _; rfl) : AS c (.Assign [.Subscript o i pos'] value pos) s PO' := by
  refine ⟨?_⟩
  intro X hX σ τ τv H R E hq
  refine WS.of (ps_dput (by have := hX.room.units; omega) pe_w pe_w pe_w (hs _)) (h X hX σ τ τv H R _ fun e s1 v1 H1 h1 R1 => h1 X hX σ _ _ H1 R1 _ fun d s2 v2 H2 h2 R2 => h2 X hX σ _ _ H2 R2 _ fun k s3 v3 H3 h3 R3 => ?_)
  obtain ⟨j, l, kk, vv, rfl, rfl, rfl, ho, hz, h3⟩ := h3
  have e3 := R3.str
  subst e3
  have R4 := R3.pop
  obtain ⟨q, F, os, rfl, eF, hob, rr, mu⟩ := R4.objM ho (by simp)
  have e1 := R4.pop.str
  subst e1
  have hH := sd_iff.mp hob
  refine ⟨q, _, rfl, DPut.k (k := Sum.inr (S kk)) hH (by unfold sdK; rw [List.length_map]; exact hz), ?_⟩
  rw [sd_put]
  exact hq.nx _ _ _ h3 (mu _ _ (sd_iff.mpr upd_same)).pop.pop
/-- d.get(k, y) -/
theorem ae_sdget (h : AE c a s fun d s1 => ∃ j, d = .ob j ∧ (∃ l0, s1.o[j]? = some (.dct .a (sdD l0))) ∧ AE c b s1 fun k s2 => AE c e s2 fun y s3 => ∃ (l : SPs) (kk yy : List Nat), s3.o[j]? = some (.dct .a (sdD l)) ∧ k = .str kk ∧ y = .str yy ∧ P (.str ((sdget l kk).getD yy)) s3)
    (hbase : ∀ env, attributeBase a "get" env (eval a env) = eval a env := by intro _; rfl) (hline : (apos.endLine == cpos.line) = true := by rfl)
    (hfew : ∀ env, ((backTo cpos (starEach [b, e] env)).all (fun x => !x.1) && (backToKw cpos (keywordEach [] env)).all (fun x => x.1.isSome)
      && decide (([b, e] : List Expr).length + ([] : List Keyword).length + (if ([] : List Keyword).isEmpty then 0 else 1) < 30)) = true := by intro _; rfl)
    (ht : ∀ env, backTo cpos (starEach [b, e] env) = [(false, eval b env), (false, eval e env)] := by intro _; rfl) : AE c (.Call (.Attribute a "get" apos) [b, e] [] cpos) s P := by
  refine ⟨?_⟩
  intro X hX σ τ τv H R Q hq
  refine WE.of (pe_dget2 (by have := hX.room.units; omega) pe_w pe_w pe_w ⟨hbase _, hfew _, hline, ht _⟩) (h X hX σ τ τv H R _ fun d s1 v1 H1 h1 R1 => ?_)
  obtain ⟨j, rfl, ⟨l0, ho0⟩, h1⟩ := h1
  obtain ⟨q, F, os, rfl, eF, hob, _⟩ := R1.objG ho0
  refine ⟨q, rfl, .inl ⟨_, .inl (sd_iff.mp hob)⟩, h1 X hX σ _ _ H1 R1 _ fun k s2 v2 H2 h2 R2 => h2 X hX σ _ _ H2 R2 _ fun y s3 v3 H3 h3 R3 => ?_⟩
  obtain ⟨l, kk, yy, ho, rfl, rfl, h3⟩ := h3
  have e3 := R3.str
  subst e3
  have e2 := R3.pop.str
  subst e2
  obtain ⟨q', F, os, e4, eF, hob, _⟩ := R3.pop.pop.objG ho
  cases e4
  refine ⟨_, DGet.k (k := Sum.inr (S kk)) (sd_iff.mp hob), ?_⟩
  rw [sd_val]
  have ev : ((sdget l kk).map fun z => V.str (S z)).getD (.str (S yy)) = .str (S ((sdget l kk).getD yy)) := by
    cases sdget l kk <;> rfl
  rw [ev]
  exact hq _ _ _ _ h3 (R3.pop.pop.pop.push fun _ _ => .str _)
end
end G9

namespace G9
open PySem PySem.Spec PyProof.Rows L2
variable {c : SC}
/-! ### sorted lists of pairs of texts -/
/-- a tuple of two texts -/
def IsSS (h : Heap) (v : Value) (x y : Str) : Prop := ∃ a o t u n, v = Value.ref a ∧ h.get? a = some o ∧ o.cls = .type "tuple" ∧ o.data = .seq #[.str x t, .str y u] n
def keySS (x y : Str) : List (Int ⊕ List Nat) := [.inr x.cps.toList, .inr y.cps.toList]
theorem IsSS.key {h : Heap} {v : Value} {x y : Str} (p : IsSS h v x y) : tupKey h (fun _ => true) v = some (keySS x y) := by
  obtain ⟨a, o, t, u, n, rfl, h1, h2, h3⟩ := p
  simp only [tupKey, h1, h3, tupItems, keySS]
  rfl
noncomputable def kfSS (h : Heap) (v : Value) : List (Int ⊕ List Nat) := (tupKey h (fun _ => true) v).getD []
theorem IsSS.kf {h : Heap} {v : Value} {x y : Str} (p : IsSS h v x y) : kfSS h v = keySS x y := by
  unfold kfSS
  rw [p.key]
  rfl
theorem swoK (O : KeyOrd) {α : Type} (k : α → O.α) : SrtO.Swo fun v u => O.blt (k v) (k u) := by
  refine ⟨fun x y h => ?_, fun x y z h1 h2 => ?_⟩
  · cases q : O.blt (k y) (k x) with
    | false => rfl
    | true =>
      have := O.trans _ _ _ h q
      rw [O.irrefl] at this
      cases this
  · cases q : O.blt (k z) (k x) with
    | false => rfl
    | true =>
      rcases O.negTrans _ (k y) _ q with r | r
      · rw [h2] at r
        cases r
      · rw [h1] at r
        cases r
theorem sortableSS {P : Program} {w : World} {A : Around} {s : Shared} {a : Addr} {vs : List Value} (h0 : 0 < vs.length) (hp : ∀ v ∈ vs, ∃ x y, IsSS s.heap v x y) (ha : ∀ (h' : Heap) (keep : ∀ b o, b ≠ a → s.heap.get? b = some o → h'.get? b = some o), ∀ v ∈ vs, ∀ x y, IsSS s.heap v x y → IsSS h' v x y) :
    SrtO.SortableO P w A s a vs fun v u => (listOrd itemOrd).blt (kfSS s.heap v) (kfSS s.heap u) := by
  intro h' keep
  refine ⟨tuples' true, fun Q E hq => ?_, ?_⟩
  · have mk : ∀ l : List Value, (∀ v ∈ l, ∃ x y, IsSS h' v x y) → ∃ fs, TupsOf h' (fun _ => true) l fs ∧ fs.length = l.length := fun l => by
      induction l with
      | nil => exact fun _ => ⟨[], .nil, rfl⟩
      | cons v l ih =>
        intro hl
        obtain ⟨fs, h1, h2⟩ := ih fun u hu => hl u (List.mem_cons_of_mem _ hu)
        obtain ⟨x, y, b, o, t, u, n, e1, e2, e3, e4⟩ := hl v List.mem_cons_self
        exact ⟨.str x t :: fs, .cons ⟨b, o, _, n, e1, e2, e3, e4, rfl, ⟨fun z => Bool.noConfusion z, fun _ => ⟨x, t, rfl⟩⟩⟩ h1, by simp [h2]⟩
    obtain ⟨fs, h1, h2⟩ := mk vs fun v hv => by
      obtain ⟨x, y, q⟩ := hp v hv
      exact ⟨x, y, ha h' keep v hv x y q⟩
    exact tup_kind (s := { s with heap := h' }) (by omega) h1 hq
  · intro p q hm hm'
    obtain ⟨x, y, q1⟩ := hp _ hm
    obtain ⟨x', y', q2⟩ := hp _ hm'
    refine tup_ltAt (s := { s with heap := h' }) (shape := fun _ => true) true A _ p.1 q.1 (keySS x y) (keySS x' y') (ha h' keep _ hm x y q1).key (ha h' keep _ hm' x' y' q2).key ⟨rfl, ?_⟩
    show _ = (listOrd itemOrd).blt (kfSS s.heap p.1) (kfSS s.heap q.1)
    rw [q1.kf, q2.kf]
theorem cr_sortedSS {X : Cx} : CallR X (.builtin "sorted") (fun vs H Q => ∃ (a : Addr) (xs : List V), vs = [V.ref a] ∧ SqL X.K H a xs ∧ (∀ x ∈ xs, ∃ t x1 x2, x = V.ref t ∧ SqT X.K H t [.str x1, .str x2]) ∧
  ∀ ys p, ys.Perm xs → H p = none → Q (.ref p) (upd H p (.lst ys))) := by
  intro pins s σ H vs us Q I r h
  obtain ⟨a, xs, rfl, hs, hx, q⟩ := h
  obtain ⟨its, rv, hl, hz⟩ := I.list hs
  obtain ⟨u, rfl, ru⟩ := vals1 r
  obtain rfl : u = Value.ref a := ru
  obtain ⟨e1, e2⟩ := refs_back rv fun x m => by
    obtain ⟨t, _, _, e, _⟩ := hx x m
    exact ⟨t, e⟩
  have hp : ∀ v ∈ its, ∃ x y, IsSS s.heap v x y := fun v hv => by
    obtain ⟨t, rfl⟩ := e2 v hv
    have hm : V.ref t ∈ xs := by rw [e1]; exact List.mem_map.mpr ⟨_, hv, rfl⟩
    obtain ⟨t', x1, x2, e, ht⟩ := hx _ hm
    cases e
    obtain ⟨its2, r2, ⟨o, ho, hc, n, hd⟩, _⟩ := I.tuple ht
    obtain ⟨u1, u2, rfl, ri, rj⟩ := vals2 r2
    obtain ⟨t1, rfl⟩ := ri
    obtain ⟨t2, rfl⟩ := rj
    exact ⟨x1, x2, t, o, t1, t2, n, rfl, ho, hc, hd⟩
  refine SrtO.sorted_ord (ltv := fun v u => (listOrd itemOrd).blt (kfSS s.heap v) (kfSS s.heap u)) (swoK _ _) hl.isList (by rw [← rv.length]; exact hz) (fun h2 h₁ b hb kk => ?_) fun out hs hb => ?_
  · have k1 : ∀ v ∈ its, ∀ x y, IsSS s.heap v x y → IsSS h₁ v x y := fun v hv x y z => by
      obtain ⟨b, o, t, u, n, f1, f2, f3⟩ := z
      exact ⟨b, o, t, u, n, f1, (kk b o f2).2, f3⟩
    have k2 : ∀ v ∈ its, kfSS s.heap v = kfSS h₁ v := fun v hv => by
      obtain ⟨x, y, z⟩ := hp v hv
      rw [z.kf, (k1 v hv x y z).kf]
    have S := sortableSS (P := X.prog) (w := X.w) (A := X.A.in1.in1) (s := { s with heap := h₁ }) (a := b) (vs := its) (by omega) (fun v hv => by
      obtain ⟨x, y, z⟩ := hp v hv
      exact ⟨x, y, k1 v hv x y z⟩) fun h' keep v hv x y z => by
        obtain ⟨x0, y0, b0, o0, t0, u0, n0, g1, g2, g3, g4⟩ := hp v hv
        obtain ⟨b1, o, t, u, n, f1, f2, f3⟩ := z
        cases g1
        cases f1
        exact ⟨b0, o, t, u, n, rfl, keep _ _ (kk b0 o0 g2).1 f2, f3⟩
    intro h' keep
    obtain ⟨κ, a1, a2⟩ := S h' keep
    refine ⟨κ, a1, fun p q hm hm' => ?_⟩
    have := a2 p q hm hm'
    show wpAny _ _ (keyLt' κ p.1 q.1) (fun r s' => s' = _ ∧ r = (listOrd itemOrd).blt (kfSS s.heap p.1) (kfSS s.heap q.1)) _ _
    rw [k2 _ hm, k2 _ hm']
    exact this
  · have h3 : ∀ u ∈ out, ∃ a, u = Value.ref a := fun u hu => e2 u (hb.perm.mem_iff.mp hu)
    have hpm : (out.map backV).Perm xs := by
      rw [e1]
      exact hb.perm.map backV
    obtain ⟨n, hn⟩ := sortedAll_at s.heap its out.toArray
    refine ⟨.ref (s.heap.objs.size + 1), upd H _ (.lst (out.map backV)), I.laid (t' := s.toks) (fun b o e => sortedAll_old e) (Nat.le_succ _) ⟨?_, out, n, vals_back h3, hn⟩, rfl, q _ _ hpm (I.hok.fresh (Nat.le_succ _))⟩
    rw [hpm.length_eq]
    exact hz
theorem RpL.perm {α : Type} {K : PySem.W.Frag} {F : Hp} {os : List Addr} (f : α → D) {xs ys : List V} (h : ys.Perm xs) : ∀ {l : List α}, RpL K F os xs (l.map f) → ∃ m : List α, m.Perm l ∧ RpL K F os ys (m.map f) := by
  have h' := h.symm
  clear h
  induction h' with
  | nil =>
    intro l r
    exact ⟨l, .refl _, r⟩
  | cons x h ih =>
    intro l r
    cases l with
    | nil => cases r
    | cons a l =>
      cases r with
      | cons r1 r2 =>
        obtain ⟨m, h1, h2⟩ := ih r2
        exact ⟨a :: m, h1.cons a, .cons r1 h2⟩
  | swap x y l0 =>
    intro l r
    match l, r with
    | a :: b :: l, .cons r1 (.cons r2 r3) => exact ⟨b :: a :: l, .swap _ _ _, .cons r2 (.cons r1 r3)⟩
  | trans h1 h2 i1 i2 =>
    intro l r
    obtain ⟨m, a1, a2⟩ := i1 r
    obtain ⟨m2, b1, b2⟩ := i2 a2
    exact ⟨m2, b1.trans a1, b2⟩
section
variable {s : Sta} {P : D → Sta → Prop} {e : Expr} {p pos : Pos}
/-- sorted(l), l a list of pairs of texts: some order of it -/
theorem ae_sortedQ (own : Bool) (hm : c.mg "sorted" = none) (h : AE c e s fun d s1 => ∃ l : SPs, RdL s1 d (l.map prS) ∧ ∀ m : SPs, m.Perm l → NewL own s1 (m.map prS) P) (hg : IsG c "sorted" := by rfl)
    (he : ∀ env, starEach [e] env = (false, eval e env) :: starEach [] env := by intro _; rfl) : AE c (.Call (.Name "sorted" p) [e] [] pos) s P := by
  refine ae_callB (rV := fun X vs H Q => ∃ (a : Addr) (xs : List V), vs = [V.ref a] ∧ SqL X.K H a xs ∧ (∀ x ∈ xs, ∃ t x1 x2, x = V.ref t ∧ SqT X.K H t [.str x1, .str x2]) ∧
      ∀ ys p, ys.Perm xs → H p = none → Q (.ref p) (upd H p (.lst ys)))
    (r := fun ds s P => ∃ d, ds = [d] ∧ ∃ l : SPs, RdL s d (l.map prS) ∧ ∀ m : SPs, m.Perm l → NewL own s (m.map prS) P) (fun X hX => cr_sortedSS) (fun X hX => ?_) hm (by decide +kernel) (aa_one (h.mono fun d s1 h => ⟨d, rfl, h⟩) he) hg (by decide) (by decide) he (fun _ => rfl)
  intro σ τ τv H s vs ds P Q l R h hq
  obtain ⟨d, rfl, l0, hd, h⟩ := h
  obtain ⟨v, rfl⟩ := one_v l
  have R1 : Rep c s σ (d :: τ) (v :: τv) H := R
  obtain ⟨a, xs, rfl, q, ln, R2⟩ := R1.rdl hd
  obtain ⟨F, os, ent, ext, sls, r⟩ := id R2
  have rx := (RpL.split ln r).1
  rw [hX.K]
  refine ⟨a, xs, rfl, q, fun x hx => ?_, fun ys p hy hn => ?_⟩
  · obtain ⟨i, hi, e⟩ := List.getElem_of_mem hx
    have hl0 : i < l0.length := by rw [ln, List.length_map] at hi; exact hi
    obtain ⟨w, g1, g2⟩ := rx.get (i := i) (d := prS l0[i]) (by rw [List.getElem?_map, List.getElem?_eq_getElem hl0]; rfl)
    rw [List.getElem?_eq_getElem hi, e] at g1
    cases g1
    unfold prS at g2
    cases g2 with
    | tup g1 g2 =>
      cases g2 with
      | cons a1 g2 =>
        cases g2 with
        | cons a2 g2 =>
          cases g2
          cases a1
          cases a2
          exact ⟨_, _, _, rfl, sq_t ent.ex g1⟩
  · obtain ⟨m, hm, ry⟩ := RpL.perm prS hy rx
    have ln2 : ys.length = (m.map prS).length := ry.length
    have R3 : Rep c s σ (m.map prS ++ τ) (ys ++ τv) H := ⟨F, os, ent, ext, sls, ry.append (RpL.split ln r).2.tail⟩
    exact R3.newL hn (fun F os r => (RpL.split ln2 r).1) (fun F os r => (RpL.split ln2 r).2) (h m hm) hq
end
end G9

namespace G9
open PySem PySem.Spec PyProof.Rows L2
local macro_rules | `(tactic| walk_at "sn") => `(tactic| (first | (refine ass_at2 (by simp only [List.set_cons_zero, List.set_cons_succ, List.cons_append, List.nil_append, List.length_cons, List.length_nil, Nat.zero_add, Nat.reduceAdd, List.map_nil, List.append_nil, start, List.map_cons, List.replicate, Nat.reduceSub, Nat.sub_zero]; exact NF.rfl') ?_) | (show ASs _ _ _ _)))
local macro_rules | `(tactic| walk_at "sz") => `(tactic| (first | omega | (simp only [List.length_append, List.length_cons, List.length_nil, List.length_map, List.length_range]; omega) | exact le_sl (by simp; done) | (simp; omega)))
local macro_rules | `(tactic| walk_at "flat") => `(tactic| (first | rfl | exact all_flat_strs _ | exact all_flat_ints _ | exact all_flat_nD _))
local macro_rules | `(tactic| walk_at "nm") => `(tactic| (first | refine nm 0 ?_ | refine nm 1 ?_ | refine nm 2 ?_ | refine nm 3 ?_ | refine nm 4 ?_ | refine nm 5 ?_ | refine nm 6 ?_ | refine nm 7 ?_ | refine nm 8 ?_ | refine nm 9 ?_ | refine nm 10 ?_ | refine nm 11 ?_ | refine nm 12 ?_ | refine nm 13 ?_ | refine nm 14 ?_ | refine nm 15 ?_ | refine nm 16 ?_ | refine nm 17 ?_ | refine nm 18 ?_ | refine nm 19 ?_ | refine nm 20 ?_ | refine nm 21 ?_ | refine nm 22 ?_ | refine nm 23 ?_))
local macro_rules | `(tactic| walk_at "e") => `(tactic| (first | walk_at "nm" | refine ae_int ?_ | refine ae_plus ?_ | refine ae_cmp ?_ | refine ae_dcall 0 0 (by assumption) (Nat.le_refl _) rfl rfl ?_ | refine ae_dcall 1 0 (by assumption) (Nat.le_refl _) rfl rfl ?_ | refine ae_callP (by assumption) (Nat.le_refl _) ?_ | refine ae_slU ?_ | refine ae_subU ?_ | refine ae_str eNil ?_ | refine ae_str (by assumption) ?_ | refine ae_len (by assumption) ?_ | refine ae_sub ?_ | refine ae_mul ?_ | refine ae_tup ?_ | refine ae_tupleOf (by assumption) ?_ | refine ae_max2 (by assumption) ?_ | refine ae_min2 (by assumption) ?_ | refine ae_bl ?_ | refine ae_non ?_ | refine ae_not ?_ | refine ae_and ?_ | refine ae_or ?_ | refine ae_one ?_ | refine ae_mod ?_ | refine ae_fdiv ?_ | refine ae_neg ?_ | refine ae_if ?_ | refine ae_toInt (by assumption) ?_ | refine ae_all (by assumption) ?_ | refine ae_any (by assumption) ?_))
local macro_rules | `(tactic| walk_at "r") => `(tactic| (first | refine is_i ?_ | refine is_b ?_ | refine is_s ?_ | refine is_t ?_ | refine add_i ?_ | refine add_s (by walk_at "sz") ?_ | refine add_t (by walk_at "sz") ?_ | refine lt_i ?_ | refine lt_s ?_ | refine sub_i (ix_t rfl) ?_ | refine sub_i (ix_l rfl) ?_ | refine sub_i (ix_o rfl rfl) ?_ | refine sub_i (ix_t (by assumption)) ?_ | refine sub_i (ix_l (by assumption)) ?_ | refine sub_i (ix_o (by assumption) (by assumption)) ?_ | refine sub_s (by walk_at "sz") (by assumption) ?_ | refine eq_k rfl ?_ | refine in_q (.inr rfl) rfl (by walk_at "flat") ?_ | refine in_q (.inl (.inl rfl)) rfl (by walk_at "flat") ?_ | refine in_q (.inl (.inr ⟨_, rfl, rfl⟩)) rfl (by walk_at "flat") ?_ | refine slc_s (by walk_at "sz") ?_ | refine slc_t ?_ | refine slc_l (.inl rfl) ?_ | refine slc_l (.inr ⟨_, rfl, rfl⟩) ?_ | refine in_s ?_ | refine ⟨_, len_s (by walk_at "sz"), ?_⟩ | refine ⟨_, len_t, ?_⟩ | refine ⟨_, len_l, ?_⟩ | refine ⟨_, len_o rfl, ?_⟩ | refine ⟨_, len_o (by assumption), ?_⟩ | refine ⟨_, rfl, ?_⟩ | refine ⟨_, .inl rfl, ?_⟩ | refine ⟨_, .inr ⟨_, rfl, rfl⟩, ?_⟩ | refine ⟨le_sl (by simp), ?_⟩ | refine ⟨.inl ⟨by omega, by omega⟩, ?_⟩))
local macro_rules | `(tactic| walk_at "as") => `(tactic| (first | refine as_ret ?_ | refine as_set (i := 0) rfl ?_ | refine as_set (i := 1) rfl ?_ | refine as_set (i := 2) rfl ?_ | refine as_set (i := 3) rfl ?_ | refine as_set (i := 4) rfl ?_ | refine as_set (i := 5) rfl ?_ | refine as_set (i := 6) rfl ?_ | refine as_set (i := 7) rfl ?_ | refine as_set (i := 8) rfl ?_ | refine as_set (i := 9) rfl ?_ | refine as_set (i := 10) rfl ?_ | refine as_set (i := 11) rfl ?_ | refine as_set (i := 12) rfl ?_ | refine as_set (i := 13) rfl ?_ | refine as_set (i := 14) rfl ?_ | refine as_set (i := 15) rfl ?_ | refine as_set (i := 16) rfl ?_ | refine as_set (i := 17) rfl ?_ | refine as_set (i := 18) rfl ?_ | refine as_set (i := 19) rfl ?_ | refine as_set (i := 20) rfl ?_ | refine as_set (i := 21) rfl ?_ | refine as_set (i := 22) rfl ?_ | refine as_set (i := 23) rfl ?_ | refine as_if ?_ | refine as_expr ?_ | refine as_retN ?_ | refine as_asg ?_ | refine as_addI (i := 0) rfl rfl ?_ | refine as_addI (i := 1) rfl rfl ?_ | refine as_addI (i := 2) rfl rfl ?_ | refine as_addI (i := 3) rfl rfl ?_ | refine as_addI (i := 4) rfl rfl ?_ | refine as_addI (i := 5) rfl rfl ?_ | refine as_addI (i := 6) rfl rfl ?_ | refine as_addI (i := 7) rfl rfl ?_ | refine as_addI (i := 8) rfl rfl ?_ | refine as_addI (i := 9) rfl rfl ?_ | refine as_addI (i := 10) rfl rfl ?_ | refine as_addI (i := 11) rfl rfl ?_ | refine as_addI (i := 12) rfl rfl ?_ | refine as_addI (i := 13) rfl rfl ?_ | refine as_addI (i := 14) rfl rfl ?_ | refine as_addI (i := 15) rfl rfl ?_ | refine as_addI (i := 16) rfl rfl ?_ | refine as_addI (i := 17) rfl rfl ?_ | refine as_addI (i := 18) rfl rfl ?_ | refine as_addI (i := 19) rfl rfl ?_ | refine as_addI (i := 20) rfl rfl ?_ | refine as_addI (i := 21) rfl rfl ?_ | refine as_addI (i := 22) rfl rfl ?_ | refine as_addI (i := 23) rfl rfl ?_ | refine as_pass ?_ | refine as_break ?_ | refine as_cont ?_))
local macro_rules | `(tactic| walk_at "ass") => `(tactic| (first | refine ass_nil ?_ | (walk_at "sn"; first | refine ass_one ?_ | refine ass_cons ?_)))
local macro_rules | `(tactic| walk_at "1") => `(tactic| (first | ((with_reducible show AE _ _ _ _); walk_at "e") | ((with_reducible show AC _ _ _ _ _ _); first | refine ac_eqU ?_ | refine ac_ltU ?_ | refine ac_inU ?_ | refine ac_notInU ?_ | refine ac_isN ?_ | refine ac_notN ?_ | refine ac_neU ?_ | refine ac_le ?_ | refine ac_ge ?_ | refine ac_gt ?_) | ((with_reducible show AT _ _ _ _); first | refine at_cmp ?_ | refine at_not ?_ | (refine at_w ?_; first | refine aw_and ?_ | refine aw_or ?_) | refine at_val ?_) | ((with_reducible show AW _ _ _ _); first | refine aw_and ?_ | refine aw_or ?_ | refine aw_and1 ?_ | refine aw_or1 ?_) | ((with_reducible show AA _ _ _ _); first | refine aa_nil ?_ | refine aa_cons ?_) | ((with_reducible show AO _ _ _ _); first | refine ao_none ?_ | refine ao_some ?_) | ((with_reducible show AS _ _ _ _); walk_at "as") | ((with_reducible show ASs _ _ _ _); walk_at "ass") | ((with_reducible show seqP _ _ _ _); walk_at "ass") | ((with_reducible show AG _ _ _ _ _); first | refine ag_name (i := 0) rfl ?_ | refine ag_name (i := 1) rfl ?_ | refine ag_name (i := 2) rfl ?_ | refine ag_name (i := 3) rfl ?_ | refine ag_name (i := 4) rfl ?_ | refine ag_name (i := 5) rfl ?_ | refine ag_name (i := 6) rfl ?_ | refine ag_name (i := 7) rfl ?_ | refine ag_name (i := 8) rfl ?_ | refine ag_name (i := 9) rfl ?_ | refine ag_name (i := 10) rfl ?_ | refine ag_name (i := 11) rfl ?_ | refine ag_name (i := 12) rfl ?_ | refine ag_name (i := 13) rfl ?_ | refine ag_name (i := 14) rfl ?_ | refine ag_name (i := 15) rfl ?_ | refine ag_name (i := 16) rfl ?_ | refine ag_name (i := 17) rfl ?_ | refine ag_name (i := 18) rfl ?_ | refine ag_name (i := 19) rfl ?_ | refine ag_name (i := 20) rfl ?_ | refine ag_name (i := 21) rfl ?_ | refine ag_name (i := 22) rfl ?_ | refine ag_name (i := 23) rfl ?_ | refine ag_tup ?_) | ((with_reducible show AGs _ _ _ _ _); first | refine ags_name (i := 0) rfl ?_ | refine ags_name (i := 1) rfl ?_ | refine ags_name (i := 2) rfl ?_ | refine ags_name (i := 3) rfl ?_ | refine ags_name (i := 4) rfl ?_ | refine ags_name (i := 5) rfl ?_ | refine ags_name (i := 6) rfl ?_ | refine ags_name (i := 7) rfl ?_ | refine ags_name (i := 8) rfl ?_ | refine ags_name (i := 9) rfl ?_ | refine ags_name (i := 10) rfl ?_ | refine ags_name (i := 11) rfl ?_ | refine ags_name (i := 12) rfl ?_ | refine ags_name (i := 13) rfl ?_ | refine ags_name (i := 14) rfl ?_ | refine ags_name (i := 15) rfl ?_ | refine ags_name (i := 16) rfl ?_ | refine ags_name (i := 17) rfl ?_ | refine ags_name (i := 18) rfl ?_ | refine ags_name (i := 19) rfl ?_ | refine ags_name (i := 20) rfl ?_ | refine ags_name (i := 21) rfl ?_ | refine ags_name (i := 22) rfl ?_ | refine ags_name (i := 23) rfl ?_ | refine ags_nil ?_) | walk_at "r"))
local macro_rules | `(tactic| walk_at "y") => `(tactic| (first | ((with_reducible show AE _ _ _ _); walk_at "e") | ((with_reducible show AC _ _ _ _ _ _); first | refine ac_eqU ?_ | refine ac_ltU ?_ | refine ac_inU ?_ | refine ac_notInU ?_ | refine ac_isN ?_ | refine ac_notN ?_ | refine ac_neU ?_ | refine ac_le ?_ | refine ac_ge ?_ | refine ac_gt ?_) | ((with_reducible show AT _ _ _ _); first | refine at_cmp ?_ | refine at_not ?_ | (refine at_w ?_; first | refine aw_and ?_ | refine aw_or ?_) | refine at_val ?_) | ((with_reducible show AW _ _ _ _); first | refine aw_and ?_ | refine aw_or ?_ | refine aw_and1 ?_ | refine aw_or1 ?_) | ((with_reducible show AA _ _ _ _); first | refine aa_nil ?_ | refine aa_cons ?_) | ((with_reducible show AO _ _ _ _); first | refine ao_none ?_ | refine ao_some ?_) | ((with_reducible show AG _ _ _ _ _); first | refine ag_name (i := 0) rfl ?_ | refine ag_name (i := 1) rfl ?_ | refine ag_name (i := 2) rfl ?_ | refine ag_name (i := 3) rfl ?_ | refine ag_name (i := 4) rfl ?_ | refine ag_name (i := 5) rfl ?_ | refine ag_name (i := 6) rfl ?_ | refine ag_name (i := 7) rfl ?_ | refine ag_name (i := 8) rfl ?_ | refine ag_name (i := 9) rfl ?_ | refine ag_name (i := 10) rfl ?_ | refine ag_name (i := 11) rfl ?_ | refine ag_name (i := 12) rfl ?_ | refine ag_name (i := 13) rfl ?_ | refine ag_name (i := 14) rfl ?_ | refine ag_name (i := 15) rfl ?_ | refine ag_name (i := 16) rfl ?_ | refine ag_name (i := 17) rfl ?_ | refine ag_name (i := 18) rfl ?_ | refine ag_name (i := 19) rfl ?_ | refine ag_name (i := 20) rfl ?_ | refine ag_name (i := 21) rfl ?_ | refine ag_name (i := 22) rfl ?_ | refine ag_name (i := 23) rfl ?_ | refine ag_tup ?_) | ((with_reducible show AGs _ _ _ _ _); first | refine ags_name (i := 0) rfl ?_ | refine ags_name (i := 1) rfl ?_ | refine ags_name (i := 2) rfl ?_ | refine ags_name (i := 3) rfl ?_ | refine ags_name (i := 4) rfl ?_ | refine ags_name (i := 5) rfl ?_ | refine ags_name (i := 6) rfl ?_ | refine ags_name (i := 7) rfl ?_ | refine ags_name (i := 8) rfl ?_ | refine ags_name (i := 9) rfl ?_ | refine ags_name (i := 10) rfl ?_ | refine ags_name (i := 11) rfl ?_ | refine ags_name (i := 12) rfl ?_ | refine ags_name (i := 13) rfl ?_ | refine ags_name (i := 14) rfl ?_ | refine ags_name (i := 15) rfl ?_ | refine ags_name (i := 16) rfl ?_ | refine ags_name (i := 17) rfl ?_ | refine ags_name (i := 18) rfl ?_ | refine ags_name (i := 19) rfl ?_ | refine ags_name (i := 20) rfl ?_ | refine ags_name (i := 21) rfl ?_ | refine ags_name (i := 22) rfl ?_ | refine ags_name (i := 23) rfl ?_ | refine ags_nil ?_) | ((fail_if_success (show ASs _ _ _ _)); walk_at "r")))
local macro_rules | `(tactic| walk_at "x") => `(tactic| (repeat walk_at "y"))
local macro_rules | `(tactic| walk_at "w") => `(tactic| (repeat walk_at "1"))
def topS (i : Nat) : Stmt := PySem.Challenge.pw_guessrests_k22_told_kinds_of_variables.main.body.getD i (.Pass ⟨0, 0, 0, 0⟩)
abbrev sTake : Stmt := topS 12
abbrev sDraws : Stmt := topS 11
section
variable {P : Program} {w : World} {K : PySem.W.Frag} {mg : Str → Option Value} {base : Heap}
/-! ### _law_take -/
def R_take : Spec := fun ds O P => ∃ (ns : List Int) (m : Int), ds = [.ob 0, .int m] ∧ O = [.lst (ns.map D.int)] ∧ 0 < m ∧ ∀ (r : Int) (ns' : List Int), 0 ≤ r → r < m → P (.int r) [.lst (ns'.map D.int)]
theorem scTake : FnScope ["draws", "many"] ["draws", "many"] (defScope sTake) := ⟨rfl, rfl, rfl, by decide +kernel, rfl, by decide +kernel, by decide +kernel⟩
theorem ok_take {f : Addr} {fd : FuncData} {k : Nat} (F : Fun K "_law_take" "_law_take" sTake f fd) (ml : mg "len" = none) (mi : mg "int" = none) : FnOk P w K mg base CX0 (k + 1) f fd ["draws", "many"] (spA w K R_take) := by
  refine fnA F scTake (by rintro ds O Q ⟨ns, m, rfl, _⟩; rfl) fun F0 H0 os0 ds O Q h => ?_
  obtain ⟨ns, m, rfl, rfl, hm, hq⟩ := h
  refine ass_cons (as_if (at_cmp (ac_eq (ae_len ml ?_))))
  refine nm 0 ?_
  refine ⟨_, len_o rfl, ae_int ⟨_, rfl, is_b ?_⟩⟩
  rcases List.eq_nil_or_concat ns with rfl | ⟨r, x, rfl⟩
  · exact ass_one (as_ret (ae_int ⟨_, _, .refl, hq 0 [] (by omega) hm⟩))
  · rw [if_neg (by simp; omega)]
    refine ass_nil (ass_one (as_ret (ae_mod (ae_toInt mi (ae_pop ?_)))))
    refine nm 0 ?_
    refine ⟨0, r.map D.int, .int x, rfl, by simp, _, .inl rfl, ?_⟩
    refine nm 1 ?_
    refine is_i (is_i ⟨hm, ?_⟩)
    exact ⟨_, _, .refl, hq (x % m) r (Int.emod_nonneg _ (by omega)) (Int.emod_lt_of_pos _ hm)⟩
theorem mono_R_take : ∀ ds O Q Q', (∀ d O', Q d O' → Q' d O') → R_take ds O Q → R_take ds O Q' := fun ds O Q Q' q h => match h with
  | ⟨ns, m, h1, h2, h3, h4⟩ => ⟨ns, m, h1, h2, h3, fun r ns2 a b => q _ _ (h4 r ns2 a b)⟩

/-! ### _law_draws -/
def R_draws : Spec := fun ds O P => ∃ (ns : List Int) (m : Nat), ds = [.lst (ns.map D.int), .int m] ∧ O = [] ∧ ns.length ≤ 63 ∧ m ≤ 1000 ∧ ∀ (rs : List Int), P (.ob 0) [.lst (rs.map D.int)]
abbrev nDraws : List Str := ["script", "many", "cells", "cell", "rest", "draws", "k", "at", "mixed"]
theorem scDraws : FnScope nDraws ["script", "many"] (defScope sDraws) := ⟨rfl, rfl, rfl, by decide +kernel, rfl, by decide +kernel, by decide +kernel⟩
theorem ok_draws {f : Addr} {fd : FuncData} {k : Nat} (F : Fun K "_law_draws" "_law_draws" sDraws f fd) (ml : mg "len" = none) (mi : mg "int" = none) (mli : mg "list" = none) (mr : mg "range" = none) : FnOk P w K mg base CX0 (k + 1) f fd ["script", "many"] (spA w K R_draws) := by
  refine fnA F scDraws (by rintro ds O Q ⟨ns, m, rfl, _⟩; rfl) fun F0 H0 os0 ds O Q h => ?_
  obtain ⟨ns, m, rfl, rfl, hn, hm, hq⟩ := h
  have sl : sizeLine = 16777216 := rfl
  -- cells = [int(cell) for cell in script]
  refine ass_cons (as_lc (iy := 2) nDraws (defScope sDraws) true 3 [("cell", 3)] rfl rfl rfl rfl (by decide +kernel) (by decide +kernel) (by simp) rfl rfl (by simp) (ai_list ?_))
  refine nm 0 (.inl ⟨_, rfl, fun i acc s => s = ⟨[some (.lst (ns.map D.int)), some (.int m), none, none, none, none, none, none, none], [.lst acc]⟩ ∧ acc = (ns.take i).map D.int, ⟨rfl, rfl⟩, ?_, ?_, ?_, ?_⟩)
  · rintro i acc s ⟨rfl, rfl⟩
    refine ⟨trivial, rfl, by simp; omega, ?_⟩
    intro v hv d q
    simp at hv
    subst hv
    cases q
  · rintro i acc d s hd ⟨rfl, rfl⟩
    obtain ⟨n, hn', rfl⟩ := map_at hd
    show AE _ _ _ _
    refine ae_toInt mi (nm 3 ⟨n, .inl rfl, rfl, _, .refl, rfl, ?_⟩)
    rw [List.take_add_one, hn']
    simp
  · rintro acc s ⟨rfl, rfl⟩
    -- if len(cells) == 0
    have tl : (ns.map D.int).length = ns.length := by simp
    rw [tl, List.take_length]
    refine ass_cons (as_ifJ (fun s => ∃ cs : List Int, 0 < cs.length ∧ cs.length ≤ 63 ∧ s = ⟨[some (.lst (ns.map D.int)), some (.int m), some (.ob 0), none, none, none, none, none, none], [.lst (cs.map D.int)]⟩) (at_cmp (ac_eq (ae_len ml (nm 2 ⟨_, len_o rfl, ae_int ⟨_, rfl, is_b ?_⟩⟩)))) ?_)
    · by_cases h0 : ns = []
      · subst h0
        refine ass_one (as_expr (ae_append (nm 2 ⟨⟨0, _, rfl, rfl⟩, ae_int ⟨0, _, rfl, rfl, by decide, [0], by decide, by decide, rfl⟩⟩)))
      · have : 0 < ns.length := List.length_pos_iff.mpr h0
        rw [if_neg (by simp; omega)]
        exact ass_nil ⟨ns, this, hn, rfl⟩
    rintro s ⟨cs, c0, c63, rfl⟩
    -- rest = list(cells); draws = []
    refine ass_cons (as_set (i := 4) rfl (ae_listO mli (nm 2 ⟨_, .inl (.inr ⟨0, rfl, rfl⟩), ?_⟩)))
    refine ass_cons (as_set (i := 5) rfl (ae_lstO (aa_nil ⟨Nat.zero_le _, ?_⟩)))
    -- the loop
    refine ass_cons (as_for (ai_range1 mr ?_))
    refine nm 1 ?_
    refine is_i ⟨by omega, by omega, ?_⟩
    refine ⟨fun i s => ∃ (rs dr : List Int) (a b e : Option D), rs.length = cs.length ∧ dr.length = i ∧ s = ⟨[some (.lst (ns.map D.int)), some (.int m), some (.ob 0), none, some (.ob 1), some (.ob 2), a, b, e], [.lst (cs.map D.int), .lst (rs.map D.int), .lst (dr.map D.int)]⟩, ⟨cs, [], none, none, none, rfl, rfl, rfl⟩, fun _ _ _ => trivial, ?_, ?_⟩
    · rintro i d s hd ⟨rs, dr, a, b, e, hr, hdr, rfl⟩
      have hi : i < m := by
        have := (List.getElem?_eq_some_iff.mp hd).1
        simpa [rngD] using this
      have ed : d = .int (i : Nat) := by
        have : (rngD 0 (Int.toNat m))[i]? = some (.int (i : Nat)) := by simp [rngD, hi]
        rw [this] at hd
        exact (Option.some.inj hd).symm
      subst ed
      refine ag_name (i := 6) rfl ?_
      -- at = k % len(cells)
      refine ass_cons (as_set (i := 7) rfl (ae_mod ?_))
      refine nm 6 ?_
      refine ae_len ml (nm 2 ?_)
      refine ⟨_, len_o rfl, is_i (is_i ⟨by simp; omega, ?_⟩)⟩
      have hat : 0 ≤ (i : Int) % ((cs.map D.int).length : Nat) ∧ (i : Int) % ((cs.map D.int).length : Nat) < cs.length := by
        rw [List.length_map]
        exact ⟨Int.emod_nonneg _ (by omega), Int.emod_lt_of_pos _ (by omega)⟩
      have e0 : (0 : Int) + (i : Nat) = (i : Nat) := by omega
      obtain ⟨q, hq1⟩ : ∃ q : Nat, (i : Int) % ((cs.map D.int).length : Nat) = q := ⟨_, (Int.toNat_of_nonneg hat.1).symm⟩
      have hq2 : q < cs.length := by omega
      have hq3 : q < rs.length := by omega
      obtain ⟨cv, hcv⟩ : ∃ cv, (cs.map D.int)[q]? = some (.int cv) := ⟨cs[q], by simp [hq2]⟩
      obtain ⟨rv, hrv⟩ : ∃ rv, (rs.map D.int)[q]? = some (.int rv) := ⟨rs[q], by simp [hq3]⟩
      rw [hq1]
      -- if cells[at] >= 10 ** 18
      refine ass_one (as_if (at_cmp (ac_ge (ae_ix ?_))))
      refine nm 2 (nm 7 ?_)
      refine is_i ⟨_, ix_o rfl (atI_nat hcv), ?_⟩
      refine ae_pow (ae_int (ae_int (is_i (is_i ⟨⟨by decide, by decide, by decide⟩, is_i (is_i (is_b ?_))⟩))))
      have done : ∀ (rs' : List Int) (v : Int) (x y z : Option D), rs'.length = cs.length → ∃ s', Gc 3 (⟨[some (.lst (ns.map D.int)), some (.int m), some (.ob 0), none, some (.ob 1), some (.ob 2), x, y, z], [.lst (cs.map D.int), .lst (rs'.map D.int), .lst (dr.map D.int ++ [.int v])]⟩ : Sta) s' ∧ (fun s => ∃ (rs dr : List Int) (a b e : Option D), rs.length = cs.length ∧ dr.length = i + 1 ∧ s = ⟨[some (.lst (ns.map D.int)), some (.int m), some (.ob 0), none, some (.ob 1), some (.ob 2), a, b, e], [.lst (cs.map D.int), .lst (rs.map D.int), .lst (dr.map D.int)]⟩) s' := fun rs' v x y z h => ⟨_, .refl, rs', dr ++ [v], x, y, z, h, by simp [hdr], by simp⟩
      refine ite2 (fun _ => ?_) (fun _ => ?_)
      · -- draws.append(int(rest[at]) % 1000); rest[at] = rest[at] // 1000
        refine ass_cons (as_expr (ae_append ?_))
        refine nm 5 ⟨⟨2, _, rfl, rfl⟩, ?_⟩
        refine ae_mod (ae_toInt mi (ae_ix ?_))
        refine nm 4 (nm 7 ?_)
        refine is_i ⟨_, ix_o rfl (atI_nat hrv), _, .inl rfl, ?_⟩
        refine ae_int (is_i (is_i ⟨by decide, ?_⟩))
        refine ⟨2, _, rfl, rfl, by simp; omega, ?_⟩
        refine ass_one (as_asg (ae_fdiv (ae_ix ?_)))
        refine nm 4 (nm 7 ?_)
        refine is_i ⟨_, ix_o rfl (atI_nat hrv), ?_⟩
        refine ae_int (is_i (is_i ⟨⟨by decide, by decide⟩, ?_⟩))
        refine ag_sub ?_
        refine nm 4 (nm 7 ?_)
        refine ⟨1, rs.map D.int, _, q, rfl, rfl, rfl, ?_, ?_⟩
        · unfold ixN
          rw [if_pos (by omega), if_pos (by simp; omega)]
          simp
        · have := done (rs.set q (rv / 1000)) (rv % 1000) (some (.int (i : Nat))) (some (.int q)) e (by simp [hr])
          rw [List.map_set] at this
          exact this
      · refine ass_cons (as_set (i := 8) rfl (ae_mod (ae_toInt mi (ae_add (ae_add (ae_mul (ae_ix ?_)))))))
        refine nm 2 (nm 7 ?_)
        refine is_i ⟨_, ix_o rfl (atI_nat hcv), ?_⟩
        refine ae_int (is_i (is_i ⟨.inr ⟨by decide, by decide⟩, ?_⟩))
        refine ae_mul (nm 6 (ae_int ?_))
        refine is_i (is_i ⟨.inr ⟨by decide, by decide⟩, ?_⟩)
        refine is_i (is_i (ae_int (is_i (is_i ⟨_, .inl rfl, ?_⟩))))
        refine ae_int (is_i (is_i ⟨by decide, ?_⟩))
        generalize hv : (cv * 48271 + (i : Nat) * 69621 + 11) % 2147483647 = v
        have v0 : 0 ≤ v := hv ▸ Int.emod_nonneg _ (by decide)
        have v1 : v < 2147483647 := hv ▸ Int.emod_lt_of_pos _ (by decide)
        refine ass_one (as_expr (ae_append ?_))
        refine nm 5 ⟨⟨2, _, rfl, rfl⟩, ?_⟩
        refine ae_mod (ae_toInt mi (ae_add (ae_add (ae_mul ?_))))
        refine nm 8 (nm 8 ?_)
        refine is_i (is_i ⟨.inl ⟨by omega, by omega⟩, ?_⟩)
        refine ae_mul (ae_int (nm 8 ?_))
        refine is_i (is_i ⟨.inl ⟨by decide, by decide⟩, ?_⟩)
        refine is_i (is_i (nm 6 ?_))
        refine is_i (is_i ⟨_, .inl rfl, ?_⟩)
        refine ae_int (is_i (is_i ⟨by decide, ?_⟩))
        refine ⟨2, _, rfl, rfl, by simp; omega, ?_⟩
        exact done rs _ (some (.int (i : Nat))) (some (.int q)) (some (.int v)) hr
    · rintro s ⟨rs, dr, a, b, e, hr, hdr, rfl⟩
      refine ass_cons (as_expr (ae_reverse (nm 5 ⟨2, _, rfl, rfl, ?_⟩)))
      refine ass_one (as_ret (nm 5 ⟨.ob 0, [.lst (dr.reverse.map D.int)], ?_, hq _⟩))
      have := GcR.move (m := 0) (d := .ob 2) (O := [.lst (cs.map D.int), .lst (rs.map D.int), .lst (dr.map D.int).reverse]) 0 2 (.lst (dr.map D.int).reverse) (Nat.le_refl _) rfl rfl (by decide) (by
        show D.bndL 0 (dr.map D.int).reverse
        rw [← List.map_reverse]
        exact bnd_ints) (by simp)
      simpa using this
  · rw [List.length_map]
    exact Nat.le_trans hn (by decide)
theorem mono_R_draws : ∀ ds O Q Q', (∀ d O', Q d O' → Q' d O') → R_draws ds O Q → R_draws ds O Q' := fun ds O Q Q' q h => match h with
  | ⟨ns, m, h1, h2, h3, h4, h5⟩ => ⟨ns, m, h1, h2, h3, h4, fun rs => q _ _ (h5 rs)⟩

theorem kit2 {K : PySem.W.Frag} {a t1 t2 : String} {b1 b2 : Bool} (h1 : kitB a t1 = some b1) (h2 : kitB a t2 = some b2) : PySem.W.kitAny K (.type a) [.type t1, .type t2] = some (b1 || b2) := by
  refine kitAny_cons (kit_ty h1) (fun e => ?_) (fun e => by rw [e]; rfl)
  refine kitAny_cons (kit_ty h2) (fun e2 => ?_) (fun e2 => by rw [e2]; simp)
  rw [e, e2]
  rfl
def okD : Nat → D → Prop
  | _, .non => True
  | _, .bl _ => True
  | _, .int _ => True
  | _, .str _ => True
  | n + 1, .tup ds => ds.length ≤ 100000 ∧ ∀ d ∈ ds, okD n d
  | n + 1, .lst ds => ds.length ≤ 100000 ∧ ∀ d ∈ ds, okD n d
  | _, _ => False
def R_same (n : Nat) : Spec := fun ds O P => ∃ d : D, ds = [d, d] ∧ O = [] ∧ okD n d ∧ D.bnd 0 d ∧ P (.bl true) []
abbrev nSame : List Str := ["actual", "due", "k"]

/-! ### alphabets -/
def LET : List Nat := [97, 98, 99, 100, 101, 102, 103, 104, 105, 106, 107, 108, 109, 110, 111, 112, 113, 114, 115, 116, 117, 118, 119, 120, 121, 122]
theorem eLET : ("abcdefghijklmnopqrstuvwxyz" : Str) = S LET := by decide +kernel
theorem eABCD : ("abcd" : Str) = S [97, 98, 99, 100] := by decide +kernel
structure IsAl (al : List Nat) : Prop where
  let_ : ∀ x ∈ al, x ∈ LET
  up : al.Pairwise (· < ·)
theorem nodup_len {α : Type} [DecidableEq α] : ∀ {a b : List α}, a.Nodup → (∀ x ∈ a, x ∈ b) → a.length ≤ b.length
  | [], _, _, _ => Nat.zero_le _
  | x :: r, b, nd, h => by
    have nd' := List.nodup_cons.mp nd
    have hx := h x List.mem_cons_self
    have := nodup_len (a := r) (b := b.erase x) nd'.2 fun y hy => (List.mem_erase_of_ne (show y ≠ x from fun e => nd'.1 (by rw [← e]; exact hy))).mpr (h y (List.mem_cons_of_mem _ hy))
    rw [List.length_erase_of_mem hx] at this
    have := List.length_pos_of_mem hx
    rw [List.length_cons]
    omega
theorem sum_ones {α : Type} : ∀ ls : List α, (ls.map fun _ => 1).sum = ls.length
  | [] => rfl
  | x :: r => by
    rw [List.map_cons, List.sum_cons, sum_ones r, List.length_cons]
    omega
theorem joinN_nil : ∀ ls : List (List Nat), joinN [] ls = ls.flatten
  | [] => rfl
  | [l] => by simp [joinN]
  | l :: m :: r => by
    rw [joinN, joinN_nil (m :: r)]
    simp
/-- the sorted signs, joined -/
def joinSort (ls : List Nat) : List Nat := joinN [] (sortS (ls.map fun k => [k]))
theorem joinSort_ok (ls : List Nat) : ∃ al : List Nat, joinSort ls = al ∧ al.Perm ls ∧ al.Pairwise (· ≤ ·) := by
  have hp := sortS_perm (ls.map fun k => [k])
  have hs := sortS_pair (ls.map fun k => [k])
  have one : ∀ x ∈ sortS (ls.map fun k => [k]), ∃ k, x = [k] := fun x hx => by
    obtain ⟨k, _, rfl⟩ := List.mem_map.mp (hp.mem_iff.mp hx)
    exact ⟨k, rfl⟩
  have gen : ∀ (L : List (List Nat)), (∀ x ∈ L, ∃ k, x = [k]) → L = L.flatten.map fun k => [k] := by
    intro L
    induction L with
    | nil => intro _; rfl
    | cons x r ih =>
      intro h
      obtain ⟨k, rfl⟩ := h x List.mem_cons_self
      have := ih fun y hy => h y (List.mem_cons_of_mem _ hy)
      rw [List.flatten_cons, List.map_append]
      exact congrArg ([k] :: ·) this
  have e := gen _ one
  refine ⟨(sortS (ls.map fun k => [k])).flatten, by unfold joinSort; rw [joinN_nil], ?_, ?_⟩
  · have h1 := hp.flatten
    have h2 : (ls.map fun k => [k]).flatten = ls := by
      induction ls with
      | nil => rfl
      | cons k r ih => simp [← List.flatMap_def]
    rw [h2] at h1
    exact h1
  · rw [e] at hs
    rw [List.pairwise_map] at hs
    refine hs.imp fun {a b} h => ?_
    rw [leN_iff] at h
    have := List.cons_le_cons_iff.mp h
    rcases this with q | q
    · exact Nat.le_of_lt q
    · exact Nat.le_of_eq q.1
theorem joinSort_al {ls : List Nat} (h1 : ∀ x ∈ ls, x ∈ LET) (h2 : ls.Nodup) : IsAl (joinSort ls) ∧ (joinSort ls).length = ls.length := by
  obtain ⟨al, e, p, u⟩ := joinSort_ok ls
  rw [e]
  refine ⟨⟨fun x hx => h1 x (p.mem_iff.mp hx), ?_⟩, p.length_eq⟩
  have nd : al.Nodup := p.nodup_iff.mpr h2
  exact (u.and nd).imp fun {a b} h => Nat.lt_of_le_of_ne h.1 h.2
def R_alpha : Spec := fun ds O P => ∃ (ns : List Int) (m : Nat), ds = [.ob 0, .int m] ∧ O = [.lst (ns.map D.int)] ∧ m ≤ 4 ∧ ∀ (al : List Nat) (ns' : List Int), IsAl al → al.length = m → P (.str al) [.lst (ns'.map D.int)]
abbrev nAlpha : List Str := ["draws", "many", "letters", "k", "letter", "other"]
theorem sgl_inD {x : Nat} {ls : List Nat} : inD (.str [x]) (ls.map fun k => D.str [k]) = decide (x ∈ ls) := by
  unfold inD
  rw [List.any_map, Bool.eq_iff_iff]
  simp [eqF]
theorem sgl_flat (ls : List Nat) : (ls.map fun k => D.str [k]).all flatD = true := by
  rw [List.all_map]
  exact List.all_eq_true.mpr fun _ _ => rfl
theorem sgl_strs (ls : List Nat) : (ls.map fun k => D.str [k]) = (ls.map fun k => [k]).map D.str := by
  rw [List.map_map]
  rfl
theorem take_call {c : SC} {s : Sta} {Pp : D → Sta → Prop} {e : Expr} {pos p pd : Pos} {xd : Str} {kf : Nat} (i j : Nat) {ns : List Int} (C : CalA c.prog c.w c.K c.mg c.base kf "_law_take" R_take) (hk : kf ≤ c.k) (hi : c.N[i]? = some xd) (hd : s.r[i]? = some (some (.ob j)))
    (h : AE c e s fun d s1 => isI d fun m => 0 < m ∧ s1.o[j]? = some (.lst (ns.map D.int)) ∧ ∀ (r : Int) (ns' : List Int), 0 ≤ r → r < m → Pp (.int r) ⟨s1.r, s1.o.set j (.lst (ns'.map D.int))⟩) (hv : Vis c.sc xd := by first | exact Or.inl rfl | exact Or.inr (Or.inl rfl) | exact Or.inr (Or.inr rfl))
    (hg : IsG c "_law_take" := by rfl) (h1 : (xd == ("__debug__" : Str)) = false := by decide) (h2 : (xd == ("__classdict__" : Str)) = false := by decide) (he : ∀ env, starEach [.Name xd pd, e] env = (false, eval (.Name xd pd) env) :: starEach [e] env := by intro _; rfl)
    (he2 : ∀ env, starEach [e] env = (false, eval e env) :: starEach [] env := by intro _; rfl) (hpl : ∀ env, (backTo pos (starEach [e] env)).any (·.1) = false := by intro _; rfl) : AE c (.Call (.Name "_law_take" p) [.Name xd pd, e] [] pos) s Pp := by
  refine ae_call1 j C hk (aa_two (ae_name hi hd (h.mono fun d s1 q => ?_) hv h1 h2) he he2) hg (by decide) he hpl
  obtain ⟨m, rfl, hm, ho, q⟩ := q
  refine ⟨[.ob 0, .int m], .lst (ns.map D.int), rfl, ⟨by unfold D.bnd; decide, trivial, trivial⟩, ho, bnd_ints, ns, m, rfl, rfl, hm, fun r ns' h0 h1 x O2 e => ?_⟩
  cases e
  have := q r ns' h0 h1
  rw [oren_ints]
  simpa [D.ren] using this
theorem mono_R_alpha : ∀ ds O Q Q', (∀ d O', Q d O' → Q' d O') → R_alpha ds O Q → R_alpha ds O Q' := fun ds O Q Q' q h => match h with
  | ⟨ns, m, h1, h2, h3, h4⟩ => ⟨ns, m, h1, h2, h3, fun al ns2 a b => q _ _ (h4 al ns2 a b)⟩

theorem draws_call {c : SC} {s : Sta} {Pp : D → Sta → Prop} {e : Expr} {pos p : Pos} {kf : Nat} (C : CalA c.prog c.w c.K c.mg c.base kf "_law_draws" R_draws) (hk : kf ≤ c.k) {xd : Str} {pd : Pos} (i : Nat) {ns : List Int} (hi : c.N[i]? = some xd) (hd : s.r[i]? = some (some (.lst (ns.map D.int)))) (hn : ns.length ≤ 63) (ho : s.o = [])
    (h : AE c e s fun d s1 => isI d fun m => 0 ≤ m ∧ m ≤ 1000 ∧ s1 = s ∧ ∀ (rs : List Int), Pp (.ob 0) ⟨s1.r, [.lst (rs.map D.int)]⟩) (hv : Vis c.sc xd := by first | exact Or.inl rfl | exact Or.inr (Or.inl rfl) | exact Or.inr (Or.inr rfl))
    (hg : IsG c "_law_draws" := by rfl) (h1 : (xd == ("__debug__" : Str)) = false := by decide) (h2 : (xd == ("__classdict__" : Str)) = false := by decide) (he : ∀ env, starEach [.Name xd pd, e] env = (false, eval (.Name xd pd) env) :: starEach [e] env := by intro _; rfl)
    (he2 : ∀ env, starEach [e] env = (false, eval e env) :: starEach [] env := by intro _; rfl) (hpl : ∀ env, (backTo pos (starEach [e] env)).any (·.1) = false := by intro _; rfl) : AE c (.Call (.Name "_law_draws" p) [.Name xd pd, e] [] pos) s Pp := by
  refine ae_call0 C hk (aa_two (ae_name hi hd (h.mono fun d s1 q => ?_) hv h1 h2) he he2) hg (by decide) he hpl
  obtain ⟨m, rfl, m0, m1, rfl, q⟩ := q
  refine ⟨⟨by unfold D.bnd; exact bnd_ints, trivial, trivial⟩, ns, m.toNat, ?_, rfl, hn, by omega, fun rs => ?_⟩
  · have : ((m.toNat : Nat) : Int) = m := by omega
    rw [this]
  · have := q rs
    rw [ho]
    simpa [D.ren, idF, oren_ints] using this

def R_law : Spec := fun ds O P => ∃ (ns : List Int), ds = [.lst (ns.map D.int)] ∧ O = [] ∧ ns.length ≤ 63 ∧ ∀ O', P (.bl true) O'
theorem law_sp {w : World} {K : PySem.W.Frag} {H : Hp} {a : Addr} {ns : List Int} {E : XK} (hl : ns.length ≤ 63) (hS : SqL K H a (ns.map V.int)) : spA w K R_law [.ref a] H (fun v _ => v = .bl true) E :=
  ⟨[.lst (ns.map D.int)], H, [], [], fun d _ => d = .bl true, ⟨fun _ _ h => h, rfl, by simp, fun a h => by simp at h, fun j a ob h => by simp at h, fun j a ob h => by simp at h⟩, .cons (.lst hS (rp_ints ns)) .nil, ⟨ns, rfl, rfl, hl, fun _ => rfl⟩, fun d O' F' os' H' v hd _ _ r => by
    subst hd
    cases r
    rfl⟩

theorem rng_at {n i : Nat} {d : D} (h : (rngD 0 (Int.toNat (n : Nat)))[i]? = some d) : i < n ∧ d = .int (i : Nat) := by
  have hi : i < n := by
    have := (List.getElem?_eq_some_iff.mp h).1
    simpa [rngD] using this
  have e : (rngD 0 (Int.toNat (n : Nat)))[i]? = some (.int (i : Nat)) := by simp [rngD, hi]
  rw [e] at h
  exact ⟨hi, (Option.some.inj h).symm⟩

theorem app_at {α : Type} {l m : List α} {j : Nat} {x : α} (h : l[j]? = some x) : (l ++ m)[j]? = some x := by
  rw [List.getElem?_append_left (List.getElem?_eq_some_iff.mp h).1]
  exact h
theorem fm_take {α β : Type} (f : α → List β) : ∀ (l : List α) (i : Nat) (x : α), l[i]? = some x → (l.take (i + 1)).flatMap f = (l.take i).flatMap f ++ f x := fun l i x h => by
  rw [List.take_add_one, h]
  simp

theorem cut_to {α : Type} (l : List α) (n : Nat) : cutD l none (some (n : Int)) = l.take n := by
  unfold cutD
  have h : HT.sIx l.length l.length (some (n : Int)) = min n l.length := HT.sIx_nat _ _ n
  have h0 : HT.sIx l.length 0 none = 0 := rfl
  rw [h, h0, List.drop_zero, Nat.sub_zero]
  by_cases q : n ≤ l.length
  · rw [Nat.min_eq_left q]
  · rw [Nat.min_eq_right (by omega), List.take_length, List.take_of_length_le (by omega)]
theorem cut_from {α : Type} (l : List α) (n : Nat) : cutD l (some (n : Int)) none = l.drop n := by
  unfold cutD
  have h : HT.sIx l.length 0 (some (n : Int)) = min n l.length := HT.sIx_nat _ _ n
  have h0 : HT.sIx l.length l.length none = l.length := rfl
  rw [h, h0]
  by_cases q : n ≤ l.length
  · rw [Nat.min_eq_left q, List.take_of_length_le (by rw [List.length_drop]; omega)]
  · rw [Nat.min_eq_right (by omega), Nat.sub_self, List.take_zero, List.drop_eq_nil_of_le (by omega)]

theorem set_same {l : List Ob} {j : Nat} {x : Ob} (h : l[j]? = some x) : l.set j x = l := by
  have hj := (List.getElem?_eq_some_iff.mp h).1
  refine List.ext_getElem? fun i => ?_
  by_cases e : j = i
  · subst e
    rw [List.getElem?_set_self hj, h]
  · rw [List.getElem?_set_ne e]
theorem gE {L X : List Ob} {d : Ob} : (L ++ d :: X)[L.length]? = some d := by
  rw [List.getElem?_append_right (Nat.le_refl _), Nat.sub_self]
  rfl
theorem sE {L X : List Ob} {d d' : Ob} : (L ++ d :: X).set L.length d' = L ++ d' :: X := by
  rw [List.set_append_right _ _ (Nat.le_refl _), Nat.sub_self]
  rfl

/-! ### conditions as texts -/
def kIn : List Nat := [105, 110]
def kFits : List Nat := [102, 105, 116, 115]
def kSame : List Nat := [115, 97, 109, 101]
def kBefore : List Nat := [98, 101, 102, 111, 114, 101]
def kNot : List Nat := [110, 111, 116]
def kBoth : List Nat := [98, 111, 116, 104]
def kEither : List Nat := [101, 105, 116, 104, 101, 114]
def kSome : List Nat := [115, 111, 109, 101]
def kEach : List Nat := [101, 97, 99, 104]
def kName : List Nat := [110, 97, 109, 101]
def kThing : List Nat := [116, 104, 105, 110, 103]
def kLength : List Nat := [108, 101, 110, 103, 116, 104]
def tIn : List Nat := [32, 105, 110, 32]
def tFits : List Nat := [32, 102, 105, 116, 115, 32]
def tSame : List Nat := [32, 61, 32]
def tBefore : List Nat := [32, 60, 32]
inductive Cnd where
  | at (f a b : List Nat) | no (c : Cnd) | two (f : List Nat) (c d : Cnd) | qu (f w t : List Nat) (c : Cnd)
def Cnd.d : Cnd → D
  | .at f a b => .tup [.str f, .str a, .str b]
  | .no c => .tup [.str kNot, c.d]
  | .two f c d => .tup [.str f, c.d, d.d]
  | .qu f w t c => .tup [.str f, .str w, .str t, c.d]
theorem Cnd.bnd : ∀ (c : Cnd) (i : Nat), D.bnd i c.d
  | .at _ _ _, i => by unfold Cnd.d D.bnd; exact ⟨trivial, trivial, trivial, trivial⟩
  | .no c, i => by unfold Cnd.d D.bnd; exact ⟨trivial, c.bnd i, trivial⟩
  | .two _ c d, i => by unfold Cnd.d D.bnd; exact ⟨trivial, c.bnd i, d.bnd i, trivial⟩
  | .qu _ _ _ c, i => by unfold Cnd.d D.bnd; exact ⟨trivial, trivial, trivial, c.bnd i, trivial⟩
def Wd (x : List Nat) : Prop := x.length ≤ 100
def AtF (f : List Nat) : Prop := f = kIn ∨ f = kFits ∨ f = kSame ∨ f = kBefore
def Cnd.Ok : Cnd → Nat → Prop
  | .at f a b, _ => AtF f ∧ Wd a ∧ Wd b
  | .no c, n => ∃ m, n = m + 1 ∧ c.Ok m
  | .two f c d, n => (f = kBoth ∨ f = kEither) ∧ ∃ m, n = m + 1 ∧ c.Ok m ∧ d.Ok m
  | .qu f w t c, n => (f = kSome ∨ f = kEach) ∧ Wd w ∧ Wd t ∧ ∃ m, n = m + 1 ∧ c.Ok m
def sgnF (f : List Nat) : List Nat := if f = kIn then tIn else if f = kFits then tFits else if f = kSame then tSame else tBefore
def Cnd.tx : Cnd → List Nat
  | .at f a b => a ++ sgnF f ++ b
  | .no c => [33] ++ c.tx
  | .two f c d => [91] ++ c.tx ++ (if f = kBoth then [32, 38, 32] else [32, 47, 32]) ++ d.tx ++ [93]
  | .qu f w t c => (if f = kSome then [63] else [42]) ++ w ++ [32] ++ t ++ [32] ++ c.tx
def tbn : Nat → Nat
  | 0 => 300
  | n + 1 => 2 * tbn n + 300
theorem tbn_ge : ∀ n, 300 ≤ tbn n
  | 0 => Nat.le_refl _
  | n + 1 => by unfold tbn; omega
theorem tbn_le {n : Nat} (h : n ≤ 12) : tbn n ≤ 2457300 := by
  have : ∀ m, tbn m ≤ tbn (m + 1) := fun m => by show _ ≤ 2 * tbn m + 300; omega
  have mono : ∀ k m, tbn m ≤ tbn (m + k) := fun k => by
    induction k with
    | zero => intro m; exact Nat.le_refl _
    | succ k ih => intro m; exact Nat.le_trans (ih m) (this (m + k))
  have := mono (12 - n) n
  rw [show n + (12 - n) = 12 from by omega] at this
  exact Nat.le_trans this (by decide)
theorem sgnF_len (f : List Nat) : (sgnF f).length ≤ 6 := by
  unfold sgnF
  split
  · decide
  split
  · decide
  split
  · decide
  · decide
theorem Cnd.len : ∀ (c : Cnd) (n : Nat), c.Ok n → c.tx.length ≤ tbn n
  | .at f a b, n, ⟨_, ha, hb⟩ => by
    have h1 := sgnF_len f
    have h2 := tbn_ge n
    unfold Wd at ha hb
    unfold Cnd.tx
    rw [List.length_append, List.length_append]
    omega
  | .no c, n, ⟨m, e, h⟩ => by
    subst e
    have := c.len m h
    unfold Cnd.tx tbn
    rw [List.length_append, List.length_singleton]
    omega
  | .two f c d, n, ⟨_, m, e, h1, h2⟩ => by
    subst e
    have a1 := c.len m h1
    have a2 := d.len m h2
    have a3 : (if f = kBoth then [32, 38, 32] else [32, 47, 32] : List Nat).length = 3 := by split <;> rfl
    unfold Cnd.tx tbn
    rw [List.length_append, List.length_append, List.length_append, List.length_append, List.length_singleton, List.length_singleton, a3]
    omega
  | .qu f w t c, n, ⟨_, h1, h2, m, e, h⟩ => by
    subst e
    have a1 := c.len m h
    have a3 : (if f = kSome then [63] else [42] : List Nat).length = 1 := by split <;> rfl
    unfold Wd at h1 h2
    unfold Cnd.tx tbn
    rw [List.length_append, List.length_append, List.length_append, List.length_append, List.length_append, List.length_singleton, a3]
    omega

end
end G9

namespace G9
open PySem PySem.Spec PyProof.Rows L2
local macro_rules | `(tactic| walk_at "sn") => `(tactic| (first | (refine ass_at2 (by simp only [List.set_cons_zero, List.set_cons_succ, List.cons_append, List.nil_append, List.length_cons, List.length_nil, Nat.zero_add, Nat.reduceAdd, List.map_nil, List.append_nil, start, List.map_cons, List.replicate, Nat.reduceSub, Nat.sub_zero]; exact NF.rfl') ?_) | (show ASs _ _ _ _)))
local macro_rules | `(tactic| walk_at "sz") => `(tactic| (first | omega | (simp only [List.length_append, List.length_cons, List.length_nil, List.length_map, List.length_range]; omega) | exact le_sl (by simp; done) | (simp; omega)))
local macro_rules | `(tactic| walk_at "flat") => `(tactic| (first | rfl | exact all_flat_strs _ | exact all_flat_ints _ | exact all_flat_nD _))
local macro_rules | `(tactic| walk_at "nm") => `(tactic| (first | refine nm 0 ?_ | refine nm 1 ?_ | refine nm 2 ?_ | refine nm 3 ?_ | refine nm 4 ?_ | refine nm 5 ?_ | refine nm 6 ?_ | refine nm 7 ?_ | refine nm 8 ?_ | refine nm 9 ?_ | refine nm 10 ?_ | refine nm 11 ?_ | refine nm 12 ?_ | refine nm 13 ?_ | refine nm 14 ?_ | refine nm 15 ?_ | refine nm 16 ?_ | refine nm 17 ?_ | refine nm 18 ?_ | refine nm 19 ?_ | refine nm 20 ?_ | refine nm 21 ?_ | refine nm 22 ?_ | refine nm 23 ?_))
local macro_rules | `(tactic| walk_at "e") => `(tactic| (first | walk_at "nm" | refine ae_int ?_ | refine ae_plus ?_ | refine ae_cmp ?_ | refine ae_dcall 0 0 (by assumption) (Nat.le_refl _) rfl rfl ?_ | refine ae_dcall 1 0 (by assumption) (Nat.le_refl _) rfl rfl ?_ | refine ae_callP (by assumption) (Nat.le_refl _) ?_ | refine ae_slU ?_ | refine ae_subU ?_ | refine ae_str eNil ?_ | refine ae_str (by assumption) ?_ | refine ae_len (by assumption) ?_ | refine ae_sub ?_ | refine ae_mul ?_ | refine ae_tup ?_ | refine ae_tupleOf (by assumption) ?_ | refine ae_max2 (by assumption) ?_ | refine ae_min2 (by assumption) ?_ | refine ae_bl ?_ | refine ae_non ?_ | refine ae_not ?_ | refine ae_and ?_ | refine ae_or ?_ | refine ae_one ?_ | refine ae_mod ?_ | refine ae_fdiv ?_ | refine ae_neg ?_ | refine ae_if ?_ | refine ae_toInt (by assumption) ?_ | refine ae_all (by assumption) ?_ | refine ae_any (by assumption) ?_))
local macro_rules | `(tactic| walk_at "r") => `(tactic| (first | refine is_i ?_ | refine is_b ?_ | refine is_s ?_ | refine is_t ?_ | refine add_i ?_ | refine add_s (by walk_at "sz") ?_ | refine add_t (by walk_at "sz") ?_ | refine lt_i ?_ | refine lt_s ?_ | refine sub_i (ix_t rfl) ?_ | refine sub_i (ix_l rfl) ?_ | refine sub_i (ix_o rfl rfl) ?_ | refine sub_i (ix_t (by assumption)) ?_ | refine sub_i (ix_l (by assumption)) ?_ | refine sub_i (ix_o (by assumption) (by assumption)) ?_ | refine sub_s (by walk_at "sz") (by assumption) ?_ | refine eq_k rfl ?_ | refine in_q (.inr rfl) rfl (by walk_at "flat") ?_ | refine in_q (.inl (.inl rfl)) rfl (by walk_at "flat") ?_ | refine in_q (.inl (.inr ⟨_, rfl, rfl⟩)) rfl (by walk_at "flat") ?_ | refine slc_s (by walk_at "sz") ?_ | refine slc_t ?_ | refine slc_l (.inl rfl) ?_ | refine slc_l (.inr ⟨_, rfl, rfl⟩) ?_ | refine in_s ?_ | refine ⟨_, len_s (by walk_at "sz"), ?_⟩ | refine ⟨_, len_t, ?_⟩ | refine ⟨_, len_l, ?_⟩ | refine ⟨_, len_o rfl, ?_⟩ | refine ⟨_, len_o (by assumption), ?_⟩ | refine ⟨_, rfl, ?_⟩ | refine ⟨_, .inl rfl, ?_⟩ | refine ⟨_, .inr ⟨_, rfl, rfl⟩, ?_⟩ | refine ⟨le_sl (by simp), ?_⟩ | refine ⟨.inl ⟨by omega, by omega⟩, ?_⟩))
local macro_rules | `(tactic| walk_at "as") => `(tactic| (first | refine as_ret ?_ | refine as_set (i := 0) rfl ?_ | refine as_set (i := 1) rfl ?_ | refine as_set (i := 2) rfl ?_ | refine as_set (i := 3) rfl ?_ | refine as_set (i := 4) rfl ?_ | refine as_set (i := 5) rfl ?_ | refine as_set (i := 6) rfl ?_ | refine as_set (i := 7) rfl ?_ | refine as_set (i := 8) rfl ?_ | refine as_set (i := 9) rfl ?_ | refine as_set (i := 10) rfl ?_ | refine as_set (i := 11) rfl ?_ | refine as_set (i := 12) rfl ?_ | refine as_set (i := 13) rfl ?_ | refine as_set (i := 14) rfl ?_ | refine as_set (i := 15) rfl ?_ | refine as_set (i := 16) rfl ?_ | refine as_set (i := 17) rfl ?_ | refine as_set (i := 18) rfl ?_ | refine as_set (i := 19) rfl ?_ | refine as_set (i := 20) rfl ?_ | refine as_set (i := 21) rfl ?_ | refine as_set (i := 22) rfl ?_ | refine as_set (i := 23) rfl ?_ | refine as_if ?_ | refine as_expr ?_ | refine as_retN ?_ | refine as_asg ?_ | refine as_addI (i := 0) rfl rfl ?_ | refine as_addI (i := 1) rfl rfl ?_ | refine as_addI (i := 2) rfl rfl ?_ | refine as_addI (i := 3) rfl rfl ?_ | refine as_addI (i := 4) rfl rfl ?_ | refine as_addI (i := 5) rfl rfl ?_ | refine as_addI (i := 6) rfl rfl ?_ | refine as_addI (i := 7) rfl rfl ?_ | refine as_addI (i := 8) rfl rfl ?_ | refine as_addI (i := 9) rfl rfl ?_ | refine as_addI (i := 10) rfl rfl ?_ | refine as_addI (i := 11) rfl rfl ?_ | refine as_addI (i := 12) rfl rfl ?_ | refine as_addI (i := 13) rfl rfl ?_ | refine as_addI (i := 14) rfl rfl ?_ | refine as_addI (i := 15) rfl rfl ?_ | refine as_addI (i := 16) rfl rfl ?_ | refine as_addI (i := 17) rfl rfl ?_ | refine as_addI (i := 18) rfl rfl ?_ | refine as_addI (i := 19) rfl rfl ?_ | refine as_addI (i := 20) rfl rfl ?_ | refine as_addI (i := 21) rfl rfl ?_ | refine as_addI (i := 22) rfl rfl ?_ | refine as_addI (i := 23) rfl rfl ?_ | refine as_pass ?_ | refine as_break ?_ | refine as_cont ?_))
local macro_rules | `(tactic| walk_at "ass") => `(tactic| (first | refine ass_nil ?_ | (walk_at "sn"; first | refine ass_one ?_ | refine ass_cons ?_)))
local macro_rules | `(tactic| walk_at "1") => `(tactic| (first | ((with_reducible show AE _ _ _ _); walk_at "e") | ((with_reducible show AC _ _ _ _ _ _); first | refine ac_eqU ?_ | refine ac_ltU ?_ | refine ac_inU ?_ | refine ac_notInU ?_ | refine ac_isN ?_ | refine ac_notN ?_ | refine ac_neU ?_ | refine ac_le ?_ | refine ac_ge ?_ | refine ac_gt ?_) | ((with_reducible show AT _ _ _ _); first | refine at_cmp ?_ | refine at_not ?_ | (refine at_w ?_; first | refine aw_and ?_ | refine aw_or ?_) | refine at_val ?_) | ((with_reducible show AW _ _ _ _); first | refine aw_and ?_ | refine aw_or ?_ | refine aw_and1 ?_ | refine aw_or1 ?_) | ((with_reducible show AA _ _ _ _); first | refine aa_nil ?_ | refine aa_cons ?_) | ((with_reducible show AO _ _ _ _); first | refine ao_none ?_ | refine ao_some ?_) | ((with_reducible show AS _ _ _ _); walk_at "as") | ((with_reducible show ASs _ _ _ _); walk_at "ass") | ((with_reducible show seqP _ _ _ _); walk_at "ass") | ((with_reducible show AG _ _ _ _ _); first | refine ag_name (i := 0) rfl ?_ | refine ag_name (i := 1) rfl ?_ | refine ag_name (i := 2) rfl ?_ | refine ag_name (i := 3) rfl ?_ | refine ag_name (i := 4) rfl ?_ | refine ag_name (i := 5) rfl ?_ | refine ag_name (i := 6) rfl ?_ | refine ag_name (i := 7) rfl ?_ | refine ag_name (i := 8) rfl ?_ | refine ag_name (i := 9) rfl ?_ | refine ag_name (i := 10) rfl ?_ | refine ag_name (i := 11) rfl ?_ | refine ag_name (i := 12) rfl ?_ | refine ag_name (i := 13) rfl ?_ | refine ag_name (i := 14) rfl ?_ | refine ag_name (i := 15) rfl ?_ | refine ag_name (i := 16) rfl ?_ | refine ag_name (i := 17) rfl ?_ | refine ag_name (i := 18) rfl ?_ | refine ag_name (i := 19) rfl ?_ | refine ag_name (i := 20) rfl ?_ | refine ag_name (i := 21) rfl ?_ | refine ag_name (i := 22) rfl ?_ | refine ag_name (i := 23) rfl ?_ | refine ag_tup ?_) | ((with_reducible show AGs _ _ _ _ _); first | refine ags_name (i := 0) rfl ?_ | refine ags_name (i := 1) rfl ?_ | refine ags_name (i := 2) rfl ?_ | refine ags_name (i := 3) rfl ?_ | refine ags_name (i := 4) rfl ?_ | refine ags_name (i := 5) rfl ?_ | refine ags_name (i := 6) rfl ?_ | refine ags_name (i := 7) rfl ?_ | refine ags_name (i := 8) rfl ?_ | refine ags_name (i := 9) rfl ?_ | refine ags_name (i := 10) rfl ?_ | refine ags_name (i := 11) rfl ?_ | refine ags_name (i := 12) rfl ?_ | refine ags_name (i := 13) rfl ?_ | refine ags_name (i := 14) rfl ?_ | refine ags_name (i := 15) rfl ?_ | refine ags_name (i := 16) rfl ?_ | refine ags_name (i := 17) rfl ?_ | refine ags_name (i := 18) rfl ?_ | refine ags_name (i := 19) rfl ?_ | refine ags_name (i := 20) rfl ?_ | refine ags_name (i := 21) rfl ?_ | refine ags_name (i := 22) rfl ?_ | refine ags_name (i := 23) rfl ?_ | refine ags_nil ?_) | walk_at "r"))
local macro_rules | `(tactic| walk_at "y") => `(tactic| (first | ((with_reducible show AE _ _ _ _); walk_at "e") | ((with_reducible show AC _ _ _ _ _ _); first | refine ac_eqU ?_ | refine ac_ltU ?_ | refine ac_inU ?_ | refine ac_notInU ?_ | refine ac_isN ?_ | refine ac_notN ?_ | refine ac_neU ?_ | refine ac_le ?_ | refine ac_ge ?_ | refine ac_gt ?_) | ((with_reducible show AT _ _ _ _); first | refine at_cmp ?_ | refine at_not ?_ | (refine at_w ?_; first | refine aw_and ?_ | refine aw_or ?_) | refine at_val ?_) | ((with_reducible show AW _ _ _ _); first | refine aw_and ?_ | refine aw_or ?_ | refine aw_and1 ?_ | refine aw_or1 ?_) | ((with_reducible show AA _ _ _ _); first | refine aa_nil ?_ | refine aa_cons ?_) | ((with_reducible show AO _ _ _ _); first | refine ao_none ?_ | refine ao_some ?_) | ((with_reducible show AG _ _ _ _ _); first | refine ag_name (i := 0) rfl ?_ | refine ag_name (i := 1) rfl ?_ | refine ag_name (i := 2) rfl ?_ | refine ag_name (i := 3) rfl ?_ | refine ag_name (i := 4) rfl ?_ | refine ag_name (i := 5) rfl ?_ | refine ag_name (i := 6) rfl ?_ | refine ag_name (i := 7) rfl ?_ | refine ag_name (i := 8) rfl ?_ | refine ag_name (i := 9) rfl ?_ | refine ag_name (i := 10) rfl ?_ | refine ag_name (i := 11) rfl ?_ | refine ag_name (i := 12) rfl ?_ | refine ag_name (i := 13) rfl ?_ | refine ag_name (i := 14) rfl ?_ | refine ag_name (i := 15) rfl ?_ | refine ag_name (i := 16) rfl ?_ | refine ag_name (i := 17) rfl ?_ | refine ag_name (i := 18) rfl ?_ | refine ag_name (i := 19) rfl ?_ | refine ag_name (i := 20) rfl ?_ | refine ag_name (i := 21) rfl ?_ | refine ag_name (i := 22) rfl ?_ | refine ag_name (i := 23) rfl ?_ | refine ag_tup ?_) | ((with_reducible show AGs _ _ _ _ _); first | refine ags_name (i := 0) rfl ?_ | refine ags_name (i := 1) rfl ?_ | refine ags_name (i := 2) rfl ?_ | refine ags_name (i := 3) rfl ?_ | refine ags_name (i := 4) rfl ?_ | refine ags_name (i := 5) rfl ?_ | refine ags_name (i := 6) rfl ?_ | refine ags_name (i := 7) rfl ?_ | refine ags_name (i := 8) rfl ?_ | refine ags_name (i := 9) rfl ?_ | refine ags_name (i := 10) rfl ?_ | refine ags_name (i := 11) rfl ?_ | refine ags_name (i := 12) rfl ?_ | refine ags_name (i := 13) rfl ?_ | refine ags_name (i := 14) rfl ?_ | refine ags_name (i := 15) rfl ?_ | refine ags_name (i := 16) rfl ?_ | refine ags_name (i := 17) rfl ?_ | refine ags_name (i := 18) rfl ?_ | refine ags_name (i := 19) rfl ?_ | refine ags_name (i := 20) rfl ?_ | refine ags_name (i := 21) rfl ?_ | refine ags_name (i := 22) rfl ?_ | refine ags_name (i := 23) rfl ?_ | refine ags_nil ?_) | ((fail_if_success (show ASs _ _ _ _)); walk_at "r")))
local macro_rules | `(tactic| walk_at "x") => `(tactic| (repeat walk_at "y"))
local macro_rules | `(tactic| walk_at "w") => `(tactic| (repeat walk_at "1"))
abbrev sPickD : Stmt := topS 13
abbrev sLva : Stmt := topS 14
abbrev sLat : Stmt := topS 15
section
variable {P : Program} {w : World} {K : PySem.W.Frag} {mg : Str → Option Value} {base : Heap}
/-! ### _law_pick, _law_variables, _law_atoms -/
def R_pickD : Spec := fun ds O P => ∃ (ns : List Int) (rs : List D), ds = [.ob 0, .lst rs] ∧ O = [.lst (ns.map D.int)] ∧ 0 < rs.length ∧ rs.length ≤ 60000 ∧ ∀ (x : D) (ns' : List Int), x ∈ rs → P x [.lst (ns'.map D.int)]
abbrev nPickD : List Str := ["draws", "row"]
theorem scPickD : FnScope nPickD ["draws", "row"] (defScope sPickD) := ⟨rfl, rfl, rfl, by decide +kernel, rfl, by decide +kernel, by decide +kernel⟩
theorem ok_pickD {f : Addr} {fd : FuncData} {k : Nat} (F : Fun K "_law_pick" "_law_pick" sPickD f fd) (ml : mg "len" = none) (C : CalA P w K mg base k "_law_take" R_take) : FnOk P w K mg base CX0 (k + 1) f fd ["draws", "row"] (spA w K R_pickD) := by
  refine fnA F scPickD (by rintro ds O Q ⟨ns, rs, rfl, _⟩; rfl) fun F0 H0 os0 ds O Q h => ?_
  obtain ⟨ns, rs, rfl, rfl, h0, hz, hq⟩ := h
  refine ass_one (as_ret (ae_ix (nm 1 ?_)))
  refine take_call 0 0 (ns := ns) C (Nat.le_refl _) rfl rfl ?_
  refine ae_len ml ?_
  refine nm 1 ?_
  refine ⟨_, len_l, is_i ⟨by omega, rfl, fun r ns2 r0 r1 => ?_⟩⟩
  obtain ⟨d, hd, hd2⟩ := atI_in (xs := rs) r0 r1
  exact is_i ⟨_, ix_l hd2, _, _, .refl, hq d ns2 (List.mem_of_getElem? hd)⟩
theorem mono_R_pickD : ∀ ds O Q Q', (∀ d O', Q d O' → Q' d O') → R_pickD ds O Q → R_pickD ds O Q' := fun ds O Q Q' q h => match h with
  | ⟨ns, ls, h1, h2, h3, h4, h5⟩ => ⟨ns, ls, h1, h2, h3, h4, fun x ns2 a => q _ _ (h5 x ns2 a)⟩
theorem join_len (L : List (List Nat)) : (joinN [] L).length = (L.map (·.length)).sum := by
  rw [joinN_nil, List.length_flatten]
def R_lva : Spec := fun ds O P => ∃ (ns : List Int) (m : Nat), ds = [.ob 0, .int m] ∧ O = [.lst (ns.map D.int)] ∧ m ≤ 4 ∧ ∀ (ws : List (List Nat)) (ns' : List Int), ws.length = m → (∀ x ∈ ws, Wd x) → (ws.map (·.length)).sum ≤ 90 → P (.ob 1) [.lst (ns'.map D.int), .lst (ws.map D.str)]
theorem mono_R_lva : ∀ ds O Q Q', (∀ d O', Q d O' → Q' d O') → R_lva ds O Q → R_lva ds O Q' := fun ds O Q Q' q h => match h with
  | ⟨ns, m, h1, h2, h3, h4⟩ => ⟨ns, m, h1, h2, h3, fun x ns2 a b e => q _ _ (h4 x ns2 a b e)⟩
abbrev nLva : List Str := ["draws", "many", "found", "k", "letters", "j", "menu", "word"]
theorem scLva : FnScope nLva ["draws", "many"] (defScope sLva) := ⟨rfl, rfl, rfl, by decide +kernel, rfl, by decide +kernel, by decide +kernel⟩
theorem strs_flat (ls : List (List Nat)) : (ls.map D.str).all flatD = true := by
  rw [List.all_map]
  exact List.all_eq_true.mpr fun _ _ => rfl
theorem sum_mem {L : List (List Nat)} {x : List Nat} (h : x ∈ L) : x.length ≤ (L.map (·.length)).sum := by
  induction L with
  | nil => cases h
  | cons a l ih =>
    rw [List.map_cons, List.sum_cons]
    rcases List.mem_cons.mp h with rfl | h
    · omega
    · have := ih h
      omega
theorem ok_lva {f : Addr} {fd : FuncData} {k : Nat} (F : Fun K "_law_variables" "_law_variables" sLva f fd) (mr : mg "range" = none) (C : CalA P w K mg base k "_law_take" R_take) (CP : CalA P w K mg base k "_law_pick" R_pickD) : FnOk P w K mg base CX0 (k + 1) f fd ["draws", "many"] (spA w K R_lva) := by
  refine fnA F scLva (by rintro ds O Q ⟨ns, m, rfl, _⟩; rfl) fun F0 H0 os0 ds O Q h => ?_
  obtain ⟨ns, m, rfl, rfl, zm, hq⟩ := h
  have sl : sizeLine = 16777216 := rfl
  refine ass_cons (as_set (i := 2) rfl (ae_lstO (aa_nil ⟨Nat.zero_le _, ?_⟩)))
  walk_at "sn"
  refine ass_cons (as_for (ai_range1 mr ?_))
  walk_at "nm"
  refine is_i ⟨by omega, by omega, ?_⟩
  rw [Int.toNat_natCast]
  refine ⟨fun i s => ∃ (ns : List Int) (ws : List (List Nat)) (a b c d e : Option D) (G : List Ob), ws.length = i ∧ (ws.map (·.length)).sum + 6 ≤ 6 * 2 ^ i ∧ s = ⟨[some (.ob 0), some (.int (m : Nat)), some (.ob 1), a, b, c, d, e], .lst (ns.map D.int) :: .lst (ws.map D.str) :: G⟩, ⟨ns, [], none, none, none, none, none, [], rfl, by simp, rfl⟩, fun _ _ _ => trivial, ?_, ?_⟩
  · rintro i dd s hd ⟨ns1, ws, a, b, c, d, e, G, hl, zw, rfl⟩
    obtain ⟨hi, rfl⟩ := rng_at hd
    have z2 : 2 ^ i ≤ 8 := by
      have : i ≤ 3 := by omega
      calc 2 ^ i ≤ 2 ^ 3 := Nat.pow_le_pow_right (by decide) this
        _ = 8 := rfl
    refine ag_name (i := 3) rfl ?_
    walk_at "sn"
    have eL : ∀ x : Ob, (x :: .lst (ws.map D.str) :: G).length = G.length + 2 := fun x => rfl
    have gA : ∀ (x y : Ob), ((x :: .lst (ws.map D.str) :: G) ++ y :: [])[G.length + 2]? = some y := fun x y => by rw [← eL x]; exact gE
    have sA : ∀ (x y z : Ob), ((x :: .lst (ws.map D.str) :: G) ++ y :: []).set (G.length + 2) z = (x :: .lst (ws.map D.str) :: G) ++ z :: [] := fun x y z => by rw [← eL x]; exact sE
    have sB : ∀ (x y z : Ob), (x :: .lst (ws.map D.str) :: (G ++ y :: [])).set (G.length + 2) z = x :: .lst (ws.map D.str) :: (G ++ z :: []) := fun x y z => by
      show x :: _ :: (G ++ y :: []).set G.length z = _
      rw [sE]
    refine ass_cons (as_lc (iy := 4) nLva (defScope sLva) true 5 [("j", 5)] rfl rfl rfl rfl (by decide +kernel) (by decide +kernel) (by simp) rfl rfl (by simp) (ai_range1 mr (ae_add (ae_int ?_))))
    refine take_call 0 0 (ns := ns1) C (Nat.le_refl _) rfl rfl (ae_int (is_i ⟨by decide, rfl, fun r ns2 r0 r1 => ?_⟩))
    refine is_i (is_i (is_i ⟨by omega, by omega, ?_⟩))
    refine ⟨fun j acc s => ∃ (ns : List Int) (L : List (List Nat)), acc = L.map D.str ∧ (L.map (·.length)).sum = j ∧ L.length = j ∧ s = ⟨[some (.ob 0), some (.int (m : Nat)), some (.ob 1), some (.int (i : Nat)), b, none, d, e], (.lst (ns.map D.int) :: .lst (ws.map D.str) :: G) ++ .lst acc :: []⟩, ⟨ns2, [], rfl, rfl, rfl, rfl⟩, ?_, ?_, ?_, ?_⟩
    · rintro j acc s ⟨ns3, L, rfl, hs, hj, rfl⟩
      refine ⟨trivial, gA _ _, by rw [List.length_map]; omega, ?_⟩
      intro v hv d q
      simp at hv
      subst hv
      cases q
    · rintro j acc dd s hd2 ⟨ns3, L, rfl, hs, hj, rfl⟩
      obtain ⟨hj2, rfl⟩ := rng_at hd2
      show AE _ _ _ _
      refine ae_ixS (ae_str eLET ?_)
      refine take_call 0 0 (ns := ns3) C (Nat.le_refl _) rfl rfl (ae_int (is_i ⟨by decide, rfl, fun r2 ns4 r20 r21 => ?_⟩))
      obtain ⟨y, hy, hy2⟩ := atI_in (xs := LET) r20 (by simpa [LET] using r21)
      refine is_s (is_i ⟨y, by decide, hy2, ?_⟩)
      refine ⟨gA _ _, _, .refl, ns4, L ++ [[y]], by rw [List.map_append]; rfl, by simp [hs], by simp [hj], ?_⟩
      show (⟨_, ((.lst (ns4.map D.int) :: .lst (ws.map D.str) :: G) ++ Ob.lst (L.map D.str) :: []).set (G.length + 2) _⟩ : Sta) = _
      rw [sA] <;> rfl
    · rintro acc s ⟨ns3, L, rfl, hs, hj, rfl⟩
      have e1 : (rngD 0 (Int.toNat (1 + r))).length = (1 + r).toNat := by simp [rngD]
      rw [e1] at hs hj
      have zL : (L.map (·.length)).sum ≤ 2 := by omega
      have zJ : (joinN [] L).length ≤ 2 := by rw [join_len]; exact zL
      unfold NewC
      rw [if_pos rfl]
      refine (show seqP _ _ _ (.nx ⟨[some (.ob 0), some (.int (m : Nat)), some (.ob 1), some (.int (i : Nat)), some (.ob (G.length + 2)), none, d, e], (.lst (ns3.map D.int) :: .lst (ws.map D.str) :: G) ++ .lst (L.map D.str) :: []⟩) from ?_)
      walk_at "sn"
      refine ass_frz 4 (G.length + 2) rfl (gA _ _) ?_
      first | rw [sA] | rw [sB]
      walk_at "sn"
      refine ass_cons (as_set (i := 6) rfl (ae_lstF (aa_cons (ae_join (ae_str eNil (is_s ?_))))))
      walk_at "nm"
      refine ⟨L, .inl (.inl rfl), by show _ + _ * 0 ≤ _; omega, ?_⟩
      refine aa_cons (ae_join (ae_str eNil (is_s ?_)))
      walk_at "nm"
      refine ⟨L, .inl (.inl rfl), by show _ + _ * 0 ≤ _; omega, ?_⟩
      refine aa_cons (ae_str (l := kIn) (by decide +kernel) (aa_cons (ae_plus (ae_join (ae_str eNil (is_s ?_))))))
      walk_at "nm"
      refine ⟨ws, .inl (.inr ⟨1, rfl, rfl⟩), by show _ + _ * 0 ≤ _; omega, ?_⟩
      refine ae_str (l := [97]) (by decide +kernel) (add_s (by rw [join_len, List.length_singleton]; omega) (aa_cons (ae_str (l := kName) (by decide +kernel) (aa_cons (ae_join (ae_str eNil (is_s ?_)))))))
      walk_at "nm"
      refine ⟨L, .inl (.inl rfl), by show _ + _ * 0 ≤ _; omega, ?_⟩
      refine aa_nil ⟨Nat.le_of_ble_eq_true rfl, ?_⟩
      walk_at "sn"
      refine ass_cons (as_set (i := 7) rfl (ae_dcall 0 0 CP (Nat.le_refl _) rfl rfl (aa_cons (ae_catL false ?_))))
      walk_at "nm"
      refine ae_lstF (aa_cons (ae_str (l := kThing) (by decide +kernel) (aa_cons (ae_str (l := kLength) (by decide +kernel) (aa_cons (ae_str (l := kFits) (by decide +kernel) (aa_nil ⟨Nat.le_of_ble_eq_true rfl, ?_⟩)))))))
      refine ⟨_, _, .inl rfl, .inl rfl, Nat.le_of_ble_eq_true rfl, ?_⟩
      unfold NewL
      rw [if_neg (by simp)]
      generalize hrs : [D.str (joinN [] L), D.str (joinN [] L), .str kIn, .str (joinN [] ws ++ [97]), .str kName, .str (joinN [] L)] ++ [.str kThing, .str kLength, .str kFits] = rs
      have hbs : ∀ x ∈ rs, ∃ y : List Nat, x = .str y ∧ y.length ≤ (ws.map (·.length)).sum + 6 := fun x hx => by
        rw [← hrs] at hx
        simp only [List.cons_append, List.nil_append, List.mem_cons, List.not_mem_nil, or_false] at hx
        rcases hx with rfl | rfl | rfl | rfl | rfl | rfl | rfl | rfl | rfl
        · exact ⟨_, rfl, by omega⟩
        · exact ⟨_, rfl, by omega⟩
        · exact ⟨_, rfl, by show 2 ≤ _; omega⟩
        · exact ⟨_, rfl, by rw [List.length_append, join_len, List.length_singleton]; omega⟩
        · exact ⟨_, rfl, by show 4 ≤ _; omega⟩
        · exact ⟨_, rfl, by omega⟩
        · exact ⟨_, rfl, by show 5 ≤ _; omega⟩
        · exact ⟨_, rfl, by show 6 ≤ _; omega⟩
        · exact ⟨_, rfl, by show 4 ≤ _; omega⟩
      have hrl : rs.length = 9 := by rw [← hrs]; rfl
      have hbd : D.bnd 0 (.lst rs) := by
        unfold D.bnd
        refine D.bndL_iff.mpr fun x hx => ?_
        obtain ⟨y, rfl, _⟩ := hbs x hx
        trivial
      refine aa_nil ⟨⟨hbd, trivial⟩, ns3, rfl, ns3, rs, rfl, rfl, by omega, by omega, fun x ns5 hx => ?_⟩
      obtain ⟨y, rfl, zy⟩ := hbs x hx
      refine ⟨ns5, rfl, trivial, ?_⟩
      refine (show seqP _ _ _ (.nx ⟨[some (.ob 0), some (.int (m : Nat)), some (.ob 1), some (.int (i : Nat)), some (.lst (L.map D.str)), none, some _, some (.str y)], .lst (ns5.map D.int) :: .lst (ws.map D.str) :: (G ++ [.dead])⟩) from ?_)
      generalize D.lst [D.str (joinN [] L), D.str (joinN [] L), .str kIn, .str (joinN [] ws ++ [97]), .str kName, .str (joinN [] L)] = mn
      walk_at "sn"
      refine ass_cons (as_ifJ (fun s => ∃ y : List Nat, y.length ≤ (ws.map (·.length)).sum + 6 ∧ s = ⟨[some (.ob 0), some (.int (m : Nat)), some (.ob 1), some (.int (i : Nat)), some (.lst (L.map D.str)), none, some mn, some (.str y)], .lst (ns5.map D.int) :: .lst (ws.map D.str) :: (G ++ [.dead])⟩) (at_cmp (ac_inU ?_)) ?_)
      · walk_at "nm"
        walk_at "nm"
        refine in_q (.inl (.inr ⟨1, rfl, rfl⟩)) rfl (strs_flat _) (is_b ?_)
        refine ite2 (fun hc => ?_) (fun hc => ?_)
        · refine ass_one (as_set (i := 7) rfl (ae_plus (ae_join (ae_str eNil (is_s ?_)))))
          walk_at "nm"
          refine ⟨ws, .inl (.inr ⟨1, rfl, rfl⟩), by show _ + _ * 0 ≤ _; omega, ?_⟩
          refine ae_str (l := [122]) (by decide +kernel) (add_s (by rw [join_len, List.length_singleton]; omega) ?_)
          exact ⟨_, by rw [List.length_append, join_len, List.length_singleton]; omega, rfl⟩
        · exact ass_nil ⟨y, zy, rfl⟩
      rintro s ⟨y, zy, rfl⟩
      walk_at "sn"
      refine ass_one (as_expr (ae_append ?_))
      walk_at "nm"
      refine ⟨⟨1, _, rfl, rfl⟩, ?_⟩
      walk_at "nm"
      refine ⟨1, _, rfl, rfl, by rw [List.length_map]; omega, ?_⟩
      refine ⟨_, .refl, ns5, ws ++ [y], _, _, _, _, _, G ++ [.dead], by simp [hl], ?_, by rw [List.map_append]; rfl⟩
      rw [List.map_append, List.sum_append, Nat.pow_succ]
      show _ + (y.length + 0) + 6 ≤ _
      omega
    · simp [rngD]
      omega
  · rintro s ⟨ns1, ws, a, b, c, d, e, G, hl, zw, rfl⟩
    have e1 : (rngD 0 m).length = m := by simp [rngD]
    rw [e1] at hl zw
    have z2 : 2 ^ m ≤ 16 := by
      calc 2 ^ m ≤ 2 ^ 4 := Nat.pow_le_pow_right (by decide) zm
        _ = 16 := rfl
    walk_at "sn"
    refine ass_one (as_ret ?_)
    walk_at "nm"
    refine ⟨_, _, .cut 2 (by show 1 ≤ 2; omega) (by show (1 : Nat) < 2; omega) (fun ob hob => ?_), hq ws ns1 hl (fun x hx => ?_) (by omega)⟩
    · have : ob ∈ [Ob.lst (ns1.map D.int), .lst (ws.map D.str)] := hob
      simp at this
      rcases this with rfl | rfl
      · exact bnd_ints
      · exact bndL_map fun _ => trivial
    · have := sum_mem hx
      unfold Wd
      omega
def knD (p : List Nat × List Nat) : D := .tup [.str p.1, .str p.2]
def KdO (ks : List (List Nat × List Nat)) : Prop := ∀ p ∈ ks, Wd p.1
def R_lat : Spec := fun ds O P => ∃ (ks : List (List Nat × List Nat)), ds = [.lst (ks.map knD)] ∧ O = [] ∧ KdO ks ∧ ks.length ≤ 20 ∧ ∀ (L : List Cnd), (∀ c ∈ L, c.Ok 0) → (ks ≠ [] → L ≠ []) → L.length ≤ 10000 → P (.lst (L.map Cnd.d)) []
theorem mono_R_lat : ∀ ds O Q Q', (∀ d O', Q d O' → Q' d O') → R_lat ds O Q → R_lat ds O Q' := fun ds O Q Q' q h => match h with
  | ⟨ks, h1, h2, h3, h4, h5⟩ => ⟨ks, h1, h2, h3, h4, fun L a b c => q _ _ (h5 L a b c)⟩
abbrev nLat : List Str := ["kinds", "found", "one", "other"]
theorem scLat : FnScope nLat ["kinds"] (defScope sLat) := ⟨rfl, rfl, rfl, by decide +kernel, rfl, by decide +kernel, by decide +kernel⟩
theorem ok_lat {f : Addr} {fd : FuncData} {k : Nat} (F : Fun K "_law_atoms" "_law_atoms" sLat f fd) : FnOk P w K mg base CX0 (k + 1) f fd ["kinds"] (spA w K R_lat) := by
  refine fnA F scLat (by rintro ds O Q ⟨ks, rfl, _⟩; rfl) fun F0 H0 os0 ds O Q h => ?_
  obtain ⟨ks, rfl, rfl, hk, zk, hq⟩ := h
  have sl : sizeLine = 16777216 := rfl
  refine ass_cons (as_set (i := 1) rfl (ae_lstF (aa_nil ⟨Nat.zero_le _, ?_⟩)))
  walk_at "sn"
  refine ass_cons (as_for (ai_list ?_))
  walk_at "nm"
  refine .inl ⟨_, rfl, fun i s => ∃ (L : List Cnd) (a b : Option D), (∀ c ∈ L, c.Ok 0) ∧ (1 ≤ i → L ≠ []) ∧ L.length ≤ 200 * i ∧ i ≤ ks.length ∧ s = ⟨[some (.lst (ks.map knD)), some (.lst (L.map Cnd.d)), a, b], []⟩, ⟨[], none, none, (fun _ h => by cases h), by omega, by simp, by omega, rfl⟩, fun _ _ _ => trivial, ?_, ?_⟩
  · rintro i dd s hd ⟨L, a, b, hL, hne, zL, zi, rfl⟩
    obtain ⟨one, ho, rfl⟩ := map_at hd
    have hi := (List.getElem?_eq_some_iff.mp ho).1
    have hw1 := hk one (List.mem_of_getElem? ho)
    refine ag_name (i := 2) rfl ?_
    walk_at "sn"
    refine ass_one (as_for (ai_list ?_))
    walk_at "nm"
    refine .inl ⟨_, rfl, fun j s => ∃ (L : List Cnd) (b : Option D), (∀ c ∈ L, c.Ok 0) ∧ ((1 ≤ i ∨ i < j) → L ≠ []) ∧ L.length ≤ 200 * i + 8 * j ∧ s = ⟨[some (.lst (ks.map knD)), some (.lst (L.map Cnd.d)), some (knD one), b], []⟩, ⟨L, b, hL, fun h => hne (by omega), by omega, rfl⟩, fun _ _ _ => trivial, ?_, ?_⟩
    · rintro j dd s hd2 ⟨L, b, hL, hne, zL, rfl⟩
      obtain ⟨oth, hoth, rfl⟩ := map_at hd2
      have hj := (List.getElem?_eq_some_iff.mp hoth).1
      have hw2 := hk oth (List.mem_of_getElem? hoth)
      refine ag_name (i := 3) rfl ?_
      have cat : ∀ {s : Sta} {P' : D → Sta → Prop} (L M : List Cnd), (L ++ M).length ≤ 10000 → P' (.lst ((L ++ M).map Cnd.d)) s → ∃ xs ys, RdL s (.lst (L.map Cnd.d)) xs ∧ RdL s (.lst (M.map Cnd.d)) ys ∧ xs.length + ys.length ≤ sizeLine ∧ NewL false s (xs ++ ys) P' := fun L M hz h => ⟨_, _, .inl rfl, .inl rfl, by rw [List.length_map, List.length_map, ← List.length_append]; omega, by
        unfold NewL
        rw [if_neg (by simp), ← List.map_append]
        exact h⟩
      have okA : ∀ f, AtF f → ∀ c ∈ [Cnd.at f one.1 oth.1], c.Ok 0 := fun f hf c hc => by
        rw [List.mem_singleton.mp hc]
        exact ⟨hf, hw1, hw2⟩
      walk_at "sn"
      refine ass_cons (as_ifJ (fun s => ∃ L', (∀ c ∈ L', c.Ok 0) ∧ (L ≠ [] → L' ≠ []) ∧ L'.length ≤ L.length + 3 ∧ s = (fun L : List Cnd => (⟨[some (.lst (ks.map knD)), some (.lst (L.map Cnd.d)), some (knD one), some (knD oth)], []⟩ : Sta)) L') ?_ ?_)
      · refine at_w (aw_and (at_cmp (ac_eqU (ae_ix ?_))))
        walk_at "nm"; refine ae_int (is_i ⟨_, ix_t rfl, ?_⟩)
        refine ae_str (l := kThing) (by decide +kernel) (eq_k rfl (is_b ?_))
        refine ite2 (fun h1 => ?_) (fun h1 => ?_)
        · refine aw_and1 (at_cmp (ac_eqU (ae_ix ?_)))
          walk_at "nm"; refine ae_int (is_i ⟨_, ix_t rfl, ?_⟩)
          refine ae_str (l := kName) (by decide +kernel) (eq_k rfl (is_b ?_))
          refine ite2 (fun h2 => ?_) (fun h2 => ?_)
          · refine ass_one (as_set (i := 1) rfl (ae_catL false ?_))
            walk_at "nm"
            refine ae_lstF ?_
            refine aa_cons (ae_tup (aa_cons (ae_str (l := kIn) (by decide +kernel) (aa_cons (ae_ix ?_)))))
            walk_at "nm"; refine ae_int (is_i ⟨_, ix_t rfl, ?_⟩)
            refine aa_cons (ae_ix ?_)
            walk_at "nm"; refine ae_int (is_i ⟨_, ix_t rfl, ?_⟩)
            refine aa_nil ⟨Nat.le_of_ble_eq_true rfl, ?_⟩
            refine aa_cons (ae_tup (aa_cons (ae_str (l := kIn) (by decide +kernel) (aa_cons (ae_ix ?_)))))
            walk_at "nm"; refine ae_int (is_i ⟨_, ix_t rfl, ?_⟩)
            refine aa_cons (ae_ix ?_)
            walk_at "nm"; refine ae_int (is_i ⟨_, ix_t rfl, ?_⟩)
            refine aa_nil ⟨Nat.le_of_ble_eq_true rfl, ?_⟩
            refine aa_cons (ae_tup (aa_cons (ae_str (l := kIn) (by decide +kernel) (aa_cons (ae_ix ?_)))))
            walk_at "nm"; refine ae_int (is_i ⟨_, ix_t rfl, ?_⟩)
            refine aa_cons (ae_ix ?_)
            walk_at "nm"; refine ae_int (is_i ⟨_, ix_t rfl, ?_⟩)
            refine aa_nil ⟨Nat.le_of_ble_eq_true rfl, ?_⟩
            refine aa_nil ⟨Nat.le_of_ble_eq_true rfl, ?_⟩
            refine cat L [.at kIn one.1 oth.1, .at kIn one.1 oth.1, .at kIn one.1 oth.1] (by simp; omega) ?_
            refine ⟨L ++ [.at kIn one.1 oth.1, .at kIn one.1 oth.1, .at kIn one.1 oth.1], fun c hc => ?_, fun _ => by simp, by simp, rfl⟩
            rcases List.mem_append.mp hc with q | q
            · exact hL c q
            · exact okA kIn (.inl rfl) c (by simpa using q)
          · exact ass_nil ⟨L, hL, fun h => h, by omega, rfl⟩
        · exact ass_nil ⟨L, hL, fun h => h, by omega, rfl⟩
      rintro s ⟨L1, hL1, hne1, zL1, rfl⟩
      walk_at "sn"
      refine ass_cons (as_ifJ (fun s => ∃ L', (∀ c ∈ L', c.Ok 0) ∧ (L1 ≠ [] → L' ≠ []) ∧ L'.length ≤ L1.length + 2 ∧ s = (fun L : List Cnd => (⟨[some (.lst (ks.map knD)), some (.lst (L.map Cnd.d)), some (knD one), some (knD oth)], []⟩ : Sta)) L') ?_ ?_)
      · refine at_w (aw_and (at_cmp (ac_eqU (ae_ix ?_))))
        walk_at "nm"; refine ae_int (is_i ⟨_, ix_t rfl, ?_⟩)
        refine ae_str (l := kThing) (by decide +kernel) (eq_k rfl (is_b ?_))
        refine ite2 (fun h1 => ?_) (fun h1 => ?_)
        · refine aw_and1 (at_cmp (ac_eqU (ae_ix ?_)))
          walk_at "nm"; refine ae_int (is_i ⟨_, ix_t rfl, ?_⟩)
          refine ae_str (l := kLength) (by decide +kernel) (eq_k rfl (is_b ?_))
          refine ite2 (fun h2 => ?_) (fun h2 => ?_)
          · refine ass_one (as_set (i := 1) rfl (ae_catL false ?_))
            walk_at "nm"
            refine ae_lstF ?_
            refine aa_cons (ae_tup (aa_cons (ae_str (l := kFits) (by decide +kernel) (aa_cons (ae_ix ?_)))))
            walk_at "nm"; refine ae_int (is_i ⟨_, ix_t rfl, ?_⟩)
            refine aa_cons (ae_ix ?_)
            walk_at "nm"; refine ae_int (is_i ⟨_, ix_t rfl, ?_⟩)
            refine aa_nil ⟨Nat.le_of_ble_eq_true rfl, ?_⟩
            refine aa_cons (ae_tup (aa_cons (ae_str (l := kFits) (by decide +kernel) (aa_cons (ae_ix ?_)))))
            walk_at "nm"; refine ae_int (is_i ⟨_, ix_t rfl, ?_⟩)
            refine aa_cons (ae_ix ?_)
            walk_at "nm"; refine ae_int (is_i ⟨_, ix_t rfl, ?_⟩)
            refine aa_nil ⟨Nat.le_of_ble_eq_true rfl, ?_⟩
            refine aa_nil ⟨Nat.le_of_ble_eq_true rfl, ?_⟩
            refine cat L1 [.at kFits one.1 oth.1, .at kFits one.1 oth.1] (by simp; omega) ?_
            refine ⟨L1 ++ [.at kFits one.1 oth.1, .at kFits one.1 oth.1], fun c hc => ?_, fun _ => by simp, by simp, rfl⟩
            rcases List.mem_append.mp hc with q | q
            · exact hL1 c q
            · exact okA kFits (.inr (.inl rfl)) c (by simpa using q)
          · exact ass_nil ⟨L1, hL1, fun h => h, by omega, rfl⟩
        · exact ass_nil ⟨L1, hL1, fun h => h, by omega, rfl⟩
      rintro s ⟨L2, hL2, hne2, zL2, rfl⟩
      walk_at "sn"
      refine ass_one (as_if (at_cmp (ac_eqU (ae_ix ?_))))
      walk_at "nm"; refine ae_int (is_i ⟨_, ix_t rfl, ?_⟩)
      refine ae_ix ?_
      walk_at "nm"; refine ae_int (is_i ⟨_, ix_t rfl, ?_⟩)
      refine eq_k rfl (is_b ?_)
      refine ite2 (fun h1 => ?_) (fun h1 => ?_)
      · refine ass_one (as_set (i := 1) rfl (ae_catL false ?_))
        walk_at "nm"
        refine ae_lstF ?_
        refine aa_cons (ae_tup (aa_cons (ae_str (l := kSame) (by decide +kernel) (aa_cons (ae_ix ?_)))))
        walk_at "nm"; refine ae_int (is_i ⟨_, ix_t rfl, ?_⟩)
        refine aa_cons (ae_ix ?_)
        walk_at "nm"; refine ae_int (is_i ⟨_, ix_t rfl, ?_⟩)
        refine aa_nil ⟨Nat.le_of_ble_eq_true rfl, ?_⟩
        refine aa_cons (ae_tup (aa_cons (ae_str (l := kBefore) (by decide +kernel) (aa_cons (ae_ix ?_)))))
        walk_at "nm"; refine ae_int (is_i ⟨_, ix_t rfl, ?_⟩)
        refine aa_cons (ae_ix ?_)
        walk_at "nm"; refine ae_int (is_i ⟨_, ix_t rfl, ?_⟩)
        refine aa_nil ⟨Nat.le_of_ble_eq_true rfl, ?_⟩
        refine aa_nil ⟨Nat.le_of_ble_eq_true rfl, ?_⟩
        refine cat L2 [.at kSame one.1 oth.1, .at kBefore one.1 oth.1] (by simp; omega) ?_
        refine ⟨_, .refl, L2 ++ [.at kSame one.1 oth.1, .at kBefore one.1 oth.1], _, fun c hc => ?_, fun _ => by simp, by simp; omega, rfl⟩
        rcases List.mem_append.mp hc with q | q
        · exact hL2 c q
        · simp at q
          rcases q with rfl | rfl
          · exact ⟨.inr (.inr (.inl rfl)), hw1, hw2⟩
          · exact ⟨.inr (.inr (.inr rfl)), hw1, hw2⟩
      · refine ass_nil ⟨_, .refl, L2, _, hL2, fun h => ?_, by omega, rfl⟩
        by_cases q : i = j
        · subst q
          rw [ho] at hoth
          cases hoth
          simp at h1
        · exact hne2 (hne1 (hne (by omega)))
    · rintro s ⟨L, b, hL, hne, zL, rfl⟩
      rw [List.length_map] at zL hne
      refine ⟨_, .refl, L, _, _, hL, fun _ => hne (.inr hi), by omega, by omega, rfl⟩
  · rintro s ⟨L, a, b, hL, hne, zL, zi, rfl⟩
    rw [List.length_map] at zL hne
    walk_at "sn"
    refine ass_one (as_ret ?_)
    walk_at "nm"
    exact ⟨_, _, .refl, hq L hL (fun h => hne (List.length_pos_iff.mpr h)) (by omega)⟩

end
end G9

namespace G9
open PySem PySem.Spec PyProof.Rows L2
local macro_rules | `(tactic| walk_at "sn") => `(tactic| (first | (refine ass_at2 (by simp only [List.set_cons_zero, List.set_cons_succ, List.cons_append, List.nil_append, List.length_cons, List.length_nil, Nat.zero_add, Nat.reduceAdd, List.map_nil, List.append_nil, start, List.map_cons, List.replicate, Nat.reduceSub, Nat.sub_zero]; exact NF.rfl') ?_) | (show ASs _ _ _ _)))
local macro_rules | `(tactic| walk_at "sz") => `(tactic| (first | omega | (simp only [List.length_append, List.length_cons, List.length_nil, List.length_map, List.length_range]; omega) | exact le_sl (by simp; done) | (simp; omega)))
local macro_rules | `(tactic| walk_at "flat") => `(tactic| (first | rfl | exact all_flat_strs _ | exact all_flat_ints _ | exact all_flat_nD _))
local macro_rules | `(tactic| walk_at "nm") => `(tactic| (first | refine nm 0 ?_ | refine nm 1 ?_ | refine nm 2 ?_ | refine nm 3 ?_ | refine nm 4 ?_ | refine nm 5 ?_ | refine nm 6 ?_ | refine nm 7 ?_ | refine nm 8 ?_ | refine nm 9 ?_ | refine nm 10 ?_ | refine nm 11 ?_ | refine nm 12 ?_ | refine nm 13 ?_ | refine nm 14 ?_ | refine nm 15 ?_ | refine nm 16 ?_ | refine nm 17 ?_ | refine nm 18 ?_ | refine nm 19 ?_ | refine nm 20 ?_ | refine nm 21 ?_ | refine nm 22 ?_ | refine nm 23 ?_))
local macro_rules | `(tactic| walk_at "e") => `(tactic| (first | walk_at "nm" | refine ae_int ?_ | refine ae_plus ?_ | refine ae_cmp ?_ | refine ae_dcall 0 0 (by assumption) (Nat.le_refl _) rfl rfl ?_ | refine ae_dcall 1 0 (by assumption) (Nat.le_refl _) rfl rfl ?_ | refine ae_callP (by assumption) (Nat.le_refl _) ?_ | refine ae_slU ?_ | refine ae_subU ?_ | refine ae_str eNil ?_ | refine ae_str (by assumption) ?_ | refine ae_len (by assumption) ?_ | refine ae_sub ?_ | refine ae_mul ?_ | refine ae_tup ?_ | refine ae_tupleOf (by assumption) ?_ | refine ae_max2 (by assumption) ?_ | refine ae_min2 (by assumption) ?_ | refine ae_bl ?_ | refine ae_non ?_ | refine ae_not ?_ | refine ae_and ?_ | refine ae_or ?_ | refine ae_one ?_ | refine ae_mod ?_ | refine ae_fdiv ?_ | refine ae_neg ?_ | refine ae_if ?_ | refine ae_toInt (by assumption) ?_ | refine ae_all (by assumption) ?_ | refine ae_any (by assumption) ?_))
local macro_rules | `(tactic| walk_at "r") => `(tactic| (first | refine is_i ?_ | refine is_b ?_ | refine is_s ?_ | refine is_t ?_ | refine add_i ?_ | refine add_s (by walk_at "sz") ?_ | refine add_t (by walk_at "sz") ?_ | refine lt_i ?_ | refine lt_s ?_ | refine sub_i (ix_t rfl) ?_ | refine sub_i (ix_l rfl) ?_ | refine sub_i (ix_o rfl rfl) ?_ | refine sub_i (ix_t (by assumption)) ?_ | refine sub_i (ix_l (by assumption)) ?_ | refine sub_i (ix_o (by assumption) (by assumption)) ?_ | refine sub_s (by walk_at "sz") (by assumption) ?_ | refine eq_k rfl ?_ | refine in_q (.inr rfl) rfl (by walk_at "flat") ?_ | refine in_q (.inl (.inl rfl)) rfl (by walk_at "flat") ?_ | refine in_q (.inl (.inr ⟨_, rfl, rfl⟩)) rfl (by walk_at "flat") ?_ | refine slc_s (by walk_at "sz") ?_ | refine slc_t ?_ | refine slc_l (.inl rfl) ?_ | refine slc_l (.inr ⟨_, rfl, rfl⟩) ?_ | refine in_s ?_ | refine ⟨_, len_s (by walk_at "sz"), ?_⟩ | refine ⟨_, len_t, ?_⟩ | refine ⟨_, len_l, ?_⟩ | refine ⟨_, len_o rfl, ?_⟩ | refine ⟨_, len_o (by assumption), ?_⟩ | refine ⟨_, rfl, ?_⟩ | refine ⟨_, .inl rfl, ?_⟩ | refine ⟨_, .inr ⟨_, rfl, rfl⟩, ?_⟩ | refine ⟨le_sl (by simp), ?_⟩ | refine ⟨.inl ⟨by omega, by omega⟩, ?_⟩))
local macro_rules | `(tactic| walk_at "as") => `(tactic| (first | refine as_ret ?_ | refine as_set (i := 0) rfl ?_ | refine as_set (i := 1) rfl ?_ | refine as_set (i := 2) rfl ?_ | refine as_set (i := 3) rfl ?_ | refine as_set (i := 4) rfl ?_ | refine as_set (i := 5) rfl ?_ | refine as_set (i := 6) rfl ?_ | refine as_set (i := 7) rfl ?_ | refine as_set (i := 8) rfl ?_ | refine as_set (i := 9) rfl ?_ | refine as_set (i := 10) rfl ?_ | refine as_set (i := 11) rfl ?_ | refine as_set (i := 12) rfl ?_ | refine as_set (i := 13) rfl ?_ | refine as_set (i := 14) rfl ?_ | refine as_set (i := 15) rfl ?_ | refine as_set (i := 16) rfl ?_ | refine as_set (i := 17) rfl ?_ | refine as_set (i := 18) rfl ?_ | refine as_set (i := 19) rfl ?_ | refine as_set (i := 20) rfl ?_ | refine as_set (i := 21) rfl ?_ | refine as_set (i := 22) rfl ?_ | refine as_set (i := 23) rfl ?_ | refine as_if ?_ | refine as_expr ?_ | refine as_retN ?_ | refine as_asg ?_ | refine as_addI (i := 0) rfl rfl ?_ | refine as_addI (i := 1) rfl rfl ?_ | refine as_addI (i := 2) rfl rfl ?_ | refine as_addI (i := 3) rfl rfl ?_ | refine as_addI (i := 4) rfl rfl ?_ | refine as_addI (i := 5) rfl rfl ?_ | refine as_addI (i := 6) rfl rfl ?_ | refine as_addI (i := 7) rfl rfl ?_ | refine as_addI (i := 8) rfl rfl ?_ | refine as_addI (i := 9) rfl rfl ?_ | refine as_addI (i := 10) rfl rfl ?_ | refine as_addI (i := 11) rfl rfl ?_ | refine as_addI (i := 12) rfl rfl ?_ | refine as_addI (i := 13) rfl rfl ?_ | refine as_addI (i := 14) rfl rfl ?_ | refine as_addI (i := 15) rfl rfl ?_ | refine as_addI (i := 16) rfl rfl ?_ | refine as_addI (i := 17) rfl rfl ?_ | refine as_addI (i := 18) rfl rfl ?_ | refine as_addI (i := 19) rfl rfl ?_ | refine as_addI (i := 20) rfl rfl ?_ | refine as_addI (i := 21) rfl rfl ?_ | refine as_addI (i := 22) rfl rfl ?_ | refine as_addI (i := 23) rfl rfl ?_ | refine as_pass ?_ | refine as_break ?_ | refine as_cont ?_))
local macro_rules | `(tactic| walk_at "ass") => `(tactic| (first | refine ass_nil ?_ | (walk_at "sn"; first | refine ass_one ?_ | refine ass_cons ?_)))
local macro_rules | `(tactic| walk_at "1") => `(tactic| (first | ((with_reducible show AE _ _ _ _); walk_at "e") | ((with_reducible show AC _ _ _ _ _ _); first | refine ac_eqU ?_ | refine ac_ltU ?_ | refine ac_inU ?_ | refine ac_notInU ?_ | refine ac_isN ?_ | refine ac_notN ?_ | refine ac_neU ?_ | refine ac_le ?_ | refine ac_ge ?_ | refine ac_gt ?_) | ((with_reducible show AT _ _ _ _); first | refine at_cmp ?_ | refine at_not ?_ | (refine at_w ?_; first | refine aw_and ?_ | refine aw_or ?_) | refine at_val ?_) | ((with_reducible show AW _ _ _ _); first | refine aw_and ?_ | refine aw_or ?_ | refine aw_and1 ?_ | refine aw_or1 ?_) | ((with_reducible show AA _ _ _ _); first | refine aa_nil ?_ | refine aa_cons ?_) | ((with_reducible show AO _ _ _ _); first | refine ao_none ?_ | refine ao_some ?_) | ((with_reducible show AS _ _ _ _); walk_at "as") | ((with_reducible show ASs _ _ _ _); walk_at "ass") | ((with_reducible show seqP _ _ _ _); walk_at "ass") | ((with_reducible show AG _ _ _ _ _); first | refine ag_name (i := 0) rfl ?_ | refine ag_name (i := 1) rfl ?_ | refine ag_name (i := 2) rfl ?_ | refine ag_name (i := 3) rfl ?_ | refine ag_name (i := 4) rfl ?_ | refine ag_name (i := 5) rfl ?_ | refine ag_name (i := 6) rfl ?_ | refine ag_name (i := 7) rfl ?_ | refine ag_name (i := 8) rfl ?_ | refine ag_name (i := 9) rfl ?_ | refine ag_name (i := 10) rfl ?_ | refine ag_name (i := 11) rfl ?_ | refine ag_name (i := 12) rfl ?_ | refine ag_name (i := 13) rfl ?_ | refine ag_name (i := 14) rfl ?_ | refine ag_name (i := 15) rfl ?_ | refine ag_name (i := 16) rfl ?_ | refine ag_name (i := 17) rfl ?_ | refine ag_name (i := 18) rfl ?_ | refine ag_name (i := 19) rfl ?_ | refine ag_name (i := 20) rfl ?_ | refine ag_name (i := 21) rfl ?_ | refine ag_name (i := 22) rfl ?_ | refine ag_name (i := 23) rfl ?_ | refine ag_tup ?_) | ((with_reducible show AGs _ _ _ _ _); first | refine ags_name (i := 0) rfl ?_ | refine ags_name (i := 1) rfl ?_ | refine ags_name (i := 2) rfl ?_ | refine ags_name (i := 3) rfl ?_ | refine ags_name (i := 4) rfl ?_ | refine ags_name (i := 5) rfl ?_ | refine ags_name (i := 6) rfl ?_ | refine ags_name (i := 7) rfl ?_ | refine ags_name (i := 8) rfl ?_ | refine ags_name (i := 9) rfl ?_ | refine ags_name (i := 10) rfl ?_ | refine ags_name (i := 11) rfl ?_ | refine ags_name (i := 12) rfl ?_ | refine ags_name (i := 13) rfl ?_ | refine ags_name (i := 14) rfl ?_ | refine ags_name (i := 15) rfl ?_ | refine ags_name (i := 16) rfl ?_ | refine ags_name (i := 17) rfl ?_ | refine ags_name (i := 18) rfl ?_ | refine ags_name (i := 19) rfl ?_ | refine ags_name (i := 20) rfl ?_ | refine ags_name (i := 21) rfl ?_ | refine ags_name (i := 22) rfl ?_ | refine ags_name (i := 23) rfl ?_ | refine ags_nil ?_) | walk_at "r"))
local macro_rules | `(tactic| walk_at "y") => `(tactic| (first | ((with_reducible show AE _ _ _ _); walk_at "e") | ((with_reducible show AC _ _ _ _ _ _); first | refine ac_eqU ?_ | refine ac_ltU ?_ | refine ac_inU ?_ | refine ac_notInU ?_ | refine ac_isN ?_ | refine ac_notN ?_ | refine ac_neU ?_ | refine ac_le ?_ | refine ac_ge ?_ | refine ac_gt ?_) | ((with_reducible show AT _ _ _ _); first | refine at_cmp ?_ | refine at_not ?_ | (refine at_w ?_; first | refine aw_and ?_ | refine aw_or ?_) | refine at_val ?_) | ((with_reducible show AW _ _ _ _); first | refine aw_and ?_ | refine aw_or ?_ | refine aw_and1 ?_ | refine aw_or1 ?_) | ((with_reducible show AA _ _ _ _); first | refine aa_nil ?_ | refine aa_cons ?_) | ((with_reducible show AO _ _ _ _); first | refine ao_none ?_ | refine ao_some ?_) | ((with_reducible show AG _ _ _ _ _); first | refine ag_name (i := 0) rfl ?_ | refine ag_name (i := 1) rfl ?_ | refine ag_name (i := 2) rfl ?_ | refine ag_name (i := 3) rfl ?_ | refine ag_name (i := 4) rfl ?_ | refine ag_name (i := 5) rfl ?_ | refine ag_name (i := 6) rfl ?_ | refine ag_name (i := 7) rfl ?_ | refine ag_name (i := 8) rfl ?_ | refine ag_name (i := 9) rfl ?_ | refine ag_name (i := 10) rfl ?_ | refine ag_name (i := 11) rfl ?_ | refine ag_name (i := 12) rfl ?_ | refine ag_name (i := 13) rfl ?_ | refine ag_name (i := 14) rfl ?_ | refine ag_name (i := 15) rfl ?_ | refine ag_name (i := 16) rfl ?_ | refine ag_name (i := 17) rfl ?_ | refine ag_name (i := 18) rfl ?_ | refine ag_name (i := 19) rfl ?_ | refine ag_name (i := 20) rfl ?_ | refine ag_name (i := 21) rfl ?_ | refine ag_name (i := 22) rfl ?_ | refine ag_name (i := 23) rfl ?_ | refine ag_tup ?_) | ((with_reducible show AGs _ _ _ _ _); first | refine ags_name (i := 0) rfl ?_ | refine ags_name (i := 1) rfl ?_ | refine ags_name (i := 2) rfl ?_ | refine ags_name (i := 3) rfl ?_ | refine ags_name (i := 4) rfl ?_ | refine ags_name (i := 5) rfl ?_ | refine ags_name (i := 6) rfl ?_ | refine ags_name (i := 7) rfl ?_ | refine ags_name (i := 8) rfl ?_ | refine ags_name (i := 9) rfl ?_ | refine ags_name (i := 10) rfl ?_ | refine ags_name (i := 11) rfl ?_ | refine ags_name (i := 12) rfl ?_ | refine ags_name (i := 13) rfl ?_ | refine ags_name (i := 14) rfl ?_ | refine ags_name (i := 15) rfl ?_ | refine ags_name (i := 16) rfl ?_ | refine ags_name (i := 17) rfl ?_ | refine ags_name (i := 18) rfl ?_ | refine ags_name (i := 19) rfl ?_ | refine ags_name (i := 20) rfl ?_ | refine ags_name (i := 21) rfl ?_ | refine ags_name (i := 22) rfl ?_ | refine ags_name (i := 23) rfl ?_ | refine ags_nil ?_) | ((fail_if_success (show ASs _ _ _ _)); walk_at "r")))
local macro_rules | `(tactic| walk_at "x") => `(tactic| (repeat walk_at "y"))
local macro_rules | `(tactic| walk_at "w") => `(tactic| (repeat walk_at "1"))
abbrev sLcn : Stmt := topS 16
section
variable {P : Program} {w : World} {K : PySem.W.Frag} {mg : Str → Option Value} {base : Heap}
/-! ### _law_condition, _law_with_others -/
theorem ok_zero : ∀ (c : Cnd) (n : Nat), c.Ok 0 → c.Ok n
  | .at _ _ _, _, h => h
  | .no _, _, ⟨_, h, _⟩ => by cases h
  | .two _ _ _, _, ⟨_, _, h, _⟩ => by cases h
  | .qu _ _ _ _, _, ⟨_, _, _, _, h, _⟩ => by cases h
def R_lcn (n : Nat) : Spec := fun ds O P => ∃ (ns : List Int) (ks : List (List Nat × List Nat)) (dep : Nat) (ws : List (List Nat)) (room : Int), ds = [.ob 0, .lst (ks.map knD), .int (dep : Nat), .lst (ws.map D.str), .int room] ∧ O = [.lst (ns.map D.int)] ∧ KdO ks ∧ ks.length + n ≤ 15 ∧ 0 < ws.length ∧ ws.length ≤ 10 ∧ (∀ x ∈ ws, Wd x) ∧ dep + (if ks = [] then 1 else 0) ≤ n ∧ ∀ (c : Cnd) (ns' : List Int), c.Ok n → P c.d [.lst (ns'.map D.int)]
theorem mono_R_lcn {n : Nat} : ∀ ds O Q Q', (∀ d O', Q d O' → Q' d O') → R_lcn n ds O Q → R_lcn n ds O Q' := fun ds O Q Q' q h => match h with
  | ⟨ns, ks, dep, ws, room, h1, h2, h3, h4, h5, h6, h7, h8, h9⟩ => ⟨ns, ks, dep, ws, room, h1, h2, h3, h4, h5, h6, h7, h8, fun c ns2 a => q _ _ (h9 c ns2 a)⟩
abbrev nLcn : List Str := ["draws", "kinds", "depth", "words", "room", "kind", "atoms", "word", "told", "inner", "pair", "part", "first"]
theorem scLcn : FnScope nLcn ["draws", "kinds", "depth", "words", "room"] (defScope sLcn) := ⟨rfl, rfl, rfl, by decide +kernel, rfl, by decide +kernel, by decide +kernel⟩
theorem knD_bnd (ks : List (List Nat × List Nat)) (i : Nat) : D.bnd i (.lst (ks.map knD)) := by
  unfold D.bnd
  exact bndL_map fun p => by unfold knD D.bnd; exact ⟨trivial, trivial, trivial⟩
theorem strD_bnd (ws : List (List Nat)) (i : Nat) : D.bnd i (.lst (ws.map D.str)) := by
  unfold D.bnd
  exact bndL_map fun _ => trivial
theorem ok_lcn_fn {n : Nat} {f : Addr} {fd : FuncData} (F : Fun K "_law_condition" "_law_condition" sLcn f fd) (ml : mg "len" = none) (mm : mg "max" = none) (CT : CalA P w K mg base (n + 2) "_law_take" R_take) (CP : CalA P w K mg base (n + 2) "_law_pick" R_pickD) (CA : CalA P w K mg base (n + 2) "_law_atoms" R_lat)
    (C : ∀ m, n = m + 1 → CalA P w K mg base (n + 2) "_law_condition" (R_lcn m)) : FnOk P w K mg base CX0 (n + 2 + 1) f fd ["draws", "kinds", "depth", "words", "room"] (spA w K (R_lcn n)) := by
  refine fnA F scLcn (by rintro ds O Q ⟨a, b, c, d, e, rfl, _⟩; rfl) fun F0 H0 os0 ds O Q h => ?_
  obtain ⟨ns, ks, dep, ws, room, rfl, rfl, hk, zk, w0, w9, hw, hd, hq⟩ := h
  have sl : sizeLine = 16777216 := rfl
  refine ass_cons (as_set (i := 5) rfl (take_call 0 0 (ns := ns) CT (Nat.le_refl _) rfl rfl (ae_int (is_i ⟨by decide, rfl, fun kd ns1 k0 k1 => ?_⟩))))
  walk_at "sn"
  refine ass_cons (as_set (i := 6) rfl (ae_callP CA (Nat.le_refl _) (aa_cons ?_)))
  walk_at "nm"
  refine aa_nil ⟨⟨knD_bnd _ _, trivial⟩, ks, rfl, rfl, hk, by omega, fun L hL hne zL => ⟨rfl, (by unfold D.bnd; exact bndL_map fun c => c.bnd _), ?_⟩⟩
  have elL : (L.map Cnd.d).length = L.length := List.length_map _
  have hLb : D.bnd 0 (.lst (L.map Cnd.d)) := by unfold D.bnd; exact bndL_map fun c => c.bnd _
  walk_at "sn"
  refine ass_cons (as_ifJ (fun s => s = ⟨[some (.ob 0), some (.lst (ks.map knD)), some (.int (dep : Nat)), some (.lst (ws.map D.str)), some (.int room), some (.int kd), some (.lst (L.map Cnd.d)), none, none, none, none, none, none], [.lst (ns1.map D.int)]⟩ ∧ (L = [] ∨ dep ≠ 0)) ?_ ?_)
  · refine at_w (aw_and (at_cmp (ac_gt (ae_len ml ?_))))
    walk_at "nm"
    refine ⟨_, len_l, ae_int (is_i (is_i (is_b ?_)))⟩
    rw [elL]
    refine ite2 (fun h1 => ?_) (fun h1 => ?_)
    · have hp : 0 < L.length := by simpa using h1
      refine aw_and1 (at_w (aw_or (at_cmp (ac_eqU ?_))))
      walk_at "nm"
      refine ae_int (eq_k rfl (is_b ?_))
      refine ite2 (fun h2 => ?_) (fun h2 => ?_)
      · rw [if_pos rfl]
        refine ass_one (as_ret (ae_dcall 0 0 CP (Nat.le_refl _) rfl rfl (aa_cons ?_))); walk_at "nm"; refine aa_nil ⟨⟨hLb, trivial⟩, ns1, rfl, ns1, L.map Cnd.d, rfl, rfl, by omega, by omega, fun x ns2 hx => ?_⟩; obtain ⟨c, hc, rfl⟩ := List.mem_map.mp hx; exact ⟨ns2, rfl, c.bnd _, _, _, .refl, hq c ns2 (ok_zero c n (hL c hc))⟩
      · have hd0 : dep ≠ 0 := by simpa using h2
        refine aw_or (at_cmp (ac_eqU ?_))
        walk_at "nm"
        refine ae_int (eq_k rfl (is_b ?_))
        refine ite2 (fun h3 => ?_) (fun h3 => ?_)
        · rw [if_pos rfl]
          refine ass_one (as_ret (ae_dcall 0 0 CP (Nat.le_refl _) rfl rfl (aa_cons ?_))); walk_at "nm"; refine aa_nil ⟨⟨hLb, trivial⟩, ns1, rfl, ns1, L.map Cnd.d, rfl, rfl, by omega, by omega, fun x ns2 hx => ?_⟩; obtain ⟨c, hc, rfl⟩ := List.mem_map.mp hx; exact ⟨ns2, rfl, c.bnd _, _, _, .refl, hq c ns2 (ok_zero c n (hL c hc))⟩
        · refine aw_or1 (at_w (aw_and (at_cmp (ac_ltU ?_))))
          walk_at "x"
          refine ite2 (fun h4 => ?_) (fun h4 => ?_)
          · walk_at "x"
            refine ite2 (fun h5 => ?_) (fun h5 => ?_)
            · refine ass_one (as_ret (ae_dcall 0 0 CP (Nat.le_refl _) rfl rfl (aa_cons ?_))); walk_at "nm"; refine aa_nil ⟨⟨hLb, trivial⟩, ns1, rfl, ns1, L.map Cnd.d, rfl, rfl, by omega, by omega, fun x ns2 hx => ?_⟩; obtain ⟨c, hc, rfl⟩ := List.mem_map.mp hx; exact ⟨ns2, rfl, c.bnd _, _, _, .refl, hq c ns2 (ok_zero c n (hL c hc))⟩
            · (first | exact ass_nil ⟨rfl, .inr hd0⟩ | (rw [if_neg (by simp)]; exact ass_nil ⟨rfl, .inr hd0⟩))
          · (first | exact ass_nil ⟨rfl, .inr hd0⟩ | (rw [if_neg (by simp)]; exact ass_nil ⟨rfl, .inr hd0⟩))
    · have hp : L = [] := by
        have : ¬ 0 < L.length := by simpa using h1
        exact List.length_eq_zero_iff.mp (by omega)
      rw [if_neg (by simp)]
      exact ass_nil ⟨rfl, .inl hp⟩
  rintro s ⟨rfl, hdL⟩
  obtain ⟨m, hm⟩ : ∃ m, n = m + 1 := by
    by_cases q : ks = []
    · rw [if_pos q] at hd
      exact ⟨n - 1, by omega⟩
    · have := hne q
      rcases hdL with h | h
      · exact absurd h this
      · exact ⟨n - 1, by omega⟩
  have CC := C m hm
  have hks : ks.length + n ≤ 15 := zk
  walk_at "sn"
  refine ass_cons (as_ifJ (fun s => s = (⟨[some (.ob 0), some (.lst (ks.map knD)), some (.int (dep : Nat)), some (.lst (ws.map D.str)), some (.int room), some (.int kd), some (.lst (L.map Cnd.d)), none, none, none, none, none, none], [.lst (ns1.map D.int)]⟩ : Sta) ∧ L ≠ [] ∧ 4 ≤ kd) (AT.mono (P := fun bb s => s = (⟨[some (.ob 0), some (.lst (ks.map knD)), some (.int (dep : Nat)), some (.lst (ws.map D.str)), some (.int room), some (.int kd), some (.lst (L.map Cnd.d)), none, none, none, none, none, none], [.lst (ns1.map D.int)]⟩ : Sta) ∧ (bb = false → L ≠ [] ∧ 4 ≤ kd)) (at_w (aw_or (at_cmp (ac_eqU (ae_len ml ?_))))) ?_) ?_)
  · walk_at "nm"
    refine ⟨_, len_l, ae_int (eq_k rfl (is_b ?_))⟩
    rw [elL]
    refine ite2 (fun h1 => ?_) (fun h1 => ?_)
    · exact ⟨rfl, fun h => by cases h⟩
    · refine aw_or1 (at_cmp (ac_ltU ?_))
      walk_at "x"
      refine ⟨rfl, fun h => ⟨fun e => h1 (by simp [e]), by simpa using h⟩⟩
  · rintro bb s ⟨rfl, hb⟩
    refine ite2 (fun h1 => ?_) (fun h1 => ?_)
    · refine ass_cons (as_set (i := 7) rfl (ae_dcall 0 0 CP (Nat.le_refl _) rfl rfl (aa_cons ?_)))
      walk_at "nm"
      refine aa_nil ⟨⟨strD_bnd _ _, trivial⟩, ns1, rfl, ns1, ws.map D.str, rfl, rfl, by rw [List.length_map]; exact w0, by rw [List.length_map]; omega, fun x ns2 hx => ?_⟩
      obtain ⟨wd, hwd, rfl⟩ := List.mem_map.mp hx
      refine ⟨ns2, rfl, trivial, ?_⟩
      walk_at "sn"
      refine ass_cons (as_set (i := 8) rfl (ae_ix (ae_lstF (aa_cons (ae_str (l := kThing) (by decide +kernel) (aa_cons (ae_str (l := kName) (by decide +kernel) (aa_cons (ae_str (l := kLength) (by decide +kernel) (aa_cons (ae_str (l := kName) (by decide +kernel) (aa_cons (ae_str (l := kThing) (by decide +kernel) (aa_nil ⟨Nat.le_of_ble_eq_true rfl, ?_⟩))))))))))))))
      refine take_call 0 0 (ns := ns2) CT (Nat.le_refl _) rfl rfl (ae_int (is_i ⟨by decide, rfl, fun r ns3 r0 r1 => ?_⟩))
      obtain ⟨d, hd1, hd2⟩ := atI_in (xs := [D.str kThing, .str kName, .str kLength, .str kName, .str kThing]) r0 (by simpa using r1)
      obtain ⟨td, rfl, ztd⟩ : ∃ td, d = .str td ∧ Wd td := by
        have := List.mem_of_getElem? hd1
        simp only [List.mem_cons, List.not_mem_nil, or_false] at this
        rcases this with rfl | rfl | rfl | rfl | rfl
        · exact ⟨_, rfl, by unfold Wd; decide⟩
        · exact ⟨_, rfl, by unfold Wd; decide⟩
        · exact ⟨_, rfl, by unfold Wd; decide⟩
        · exact ⟨_, rfl, by unfold Wd; decide⟩
        · exact ⟨_, rfl, by unfold Wd; decide⟩
      refine is_i ⟨_, ix_l hd2, ?_⟩
      walk_at "sn"
      refine ass_cons (as_set (i := 9) rfl (ae_catL false ?_))
      refine ae_lcl nLcn (defScope sLcn) false [("pair", 10)] (by decide +kernel) (by simp) (ai_list ?_)
      walk_at "nm"
      refine .inl ⟨_, rfl, List Nat × List Nat, ks, knD, knD, fun p => decide (p.1 ≠ wd), rfl, fun acc => trivial, by omega, fun p _ => by unfold knD D.bnd; exact ⟨trivial, trivial, trivial⟩, fun p acc hp => ?_, ?_⟩
      · refine agw_name (i := 10) rfl ⟨rfl, rfl, ?_⟩
        refine (show AT _ _ _ _ from ?_)
        refine at_cmp (ac_neU (ae_ix ?_))
        walk_at "nm"; refine ae_int (is_i ⟨_, ix_t rfl, ?_⟩)
        walk_at "nm"
        refine eq_k rfl (is_b ?_)
        refine ⟨rfl, by simp, fun _ => ?_⟩
        walk_at "nm"
        exact ⟨rfl, rfl⟩
      rw [if_neg (by simp)]
      refine ae_lstF (aa_cons (ae_tup (aa_cons ?_)))
      walk_at "nm"
      refine aa_cons ?_
      walk_at "nm"
      refine aa_nil ⟨Nat.le_of_ble_eq_true rfl, aa_nil ⟨Nat.le_of_ble_eq_true rfl, ?_⟩⟩
      have zf := List.length_filter_le (fun p : List Nat × List Nat => decide (p.1 ≠ wd)) ks
      generalize hin : ks.filter (fun p : List Nat × List Nat => decide (p.1 ≠ wd)) ++ [(wd, td)] = inn
      refine ⟨_, _, .inl rfl, .inl rfl, by rw [List.length_map]; show _ + 1 ≤ _; omega, ?_⟩
      unfold NewL
      have ei : (ks.filter (fun p : List Nat × List Nat => decide (p.1 ≠ wd))).map knD ++ [D.tup [.str wd, .str td]] = inn.map knD := by
        rw [← hin, List.map_append]
        rfl
      rw [if_neg (by simp), ei]
      have zin : inn.length ≤ ks.length + 1 := by
        rw [← hin, List.length_append, List.length_singleton]
        omega
      have hin0 : inn ≠ [] := by
        rw [← hin]
        simp
      have hki : KdO inn := fun p hp => by
        rw [← hin] at hp
        rcases List.mem_append.mp hp with q | q
        · exact hk p (List.mem_filter.mp q).1
        · rw [List.mem_singleton.mp q]
          exact hw wd hwd
      walk_at "sn"
      refine ass_cons (as_set (i := 11) rfl (ae_dcall 0 0 CC (Nat.le_refl _) rfl rfl (aa_cons ?_)))
      walk_at "nm"
      refine aa_cons (ae_max2 mm (ae_sub ?_))
      walk_at "nm"
      refine ae_int (is_i (is_i (ae_int (is_i (is_i ?_)))))
      have em : max ((dep : Int) - 1) 0 = (dep - 1 : Nat) := by omega
      rw [em]
      refine aa_cons ?_
      walk_at "nm"
      refine aa_cons (ae_sub ?_)
      walk_at "nm"
      refine ae_int (is_i (is_i (aa_nil ?_)))
      refine ⟨⟨knD_bnd _ _, trivial, strD_bnd _ _, trivial, trivial⟩, ns3, rfl, ns3, inn, dep - 1, ws, room - 1, rfl, rfl, hki, by omega, w0, w9, hw, ?_, fun c ns4 hc => ⟨ns4, rfl, c.bnd _, ?_⟩⟩
      · rw [if_neg hin0]
        by_cases q : ks = []
        · rw [if_pos q] at hd
          omega
        · rw [if_neg q] at hd
          omega
      walk_at "sn"
      refine ass_one (as_ret (ae_tup (aa_cons (ae_ix (ae_lstF (aa_cons (ae_str (l := kSome) (by decide +kernel) (aa_cons (ae_str (l := kEach) (by decide +kernel) (aa_nil ⟨Nat.le_of_ble_eq_true rfl, ?_⟩))))))))))
      refine take_call 0 0 (ns := ns4) CT (Nat.le_refl _) rfl rfl (ae_int (is_i ⟨by decide, rfl, fun r2 ns5 r20 r21 => ?_⟩))
      obtain ⟨d, hd3, hd4⟩ := atI_in (xs := [D.str kSome, .str kEach]) r20 (by simpa using r21)
      obtain ⟨f, rfl, hf⟩ : ∃ f, d = .str f ∧ (f = kSome ∨ f = kEach) := by
        have := List.mem_of_getElem? hd3
        simp only [List.mem_cons, List.not_mem_nil, or_false] at this
        rcases this with rfl | rfl
        · exact ⟨_, rfl, .inl rfl⟩
        · exact ⟨_, rfl, .inr rfl⟩
      refine is_i ⟨_, ix_l hd4, aa_cons ?_⟩
      walk_at "nm"
      refine aa_cons ?_
      walk_at "nm"
      refine aa_cons ?_
      walk_at "nm"
      refine aa_nil ⟨Nat.le_of_ble_eq_true rfl, ?_⟩
      exact ⟨_, _, .refl, hq (.qu f wd td c) ns5 ⟨hf, hw wd hwd, ztd, m, hm, hc⟩⟩
    · exact ass_nil ⟨rfl, hb (by simpa using h1)⟩
  rintro s ⟨rfl, hLne, hk4⟩
  have hd1 : dep ≠ 0 := hdL.resolve_left hLne
  have em : (dep : Int) - 1 = (dep - 1 : Nat) := by omega
  have hdm : dep - 1 + (if ks = [] then 1 else 0) ≤ m := by omega
  walk_at "sn"
  refine ass_cons (as_if (at_cmp (ac_eqU ?_)))
  walk_at "nm"
  refine ae_int (eq_k rfl (is_b ?_))
  refine ite2 (fun h1 => ?_) (fun h1 => ?_)
  · refine ass_one (as_ret (ae_tup (aa_cons (ae_str (l := kNot) (by decide +kernel) (aa_cons (ae_dcall 0 0 CC (Nat.le_refl _) rfl rfl (aa_cons ?_)))))))
    walk_at "nm"
    refine aa_cons (ae_sub ?_); walk_at "nm"; refine ae_int (is_i (is_i ?_)); rw [em]; refine aa_cons ?_; walk_at "nm"; refine aa_cons ?_; walk_at "nm"
    refine aa_nil ⟨⟨knD_bnd _ _, trivial, strD_bnd _ _, trivial, trivial⟩, ns1, rfl, ns1, ks, dep - 1, ws, room, rfl, rfl, hk, by omega, w0, w9, hw, hdm, fun c ns2 hc => ⟨ns2, rfl, c.bnd _, aa_nil ⟨Nat.le_of_ble_eq_true rfl, ?_⟩⟩⟩
    exact ⟨_, _, .refl, hq (.no c) ns2 ⟨m, hm, hc⟩⟩
  refine ass_nil ?_
  have hk5 : kd ≠ 4 := by simpa using h1
  walk_at "sn"
  refine ass_cons (as_set (i := 12) rfl (ae_dcall 0 0 CC (Nat.le_refl _) rfl rfl (aa_cons ?_)))
  walk_at "nm"
  refine aa_cons (ae_sub ?_); walk_at "nm"; refine ae_int (is_i (is_i ?_)); rw [em]; refine aa_cons ?_; walk_at "nm"; refine aa_cons ?_; walk_at "nm"
  refine aa_nil ⟨⟨knD_bnd _ _, trivial, strD_bnd _ _, trivial, trivial⟩, ns1, rfl, ns1, ks, dep - 1, ws, room, rfl, rfl, hk, by omega, w0, w9, hw, hdm, fun c ns2 hc => ⟨ns2, rfl, c.bnd _, ?_⟩⟩
  walk_at "sn"
  refine ass_one (as_ret (ae_tup (aa_cons (ae_ix (ae_lstF (aa_cons (ae_str (l := kBoth) (by decide +kernel) (aa_cons (ae_str (l := kEither) (by decide +kernel) (aa_nil ⟨Nat.le_of_ble_eq_true rfl, ae_sub ?_⟩))))))))))
  walk_at "nm"
  obtain ⟨d, hd3, hd4⟩ := atI_in (xs := [D.str kBoth, .str kEither]) (i := kd - 5) (by omega) (by simp; omega)
  obtain ⟨f, rfl, hf⟩ : ∃ f, d = .str f ∧ (f = kBoth ∨ f = kEither) := by
    have := List.mem_of_getElem? hd3
    simp only [List.mem_cons, List.not_mem_nil, or_false] at this
    rcases this with rfl | rfl
    · exact ⟨_, rfl, .inl rfl⟩
    · exact ⟨_, rfl, .inr rfl⟩
  refine ae_int (is_i (is_i (is_i ⟨_, ix_l hd4, aa_cons ?_⟩)))
  walk_at "nm"
  refine aa_cons (ae_dcall 0 0 CC (Nat.le_refl _) rfl rfl (aa_cons ?_))
  walk_at "nm"
  refine aa_cons (ae_sub ?_); walk_at "nm"; refine ae_int (is_i (is_i ?_)); rw [em]; refine aa_cons ?_; walk_at "nm"; refine aa_cons ?_; walk_at "nm"
  refine aa_nil ⟨⟨knD_bnd _ _, trivial, strD_bnd _ _, trivial, trivial⟩, ns2, rfl, ns2, ks, dep - 1, ws, room, rfl, rfl, hk, by omega, w0, w9, hw, hdm, fun c2 ns3 hc2 => ⟨ns3, rfl, c2.bnd _, aa_nil ⟨Nat.le_of_ble_eq_true rfl, ?_⟩⟩⟩
  exact ⟨_, _, .refl, hq (.two f c c2) ns3 ⟨hf, m, hm, hc, hc2⟩⟩
theorem ok_lcn {f : Addr} {fd : FuncData} (F : Fun K "_law_condition" "_law_condition" sLcn f fd) (hm : mg "_law_condition" = some (.ref f)) (hb : Binds K fd ["draws", "kinds", "depth", "words", "room"] []) (ml : mg "len" = none) (mm : mg "max" = none) (CT : CalA P w K mg base 1 "_law_take" R_take) (CP : CalA P w K mg base 2 "_law_pick" R_pickD) (CA : CalA P w K mg base 1 "_law_atoms" R_lat) :
    ∀ n, CalA P w K mg base (n + 2 + 1) "_law_condition" (R_lcn n)
  | 0 => .mk' F (ok_lcn_fn F ml mm (CT.le (by omega)) (CP.le (by omega)) (CA.le (by omega)) fun m h => by cases h) hm hb mono_R_lcn
  | n + 1 => .mk' F (ok_lcn_fn F ml mm (CT.le (by omega)) (CP.le (by omega)) (CA.le (by omega)) fun m h => by
      cases h
      exact ok_lcn F hm hb ml mm CT CP CA n) hm hb mono_R_lcn

end
end G9

namespace G9
open PySem PySem.Spec PyProof.Rows L2
local macro_rules | `(tactic| walk_at "sn") => `(tactic| (first | (refine ass_at2 (by simp only [List.set_cons_zero, List.set_cons_succ, List.cons_append, List.nil_append, List.length_cons, List.length_nil, Nat.zero_add, Nat.reduceAdd, List.map_nil, List.append_nil, start, List.map_cons, List.replicate, Nat.reduceSub, Nat.sub_zero]; exact NF.rfl') ?_) | (show ASs _ _ _ _)))
local macro_rules | `(tactic| walk_at "sz") => `(tactic| (first | omega | (simp only [List.length_append, List.length_cons, List.length_nil, List.length_map, List.length_range]; omega) | exact le_sl (by simp; done) | (simp; omega)))
local macro_rules | `(tactic| walk_at "flat") => `(tactic| (first | rfl | exact all_flat_strs _ | exact all_flat_ints _ | exact all_flat_nD _))
local macro_rules | `(tactic| walk_at "nm") => `(tactic| (first | refine nm 0 ?_ | refine nm 1 ?_ | refine nm 2 ?_ | refine nm 3 ?_ | refine nm 4 ?_ | refine nm 5 ?_ | refine nm 6 ?_ | refine nm 7 ?_ | refine nm 8 ?_ | refine nm 9 ?_ | refine nm 10 ?_ | refine nm 11 ?_ | refine nm 12 ?_ | refine nm 13 ?_ | refine nm 14 ?_ | refine nm 15 ?_ | refine nm 16 ?_ | refine nm 17 ?_ | refine nm 18 ?_ | refine nm 19 ?_ | refine nm 20 ?_ | refine nm 21 ?_ | refine nm 22 ?_ | refine nm 23 ?_))
local macro_rules | `(tactic| walk_at "e") => `(tactic| (first | walk_at "nm" | refine ae_int ?_ | refine ae_plus ?_ | refine ae_cmp ?_ | refine ae_dcall 0 0 (by assumption) (Nat.le_refl _) rfl rfl ?_ | refine ae_dcall 1 0 (by assumption) (Nat.le_refl _) rfl rfl ?_ | refine ae_callP (by assumption) (Nat.le_refl _) ?_ | refine ae_slU ?_ | refine ae_subU ?_ | refine ae_str eNil ?_ | refine ae_str (by assumption) ?_ | refine ae_len (by assumption) ?_ | refine ae_sub ?_ | refine ae_mul ?_ | refine ae_tup ?_ | refine ae_tupleOf (by assumption) ?_ | refine ae_max2 (by assumption) ?_ | refine ae_min2 (by assumption) ?_ | refine ae_bl ?_ | refine ae_non ?_ | refine ae_not ?_ | refine ae_and ?_ | refine ae_or ?_ | refine ae_one ?_ | refine ae_mod ?_ | refine ae_fdiv ?_ | refine ae_neg ?_ | refine ae_if ?_ | refine ae_toInt (by assumption) ?_ | refine ae_all (by assumption) ?_ | refine ae_any (by assumption) ?_))
local macro_rules | `(tactic| walk_at "r") => `(tactic| (first | refine is_i ?_ | refine is_b ?_ | refine is_s ?_ | refine is_t ?_ | refine add_i ?_ | refine add_s (by walk_at "sz") ?_ | refine add_t (by walk_at "sz") ?_ | refine lt_i ?_ | refine lt_s ?_ | refine sub_i (ix_t rfl) ?_ | refine sub_i (ix_l rfl) ?_ | refine sub_i (ix_o rfl rfl) ?_ | refine sub_i (ix_t (by assumption)) ?_ | refine sub_i (ix_l (by assumption)) ?_ | refine sub_i (ix_o (by assumption) (by assumption)) ?_ | refine sub_s (by walk_at "sz") (by assumption) ?_ | refine eq_k rfl ?_ | refine in_q (.inr rfl) rfl (by walk_at "flat") ?_ | refine in_q (.inl (.inl rfl)) rfl (by walk_at "flat") ?_ | refine in_q (.inl (.inr ⟨_, rfl, rfl⟩)) rfl (by walk_at "flat") ?_ | refine slc_s (by walk_at "sz") ?_ | refine slc_t ?_ | refine slc_l (.inl rfl) ?_ | refine slc_l (.inr ⟨_, rfl, rfl⟩) ?_ | refine in_s ?_ | refine ⟨_, len_s (by walk_at "sz"), ?_⟩ | refine ⟨_, len_t, ?_⟩ | refine ⟨_, len_l, ?_⟩ | refine ⟨_, len_o rfl, ?_⟩ | refine ⟨_, len_o (by assumption), ?_⟩ | refine ⟨_, rfl, ?_⟩ | refine ⟨_, .inl rfl, ?_⟩ | refine ⟨_, .inr ⟨_, rfl, rfl⟩, ?_⟩ | refine ⟨le_sl (by simp), ?_⟩ | refine ⟨.inl ⟨by omega, by omega⟩, ?_⟩))
local macro_rules | `(tactic| walk_at "as") => `(tactic| (first | refine as_ret ?_ | refine as_set (i := 0) rfl ?_ | refine as_set (i := 1) rfl ?_ | refine as_set (i := 2) rfl ?_ | refine as_set (i := 3) rfl ?_ | refine as_set (i := 4) rfl ?_ | refine as_set (i := 5) rfl ?_ | refine as_set (i := 6) rfl ?_ | refine as_set (i := 7) rfl ?_ | refine as_set (i := 8) rfl ?_ | refine as_set (i := 9) rfl ?_ | refine as_set (i := 10) rfl ?_ | refine as_set (i := 11) rfl ?_ | refine as_set (i := 12) rfl ?_ | refine as_set (i := 13) rfl ?_ | refine as_set (i := 14) rfl ?_ | refine as_set (i := 15) rfl ?_ | refine as_set (i := 16) rfl ?_ | refine as_set (i := 17) rfl ?_ | refine as_set (i := 18) rfl ?_ | refine as_set (i := 19) rfl ?_ | refine as_set (i := 20) rfl ?_ | refine as_set (i := 21) rfl ?_ | refine as_set (i := 22) rfl ?_ | refine as_set (i := 23) rfl ?_ | refine as_if ?_ | refine as_expr ?_ | refine as_retN ?_ | refine as_asg ?_ | refine as_addI (i := 0) rfl rfl ?_ | refine as_addI (i := 1) rfl rfl ?_ | refine as_addI (i := 2) rfl rfl ?_ | refine as_addI (i := 3) rfl rfl ?_ | refine as_addI (i := 4) rfl rfl ?_ | refine as_addI (i := 5) rfl rfl ?_ | refine as_addI (i := 6) rfl rfl ?_ | refine as_addI (i := 7) rfl rfl ?_ | refine as_addI (i := 8) rfl rfl ?_ | refine as_addI (i := 9) rfl rfl ?_ | refine as_addI (i := 10) rfl rfl ?_ | refine as_addI (i := 11) rfl rfl ?_ | refine as_addI (i := 12) rfl rfl ?_ | refine as_addI (i := 13) rfl rfl ?_ | refine as_addI (i := 14) rfl rfl ?_ | refine as_addI (i := 15) rfl rfl ?_ | refine as_addI (i := 16) rfl rfl ?_ | refine as_addI (i := 17) rfl rfl ?_ | refine as_addI (i := 18) rfl rfl ?_ | refine as_addI (i := 19) rfl rfl ?_ | refine as_addI (i := 20) rfl rfl ?_ | refine as_addI (i := 21) rfl rfl ?_ | refine as_addI (i := 22) rfl rfl ?_ | refine as_addI (i := 23) rfl rfl ?_ | refine as_pass ?_ | refine as_break ?_ | refine as_cont ?_))
local macro_rules | `(tactic| walk_at "ass") => `(tactic| (first | refine ass_nil ?_ | (walk_at "sn"; first | refine ass_one ?_ | refine ass_cons ?_)))
local macro_rules | `(tactic| walk_at "1") => `(tactic| (first | ((with_reducible show AE _ _ _ _); walk_at "e") | ((with_reducible show AC _ _ _ _ _ _); first | refine ac_eqU ?_ | refine ac_ltU ?_ | refine ac_inU ?_ | refine ac_notInU ?_ | refine ac_isN ?_ | refine ac_notN ?_ | refine ac_neU ?_ | refine ac_le ?_ | refine ac_ge ?_ | refine ac_gt ?_) | ((with_reducible show AT _ _ _ _); first | refine at_cmp ?_ | refine at_not ?_ | (refine at_w ?_; first | refine aw_and ?_ | refine aw_or ?_) | refine at_val ?_) | ((with_reducible show AW _ _ _ _); first | refine aw_and ?_ | refine aw_or ?_ | refine aw_and1 ?_ | refine aw_or1 ?_) | ((with_reducible show AA _ _ _ _); first | refine aa_nil ?_ | refine aa_cons ?_) | ((with_reducible show AO _ _ _ _); first | refine ao_none ?_ | refine ao_some ?_) | ((with_reducible show AS _ _ _ _); walk_at "as") | ((with_reducible show ASs _ _ _ _); walk_at "ass") | ((with_reducible show seqP _ _ _ _); walk_at "ass") | ((with_reducible show AG _ _ _ _ _); first | refine ag_name (i := 0) rfl ?_ | refine ag_name (i := 1) rfl ?_ | refine ag_name (i := 2) rfl ?_ | refine ag_name (i := 3) rfl ?_ | refine ag_name (i := 4) rfl ?_ | refine ag_name (i := 5) rfl ?_ | refine ag_name (i := 6) rfl ?_ | refine ag_name (i := 7) rfl ?_ | refine ag_name (i := 8) rfl ?_ | refine ag_name (i := 9) rfl ?_ | refine ag_name (i := 10) rfl ?_ | refine ag_name (i := 11) rfl ?_ | refine ag_name (i := 12) rfl ?_ | refine ag_name (i := 13) rfl ?_ | refine ag_name (i := 14) rfl ?_ | refine ag_name (i := 15) rfl ?_ | refine ag_name (i := 16) rfl ?_ | refine ag_name (i := 17) rfl ?_ | refine ag_name (i := 18) rfl ?_ | refine ag_name (i := 19) rfl ?_ | refine ag_name (i := 20) rfl ?_ | refine ag_name (i := 21) rfl ?_ | refine ag_name (i := 22) rfl ?_ | refine ag_name (i := 23) rfl ?_ | refine ag_tup ?_) | ((with_reducible show AGs _ _ _ _ _); first | refine ags_name (i := 0) rfl ?_ | refine ags_name (i := 1) rfl ?_ | refine ags_name (i := 2) rfl ?_ | refine ags_name (i := 3) rfl ?_ | refine ags_name (i := 4) rfl ?_ | refine ags_name (i := 5) rfl ?_ | refine ags_name (i := 6) rfl ?_ | refine ags_name (i := 7) rfl ?_ | refine ags_name (i := 8) rfl ?_ | refine ags_name (i := 9) rfl ?_ | refine ags_name (i := 10) rfl ?_ | refine ags_name (i := 11) rfl ?_ | refine ags_name (i := 12) rfl ?_ | refine ags_name (i := 13) rfl ?_ | refine ags_name (i := 14) rfl ?_ | refine ags_name (i := 15) rfl ?_ | refine ags_name (i := 16) rfl ?_ | refine ags_name (i := 17) rfl ?_ | refine ags_name (i := 18) rfl ?_ | refine ags_name (i := 19) rfl ?_ | refine ags_name (i := 20) rfl ?_ | refine ags_name (i := 21) rfl ?_ | refine ags_name (i := 22) rfl ?_ | refine ags_name (i := 23) rfl ?_ | refine ags_nil ?_) | walk_at "r"))
local macro_rules | `(tactic| walk_at "y") => `(tactic| (first | ((with_reducible show AE _ _ _ _); walk_at "e") | ((with_reducible show AC _ _ _ _ _ _); first | refine ac_eqU ?_ | refine ac_ltU ?_ | refine ac_inU ?_ | refine ac_notInU ?_ | refine ac_isN ?_ | refine ac_notN ?_ | refine ac_neU ?_ | refine ac_le ?_ | refine ac_ge ?_ | refine ac_gt ?_) | ((with_reducible show AT _ _ _ _); first | refine at_cmp ?_ | refine at_not ?_ | (refine at_w ?_; first | refine aw_and ?_ | refine aw_or ?_) | refine at_val ?_) | ((with_reducible show AW _ _ _ _); first | refine aw_and ?_ | refine aw_or ?_ | refine aw_and1 ?_ | refine aw_or1 ?_) | ((with_reducible show AA _ _ _ _); first | refine aa_nil ?_ | refine aa_cons ?_) | ((with_reducible show AO _ _ _ _); first | refine ao_none ?_ | refine ao_some ?_) | ((with_reducible show AG _ _ _ _ _); first | refine ag_name (i := 0) rfl ?_ | refine ag_name (i := 1) rfl ?_ | refine ag_name (i := 2) rfl ?_ | refine ag_name (i := 3) rfl ?_ | refine ag_name (i := 4) rfl ?_ | refine ag_name (i := 5) rfl ?_ | refine ag_name (i := 6) rfl ?_ | refine ag_name (i := 7) rfl ?_ | refine ag_name (i := 8) rfl ?_ | refine ag_name (i := 9) rfl ?_ | refine ag_name (i := 10) rfl ?_ | refine ag_name (i := 11) rfl ?_ | refine ag_name (i := 12) rfl ?_ | refine ag_name (i := 13) rfl ?_ | refine ag_name (i := 14) rfl ?_ | refine ag_name (i := 15) rfl ?_ | refine ag_name (i := 16) rfl ?_ | refine ag_name (i := 17) rfl ?_ | refine ag_name (i := 18) rfl ?_ | refine ag_name (i := 19) rfl ?_ | refine ag_name (i := 20) rfl ?_ | refine ag_name (i := 21) rfl ?_ | refine ag_name (i := 22) rfl ?_ | refine ag_name (i := 23) rfl ?_ | refine ag_tup ?_) | ((with_reducible show AGs _ _ _ _ _); first | refine ags_name (i := 0) rfl ?_ | refine ags_name (i := 1) rfl ?_ | refine ags_name (i := 2) rfl ?_ | refine ags_name (i := 3) rfl ?_ | refine ags_name (i := 4) rfl ?_ | refine ags_name (i := 5) rfl ?_ | refine ags_name (i := 6) rfl ?_ | refine ags_name (i := 7) rfl ?_ | refine ags_name (i := 8) rfl ?_ | refine ags_name (i := 9) rfl ?_ | refine ags_name (i := 10) rfl ?_ | refine ags_name (i := 11) rfl ?_ | refine ags_name (i := 12) rfl ?_ | refine ags_name (i := 13) rfl ?_ | refine ags_name (i := 14) rfl ?_ | refine ags_name (i := 15) rfl ?_ | refine ags_name (i := 16) rfl ?_ | refine ags_name (i := 17) rfl ?_ | refine ags_name (i := 18) rfl ?_ | refine ags_name (i := 19) rfl ?_ | refine ags_name (i := 20) rfl ?_ | refine ags_name (i := 21) rfl ?_ | refine ags_name (i := 22) rfl ?_ | refine ags_name (i := 23) rfl ?_ | refine ags_nil ?_) | ((fail_if_success (show ASs _ _ _ _)); walk_at "r")))
local macro_rules | `(tactic| walk_at "x") => `(tactic| (repeat walk_at "y"))
local macro_rules | `(tactic| walk_at "w") => `(tactic| (repeat walk_at "1"))
abbrev sIsv : Stmt := topS 6
abbrev sChp : Stmt := topS 7
section
variable {P : Program} {w : World} {K : PySem.W.Frag} {mg : Str → Option Value} {base : Heap}
/-! ### is_variable, check_pair -/
def isVar (x : List Nat) : Bool := !decide (x = []) && x.all fun k => decide (k ∈ LET)
def R_isv : Spec := fun ds O P => ∃ x : List Nat, ds = [.str x] ∧ O = [] ∧ x.length ≤ 1000 ∧ P (.bl (isVar x)) []
theorem mono_R_isv : ∀ ds O Q Q', (∀ d O', Q d O' → Q' d O') → R_isv ds O Q → R_isv ds O Q' := fun ds O Q Q' q h => match h with
  | ⟨t, h1, h2, h3, h4⟩ => ⟨t, h1, h2, h3, q _ _ h4⟩
abbrev nIsv : List Str := ["text", "char"]
theorem scIsv : FnScope nIsv ["text"] (defScope sIsv) := ⟨rfl, rfl, rfl, by decide +kernel, rfl, by decide +kernel, by decide +kernel⟩
theorem ok_isv {f : Addr} {fd : FuncData} {k : Nat} (F : Fun K "is_variable" "is_variable" sIsv f fd) (ma : mg "all" = none) {u : Value} (hL : mg "LETTERS" = some u) (rL : RelV (.str (S LET)) u) : FnOk P w K mg base CX0 (k + 1) f fd ["text"] (spA w K R_isv) := by
  refine fnA F scIsv (by rintro ds O Q ⟨t, rfl, _⟩; rfl) fun F0 H0 os0 ds O Q h => ?_
  obtain ⟨t, rfl, rfl, ht, hq⟩ := h
  have sl : sizeLine = 16777216 := rfl
  refine ass_one (as_ret (ae_and (ae_cmp (ac_neU ?_))))
  walk_at "nm"
  refine ae_str eNil (eq_k rfl (is_b ?_))
  have e1 : (if true = true then !decide (t = []) else decide (t = [])) = !decide (t = []) := rfl
  rw [e1]
  unfold isVar at hq
  by_cases e : t = []
  · rw [decide_eq_true e] at hq ⊢
    rw [if_neg (by simp)]
    exact ⟨_, _, .refl, hq⟩
  rw [decide_eq_false e] at hq ⊢
  rw [if_pos (by simp)]
  refine ae_one (ae_all ma ?_)
  refine ae_lcl nIsv (defScope sIsv) false [("char", 1)] (by decide +kernel) (by simp) (ai_str ?_)
  walk_at "nm"
  refine is_s ⟨Nat, t, fun y => .str [y], fun y => .bl (decide (y ∈ LET)), fun _ => true, rfl, fun _ => trivial, by omega, fun _ _ => trivial, fun y acc hy => ?_, ?_⟩
  · refine agw_name (i := 1) rfl ⟨rfl, rfl, show AF _ _ _ _ from ⟨rfl, rfl, fun _ => ?_⟩⟩
    refine ae_cmp (ac_inS ?_)
    walk_at "nm"
    exact ae_glob hL rL (fun _ _ => .str _) ⟨y, LET, rfl, rfl, rfl, rfl⟩
  rw [if_neg (by simp), List.filter_eq_self.mpr fun _ _ => rfl]
  refine ⟨t.map fun y => decide (y ∈ LET), .inl (by rw [List.map_map]; rfl), ?_⟩
  rw [List.all_map]
  exact ⟨_, _, .refl, hq⟩
def KndT (x : List Nat) : Prop := x = kName ∨ x = kThing ∨ x = kLength
def KndL (l : SPs) : Prop := ∀ p ∈ l, KndT p.2
def gkd (l : SPs) (x : List Nat) : List Nat := (sdget l x).getD []
theorem sdget_mem : ∀ {l : SPs} {x v : List Nat}, sdget l x = some v → ∃ p ∈ l, p.2 = v
  | p :: l, x, v, h => by
    unfold sdget at h
    split at h
    · exact ⟨p, by simp, Option.some.inj h⟩
    · obtain ⟨q, hq, e⟩ := sdget_mem h
      exact ⟨q, by simp [hq], e⟩
theorem gkd_ok {l : SPs} (h : KndL l) (x : List Nat) : gkd l x = [] ∨ KndT (gkd l x) := by
  unfold gkd
  cases e : sdget l x with
  | none => exact .inl rfl
  | some v =>
    obtain ⟨p, hp, rfl⟩ := sdget_mem e
    exact .inr (h p hp)
theorem sdget_put (k v x : List Nat) : ∀ l : SPs, sdget (sdput l k v) x = if x = k then some v else sdget l x := by
  have up : ∀ l : SPs, (l.any fun p => decide (p.1 = k)) = true → sdget (l.map fun p => if p.1 = k then (p.1, v) else p) x = if x = k then some v else sdget l x := by
    intro l
    induction l with
    | nil => intro h; simp at h
    | cons p l ih =>
      intro h
      rw [List.map_cons]
      unfold sdget
      by_cases e : p.1 = k
      · rw [if_pos e]
        by_cases z : x = k
        · subst z
          rw [if_pos e, if_pos rfl]
        · have z1 : ¬ p.1 = x := fun q => z (q ▸ e)
          rw [if_neg z1, if_neg z, if_neg z1]
          -- the rest: whether k occurs again or not does not matter
          clear ih h
          induction l with
          | nil => rfl
          | cons q l ih2 =>
            rw [List.map_cons]
            unfold sdget
            by_cases eq : q.1 = k
            · have : ¬ q.1 = x := fun q2 => z (q2 ▸ eq)
              rw [if_pos eq, if_neg this, if_neg this]
              exact ih2
            · rw [if_neg eq]
              by_cases q3 : q.1 = x
              · rw [if_pos q3, if_pos q3]
              · rw [if_neg q3, if_neg q3]
                exact ih2
      · rw [if_neg e]
        rw [List.any_cons, decide_eq_false e, Bool.false_or] at h
        by_cases q : p.1 = x
        · rw [if_pos q, if_pos q]
          have : ¬ x = k := fun z => e (q.trans z)
          rw [if_neg this]
        · rw [if_neg q, if_neg q]
          exact ih h
  have app : ∀ l : SPs, ¬ (l.any fun p => decide (p.1 = k)) = true → sdget (l ++ [(k, v)]) x = if x = k then some v else sdget l x := by
    intro l
    induction l with
    | nil =>
      intro _
      show sdget [(k, v)] x = _
      unfold sdget
      by_cases z : x = k
      · rw [if_pos z.symm, if_pos z]
      · rw [if_neg (fun q => z q.symm), if_neg z]
        rfl
    | cons p l ih =>
      intro h
      rw [List.any_cons, Bool.or_eq_true, not_or] at h
      have e : ¬ p.1 = k := fun q => h.1 (decide_eq_true q)
      rw [List.cons_append]
      unfold sdget
      by_cases q : p.1 = x
      · rw [if_pos q, if_pos q]
        have : ¬ x = k := fun z => e (q.trans z)
        rw [if_neg this]
      · rw [if_neg q, if_neg q]
        exact ih h.2
  intro l
  unfold sdput
  split
  · rename_i h
    exact up l h
  · rename_i h
    exact app l h
theorem gkd_put (l : SPs) (k v : List Nat) : gkd (sdput l k v) = fun x => if x = k then v else gkd l x := by
  funext x
  unfold gkd
  rw [sdget_put]
  by_cases e : x = k
  · rw [if_pos e, if_pos e]
    rfl
  · rw [if_neg e, if_neg e]
theorem kndL_put {l : SPs} {k v : List Nat} (h : KndL l) (hv : KndT v) : KndL (sdput l k v) := by
  intro p hp
  unfold sdput at hp
  split at hp
  · obtain ⟨q, hq, rfl⟩ := List.mem_map.mp hp
    split
    · exact hv
    · exact h q hq
  · rcases List.mem_append.mp hp with q | q
    · exact h p q
    · rw [List.mem_singleton.mp q]
      exact hv
/-- whether the kinds of two variables are right -/
def atV (f x y : List Nat) : Bool := if f = kIn then decide (x = kThing) && decide (y = kName) else if f = kFits then decide (x = kThing) && decide (y = kLength) else decide (x = y) && !decide (x = [])
def R_chp (NC : Addr) : SpecX := fun ds O P PE => ∃ (f a b : List Nat) (l : SPs), ds = [(Cnd.at f a b).d, .ob 0] ∧ O = [.dct .a (sdD l)] ∧ AtF f ∧ KndL l ∧ (atV f (gkd l a) (gkd l b) = true → P .non [.dct .a (sdD l)]) ∧ (atV f (gkd l a) (gkd l b) = false → PE (.ref NC) .non [.dct .a (sdD l)])
theorem mono_R_chp {NC : Addr} : ∀ ds O Q Q' E E', (∀ d O', Q d O' → Q' d O') → (∀ cls p O', E cls p O' → E' cls p O') → R_chp NC ds O Q E → R_chp NC ds O Q' E' := fun ds O Q Q' E E' q qe h => match h with
  | ⟨f, a, b, l, h1, h2, h3, h4, h5, h6⟩ => ⟨f, a, b, l, h1, h2, h3, h4, fun b => q _ _ (h5 b), fun b => qe _ _ _ (h6 b)⟩
theorem prs_eq {x y x' y' : List Nat} : PyData.eqv (.tuple [.str (S x), .str (S y)]) (.tuple [.str (S x'), .str (S y')]) = (decide (x = x') && decide (y = y')) := by
  rw [Bool.eq_iff_iff]
  simp [PyData.eqv, PyData.eqvAll, S_inj]
theorem prs_py {x y : List Nat} : pyD (.tup [.str x, .str y]) = some (.tuple [.str (S x), .str (S y)]) := rfl
theorem prs_sh {x y : List Nat} (hx : x = [] ∨ KndT x) (hy : y = [] ∨ KndT y) : SeqAt.shaped (.tuple [.str (S x), .str (S y)]) = true := by
  rcases hx with rfl | rfl | rfl | rfl <;> rcases hy with rfl | rfl | rfl | rfl <;> decide +kernel
abbrev nChp : List Str := ["condition", "kinds", "form", "left", "right", "pair", "good"]
theorem scChp : FnScope nChp ["condition", "kinds"] (defScope sChp) := ⟨rfl, rfl, rfl, by decide +kernel, rfl, by decide +kernel, by decide +kernel⟩
theorem ok_chp {f NC : Addr} {fd : FuncData} {k : Nat} (F : Fun K "check_pair" "check_pair" sChp f fd) (TX : XOwn K mg "NoCondition" NC) : FnOk P w K mg base (L2.CX P w) (k + 1) f fd ["condition", "kinds"] (spX w K (R_chp NC)) := by
  refine fnX F scChp (by rintro ds O Q E ⟨f, a, b, l, rfl, _⟩; rfl) fun F0 H0 os0 ds O Q PE h => ?_
  obtain ⟨fm, a, b, l, rfl, rfl, hf, hl, hq, he⟩ := h
  have eNil2 : ("" : Str) = S [] := eNil
  unfold Cnd.d
  generalize hga : gkd l a = x at hq he
  generalize hgb : gkd l b = y at hq he
  have hx : x = [] ∨ KndT x := hga ▸ gkd_ok hl a
  have hy : y = [] ∨ KndT y := hgb ▸ gkd_ok hl b
  generalize hfd : D.tup [.str fm, .str a, .str b] = cd
  walk_at "sn"
  refine ass_cons (as_asg ?_)
  refine nm 0 ?_
  rw [← hfd]
  refine ag_tup (ds := [.str fm, .str a, .str b]) (ags_name (i := 2) rfl (ags_name (i := 3) rfl (ags_name (i := 4) rfl (ags_nil ?_))))
  rw [hfd]
  refine (show seqP _ _ _ (.nx ⟨[some cd, some (.ob 0), some (.str fm), some (.str a), some (.str b), none, none], [.dct .a (sdD l)]⟩) from ?_)
  walk_at "sn"
  refine ass_cons (as_set (i := 5) rfl (ae_tup (aa_cons (ae_sdget ?_))))
  refine nm 1 ⟨0, rfl, ⟨_, rfl⟩, ?_⟩
  refine nm 3 (ae_str eNil2 ⟨l, a, [], rfl, rfl, rfl, aa_cons (ae_sdget ?_)⟩)
  refine nm 1 ⟨0, rfl, ⟨_, rfl⟩, ?_⟩
  refine nm 4 (ae_str eNil2 ⟨l, b, [], rfl, rfl, rfl, aa_nil ⟨le_sl (by simp), ?_⟩⟩)
  rw [show (sdget l a).getD [] = x from hga, show (sdget l b).getD [] = y from hgb]
  walk_at "sn"
  refine ass_cons (as_ifJ (fun s => s = ⟨[some cd, some (.ob 0), some (.str fm), some (.str a), some (.str b), some (.tup [.str x, .str y]), some (.bl (atV fm x y))], [.dct .a (sdD l)]⟩) (at_cmp (ac_eqU ?_)) ?_)
  · refine nm 2 (ae_str (l := kIn) (by decide +kernel) (eq_k rfl (is_b ?_)))
    refine ite2 (fun hc => ?_) (fun hc => ?_)
    · have e : fm = kIn := by simpa using hc
      refine ass_one (as_set (i := 6) rfl (ae_cmp (ac_eqU ?_)))
      refine nm 5 (ae_tup (aa_cons (ae_str (l := kThing) (by decide +kernel) (aa_cons (ae_str (l := kName) (by decide +kernel) (aa_nil ⟨le_sl (by simp), ?_⟩))))))
      refine eq_d prs_py prs_py (prs_sh hx hy) (prs_sh (.inr (.inr (.inl rfl))) (.inr (.inl rfl))) ?_
      rw [if_neg (by simp), prs_eq]
      unfold atV
      rw [if_pos e]
      rfl
    · have e : fm ≠ kIn := by simpa using hc
      refine ass_one (as_if (at_cmp (ac_eqU ?_)))
      refine nm 2 (ae_str (l := kFits) (by decide +kernel) (eq_k rfl (is_b ?_)))
      refine ite2 (fun hc => ?_) (fun hc => ?_)
      · have e2 : fm = kFits := by simpa using hc
        refine ass_one (as_set (i := 6) rfl (ae_cmp (ac_eqU ?_)))
        refine nm 5 (ae_tup (aa_cons (ae_str (l := kThing) (by decide +kernel) (aa_cons (ae_str (l := kLength) (by decide +kernel) (aa_nil ⟨le_sl (by simp), ?_⟩))))))
        refine eq_d prs_py prs_py (prs_sh hx hy) (prs_sh (.inr (.inr (.inl rfl))) (.inr (.inr (.inr rfl)))) ?_
        rw [if_neg (by simp), prs_eq]
        unfold atV
        rw [if_neg e, if_pos e2]
        rfl
      · have e2 : fm ≠ kFits := by simpa using hc
        refine ass_one (as_set (i := 6) rfl (ae_and (ae_cmp (ac_eqU (ae_ix ?_)))))
        refine nm 5 (ae_int (is_i ⟨_, ix_t rfl, ae_ix ?_⟩))
        refine nm 5 (ae_int (is_i ⟨_, ix_t rfl, eq_k rfl (is_b ?_)⟩))
        have eat : atV fm x y = (decide (x = y) && !decide (x = [])) := by
          unfold atV
          rw [if_neg e, if_neg e2]
        rw [eat]
        refine ite2 (fun hc => ?_) (fun hc => ?_)
        · have e3 : x = y := by simpa using hc
          refine ae_one (ae_cmp (ac_neU (ae_ix ?_)))
          refine nm 5 (ae_int (is_i ⟨_, ix_t rfl, ae_str eNil2 (eq_k rfl ?_)⟩))
          rw [decide_eq_true e3, Bool.true_and]
          rfl
        · have e3 : x ≠ y := by simpa using hc
          rw [decide_eq_false e3, Bool.false_and]
          rfl
  rintro s rfl
  walk_at "sn"
  refine ass_one (as_if (at_not (at_val ?_)))
  refine nm 6 (is_b ?_)
  refine ite2 (fun hc => ?_) (fun hc => ?_)
  · have e : atV fm x y = false := by simpa using hc
    exact ass_one (as_raise TX ⟨_, _, .refl, he e⟩)
  · have e : atV fm x y = true := by simpa using hc
    exact ass_nil ⟨_, _, .refl, hq e⟩

end
end G9

namespace G9
open PySem PySem.Spec PyProof.Rows L2
local macro_rules | `(tactic| walk_at "sn") => `(tactic| (first | (refine ass_at2 (by simp only [List.set_cons_zero, List.set_cons_succ, List.cons_append, List.nil_append, List.length_cons, List.length_nil, Nat.zero_add, Nat.reduceAdd, List.map_nil, List.append_nil, start, List.map_cons, List.replicate, Nat.reduceSub, Nat.sub_zero]; exact NF.rfl') ?_) | (show ASs _ _ _ _)))
local macro_rules | `(tactic| walk_at "sz") => `(tactic| (first | omega | (simp only [List.length_append, List.length_cons, List.length_nil, List.length_map, List.length_range]; omega) | exact le_sl (by simp; done) | (simp; omega)))
local macro_rules | `(tactic| walk_at "flat") => `(tactic| (first | rfl | exact all_flat_strs _ | exact all_flat_ints _ | exact all_flat_nD _))
local macro_rules | `(tactic| walk_at "nm") => `(tactic| (first | refine nm 0 ?_ | refine nm 1 ?_ | refine nm 2 ?_ | refine nm 3 ?_ | refine nm 4 ?_ | refine nm 5 ?_ | refine nm 6 ?_ | refine nm 7 ?_ | refine nm 8 ?_ | refine nm 9 ?_ | refine nm 10 ?_ | refine nm 11 ?_ | refine nm 12 ?_ | refine nm 13 ?_ | refine nm 14 ?_ | refine nm 15 ?_ | refine nm 16 ?_ | refine nm 17 ?_ | refine nm 18 ?_ | refine nm 19 ?_ | refine nm 20 ?_ | refine nm 21 ?_ | refine nm 22 ?_ | refine nm 23 ?_))
local macro_rules | `(tactic| walk_at "e") => `(tactic| (first | walk_at "nm" | refine ae_int ?_ | refine ae_plus ?_ | refine ae_cmp ?_ | refine ae_dcall 0 0 (by assumption) (Nat.le_refl _) rfl rfl ?_ | refine ae_dcall 1 0 (by assumption) (Nat.le_refl _) rfl rfl ?_ | refine ae_callP (by assumption) (Nat.le_refl _) ?_ | refine ae_slU ?_ | refine ae_subU ?_ | refine ae_str eNil ?_ | refine ae_str (by assumption) ?_ | refine ae_len (by assumption) ?_ | refine ae_sub ?_ | refine ae_mul ?_ | refine ae_tup ?_ | refine ae_tupleOf (by assumption) ?_ | refine ae_max2 (by assumption) ?_ | refine ae_min2 (by assumption) ?_ | refine ae_bl ?_ | refine ae_non ?_ | refine ae_not ?_ | refine ae_and ?_ | refine ae_or ?_ | refine ae_one ?_ | refine ae_mod ?_ | refine ae_fdiv ?_ | refine ae_neg ?_ | refine ae_if ?_ | refine ae_toInt (by assumption) ?_ | refine ae_all (by assumption) ?_ | refine ae_any (by assumption) ?_))
local macro_rules | `(tactic| walk_at "r") => `(tactic| (first | refine is_i ?_ | refine is_b ?_ | refine is_s ?_ | refine is_t ?_ | refine add_i ?_ | refine add_s (by walk_at "sz") ?_ | refine add_t (by walk_at "sz") ?_ | refine lt_i ?_ | refine lt_s ?_ | refine sub_i (ix_t rfl) ?_ | refine sub_i (ix_l rfl) ?_ | refine sub_i (ix_o rfl rfl) ?_ | refine sub_i (ix_t (by assumption)) ?_ | refine sub_i (ix_l (by assumption)) ?_ | refine sub_i (ix_o (by assumption) (by assumption)) ?_ | refine sub_s (by walk_at "sz") (by assumption) ?_ | refine eq_k rfl ?_ | refine in_q (.inr rfl) rfl (by walk_at "flat") ?_ | refine in_q (.inl (.inl rfl)) rfl (by walk_at "flat") ?_ | refine in_q (.inl (.inr ⟨_, rfl, rfl⟩)) rfl (by walk_at "flat") ?_ | refine slc_s (by walk_at "sz") ?_ | refine slc_t ?_ | refine slc_l (.inl rfl) ?_ | refine slc_l (.inr ⟨_, rfl, rfl⟩) ?_ | refine in_s ?_ | refine ⟨_, len_s (by walk_at "sz"), ?_⟩ | refine ⟨_, len_t, ?_⟩ | refine ⟨_, len_l, ?_⟩ | refine ⟨_, len_o rfl, ?_⟩ | refine ⟨_, len_o (by assumption), ?_⟩ | refine ⟨_, rfl, ?_⟩ | refine ⟨_, .inl rfl, ?_⟩ | refine ⟨_, .inr ⟨_, rfl, rfl⟩, ?_⟩ | refine ⟨le_sl (by simp), ?_⟩ | refine ⟨.inl ⟨by omega, by omega⟩, ?_⟩))
local macro_rules | `(tactic| walk_at "as") => `(tactic| (first | refine as_ret ?_ | refine as_set (i := 0) rfl ?_ | refine as_set (i := 1) rfl ?_ | refine as_set (i := 2) rfl ?_ | refine as_set (i := 3) rfl ?_ | refine as_set (i := 4) rfl ?_ | refine as_set (i := 5) rfl ?_ | refine as_set (i := 6) rfl ?_ | refine as_set (i := 7) rfl ?_ | refine as_set (i := 8) rfl ?_ | refine as_set (i := 9) rfl ?_ | refine as_set (i := 10) rfl ?_ | refine as_set (i := 11) rfl ?_ | refine as_set (i := 12) rfl ?_ | refine as_set (i := 13) rfl ?_ | refine as_set (i := 14) rfl ?_ | refine as_set (i := 15) rfl ?_ | refine as_set (i := 16) rfl ?_ | refine as_set (i := 17) rfl ?_ | refine as_set (i := 18) rfl ?_ | refine as_set (i := 19) rfl ?_ | refine as_set (i := 20) rfl ?_ | refine as_set (i := 21) rfl ?_ | refine as_set (i := 22) rfl ?_ | refine as_set (i := 23) rfl ?_ | refine as_if ?_ | refine as_expr ?_ | refine as_retN ?_ | refine as_asg ?_ | refine as_addI (i := 0) rfl rfl ?_ | refine as_addI (i := 1) rfl rfl ?_ | refine as_addI (i := 2) rfl rfl ?_ | refine as_addI (i := 3) rfl rfl ?_ | refine as_addI (i := 4) rfl rfl ?_ | refine as_addI (i := 5) rfl rfl ?_ | refine as_addI (i := 6) rfl rfl ?_ | refine as_addI (i := 7) rfl rfl ?_ | refine as_addI (i := 8) rfl rfl ?_ | refine as_addI (i := 9) rfl rfl ?_ | refine as_addI (i := 10) rfl rfl ?_ | refine as_addI (i := 11) rfl rfl ?_ | refine as_addI (i := 12) rfl rfl ?_ | refine as_addI (i := 13) rfl rfl ?_ | refine as_addI (i := 14) rfl rfl ?_ | refine as_addI (i := 15) rfl rfl ?_ | refine as_addI (i := 16) rfl rfl ?_ | refine as_addI (i := 17) rfl rfl ?_ | refine as_addI (i := 18) rfl rfl ?_ | refine as_addI (i := 19) rfl rfl ?_ | refine as_addI (i := 20) rfl rfl ?_ | refine as_addI (i := 21) rfl rfl ?_ | refine as_addI (i := 22) rfl rfl ?_ | refine as_addI (i := 23) rfl rfl ?_ | refine as_pass ?_ | refine as_break ?_ | refine as_cont ?_))
local macro_rules | `(tactic| walk_at "ass") => `(tactic| (first | refine ass_nil ?_ | (walk_at "sn"; first | refine ass_one ?_ | refine ass_cons ?_)))
local macro_rules | `(tactic| walk_at "1") => `(tactic| (first | ((with_reducible show AE _ _ _ _); walk_at "e") | ((with_reducible show AC _ _ _ _ _ _); first | refine ac_eqU ?_ | refine ac_ltU ?_ | refine ac_inU ?_ | refine ac_notInU ?_ | refine ac_isN ?_ | refine ac_notN ?_ | refine ac_neU ?_ | refine ac_le ?_ | refine ac_ge ?_ | refine ac_gt ?_) | ((with_reducible show AT _ _ _ _); first | refine at_cmp ?_ | refine at_not ?_ | (refine at_w ?_; first | refine aw_and ?_ | refine aw_or ?_) | refine at_val ?_) | ((with_reducible show AW _ _ _ _); first | refine aw_and ?_ | refine aw_or ?_ | refine aw_and1 ?_ | refine aw_or1 ?_) | ((with_reducible show AA _ _ _ _); first | refine aa_nil ?_ | refine aa_cons ?_) | ((with_reducible show AO _ _ _ _); first | refine ao_none ?_ | refine ao_some ?_) | ((with_reducible show AS _ _ _ _); walk_at "as") | ((with_reducible show ASs _ _ _ _); walk_at "ass") | ((with_reducible show seqP _ _ _ _); walk_at "ass") | ((with_reducible show AG _ _ _ _ _); first | refine ag_name (i := 0) rfl ?_ | refine ag_name (i := 1) rfl ?_ | refine ag_name (i := 2) rfl ?_ | refine ag_name (i := 3) rfl ?_ | refine ag_name (i := 4) rfl ?_ | refine ag_name (i := 5) rfl ?_ | refine ag_name (i := 6) rfl ?_ | refine ag_name (i := 7) rfl ?_ | refine ag_name (i := 8) rfl ?_ | refine ag_name (i := 9) rfl ?_ | refine ag_name (i := 10) rfl ?_ | refine ag_name (i := 11) rfl ?_ | refine ag_name (i := 12) rfl ?_ | refine ag_name (i := 13) rfl ?_ | refine ag_name (i := 14) rfl ?_ | refine ag_name (i := 15) rfl ?_ | refine ag_name (i := 16) rfl ?_ | refine ag_name (i := 17) rfl ?_ | refine ag_name (i := 18) rfl ?_ | refine ag_name (i := 19) rfl ?_ | refine ag_name (i := 20) rfl ?_ | refine ag_name (i := 21) rfl ?_ | refine ag_name (i := 22) rfl ?_ | refine ag_name (i := 23) rfl ?_ | refine ag_tup ?_) | ((with_reducible show AGs _ _ _ _ _); first | refine ags_name (i := 0) rfl ?_ | refine ags_name (i := 1) rfl ?_ | refine ags_name (i := 2) rfl ?_ | refine ags_name (i := 3) rfl ?_ | refine ags_name (i := 4) rfl ?_ | refine ags_name (i := 5) rfl ?_ | refine ags_name (i := 6) rfl ?_ | refine ags_name (i := 7) rfl ?_ | refine ags_name (i := 8) rfl ?_ | refine ags_name (i := 9) rfl ?_ | refine ags_name (i := 10) rfl ?_ | refine ags_name (i := 11) rfl ?_ | refine ags_name (i := 12) rfl ?_ | refine ags_name (i := 13) rfl ?_ | refine ags_name (i := 14) rfl ?_ | refine ags_name (i := 15) rfl ?_ | refine ags_name (i := 16) rfl ?_ | refine ags_name (i := 17) rfl ?_ | refine ags_name (i := 18) rfl ?_ | refine ags_name (i := 19) rfl ?_ | refine ags_name (i := 20) rfl ?_ | refine ags_name (i := 21) rfl ?_ | refine ags_name (i := 22) rfl ?_ | refine ags_name (i := 23) rfl ?_ | refine ags_nil ?_) | walk_at "r"))
local macro_rules | `(tactic| walk_at "y") => `(tactic| (first | ((with_reducible show AE _ _ _ _); walk_at "e") | ((with_reducible show AC _ _ _ _ _ _); first | refine ac_eqU ?_ | refine ac_ltU ?_ | refine ac_inU ?_ | refine ac_notInU ?_ | refine ac_isN ?_ | refine ac_notN ?_ | refine ac_neU ?_ | refine ac_le ?_ | refine ac_ge ?_ | refine ac_gt ?_) | ((with_reducible show AT _ _ _ _); first | refine at_cmp ?_ | refine at_not ?_ | (refine at_w ?_; first | refine aw_and ?_ | refine aw_or ?_) | refine at_val ?_) | ((with_reducible show AW _ _ _ _); first | refine aw_and ?_ | refine aw_or ?_ | refine aw_and1 ?_ | refine aw_or1 ?_) | ((with_reducible show AA _ _ _ _); first | refine aa_nil ?_ | refine aa_cons ?_) | ((with_reducible show AO _ _ _ _); first | refine ao_none ?_ | refine ao_some ?_) | ((with_reducible show AG _ _ _ _ _); first | refine ag_name (i := 0) rfl ?_ | refine ag_name (i := 1) rfl ?_ | refine ag_name (i := 2) rfl ?_ | refine ag_name (i := 3) rfl ?_ | refine ag_name (i := 4) rfl ?_ | refine ag_name (i := 5) rfl ?_ | refine ag_name (i := 6) rfl ?_ | refine ag_name (i := 7) rfl ?_ | refine ag_name (i := 8) rfl ?_ | refine ag_name (i := 9) rfl ?_ | refine ag_name (i := 10) rfl ?_ | refine ag_name (i := 11) rfl ?_ | refine ag_name (i := 12) rfl ?_ | refine ag_name (i := 13) rfl ?_ | refine ag_name (i := 14) rfl ?_ | refine ag_name (i := 15) rfl ?_ | refine ag_name (i := 16) rfl ?_ | refine ag_name (i := 17) rfl ?_ | refine ag_name (i := 18) rfl ?_ | refine ag_name (i := 19) rfl ?_ | refine ag_name (i := 20) rfl ?_ | refine ag_name (i := 21) rfl ?_ | refine ag_name (i := 22) rfl ?_ | refine ag_name (i := 23) rfl ?_ | refine ag_tup ?_) | ((with_reducible show AGs _ _ _ _ _); first | refine ags_name (i := 0) rfl ?_ | refine ags_name (i := 1) rfl ?_ | refine ags_name (i := 2) rfl ?_ | refine ags_name (i := 3) rfl ?_ | refine ags_name (i := 4) rfl ?_ | refine ags_name (i := 5) rfl ?_ | refine ags_name (i := 6) rfl ?_ | refine ags_name (i := 7) rfl ?_ | refine ags_name (i := 8) rfl ?_ | refine ags_name (i := 9) rfl ?_ | refine ags_name (i := 10) rfl ?_ | refine ags_name (i := 11) rfl ?_ | refine ags_name (i := 12) rfl ?_ | refine ags_name (i := 13) rfl ?_ | refine ags_name (i := 14) rfl ?_ | refine ags_name (i := 15) rfl ?_ | refine ags_name (i := 16) rfl ?_ | refine ags_name (i := 17) rfl ?_ | refine ags_name (i := 18) rfl ?_ | refine ags_name (i := 19) rfl ?_ | refine ags_name (i := 20) rfl ?_ | refine ags_name (i := 21) rfl ?_ | refine ags_name (i := 22) rfl ?_ | refine ags_name (i := 23) rfl ?_ | refine ags_nil ?_) | ((fail_if_success (show ASs _ _ _ _)); walk_at "r")))
local macro_rules | `(tactic| walk_at "x") => `(tactic| (repeat walk_at "y"))
local macro_rules | `(tactic| walk_at "w") => `(tactic| (repeat walk_at "1"))
abbrev sChq : Stmt := topS 8
abbrev sChd : Stmt := topS 9
section
variable {P : Program} {w : World} {K : PySem.W.Frag} {mg : Str → Option Value} {base : Heap}
/-! ### check_part, check_condition -/
/-- whether a condition is valid, g telling the kinds of its free variables -/
def Cnd.val : Cnd → (List Nat → List Nat) → Bool
  | .at f a b, g => atV f (g a) (g b)
  | .no c, g => c.val g
  | .two _ c d, g => c.val g && d.val g
  | .qu _ w t c, g => (isVar w && decide (t = kName ∨ t = kThing ∨ t = kLength)) && c.val (fun x => if x = w then t else g x)
def R_chq (NC : Addr) (n : Nat) : SpecX := fun ds O P PE => ∃ (c : Cnd) (l : SPs), ds = [c.d, .ob 0] ∧ O = [.dct .a (sdD l)] ∧ c.Ok n ∧ KndL l ∧ l.length + n ≤ 1000 ∧ (c.val (gkd l) = true → P .non [.dct .a (sdD l)]) ∧ (c.val (gkd l) = false → PE (.ref NC) .non [.dct .a (sdD l)])
theorem mono_R_chq {NC : Addr} {n : Nat} : ∀ ds O Q Q' E E', (∀ d O', Q d O' → Q' d O') → (∀ cls p O', E cls p O' → E' cls p O') → R_chq NC n ds O Q E → R_chq NC n ds O Q' E' := fun ds O Q Q' E E' q qe h => match h with
  | ⟨c, l, h1, h2, h3, h4, h5, h6, h7⟩ => ⟨c, l, h1, h2, h3, h4, h5, fun b => q _ _ (h6 b), fun b => qe _ _ _ (h7 b)⟩
theorem sdD_bnd (l : SPs) (n : Nat) : Ob.bnd n (.dct .a (sdD l)) := by
  show D.bndL n ((sdD l).map (·.1) ++ (sdD l).map (·.2))
  have e1 : (sdD l).map (·.1) = l.map fun p => D.str p.1 := by unfold sdD; rw [List.map_map]; rfl
  have e2 : (sdD l).map (·.2) = l.map fun p => D.str p.2 := by unfold sdD; rw [List.map_map]; rfl
  rw [e1, e2, D.bndL_iff]
  intro d hd
  rcases List.mem_append.mp hd with q | q
  · obtain ⟨_, _, rfl⟩ := List.mem_map.mp q
    trivial
  · obtain ⟨_, _, rfl⟩ := List.mem_map.mp q
    trivial
abbrev nChq : List Str := ["condition", "kinds", "inner", "part"]
theorem scChq : FnScope nChq ["condition", "kinds"] (defScope sChq) := ⟨rfl, rfl, rfl, by decide +kernel, rfl, by decide +kernel, by decide +kernel⟩
theorem ok_chq_fn {n : Nat} {f NC : Addr} {fd : FuncData} (F : Fun K "check_part" "check_part" sChq f fd) (TX : XOwn K mg "NoCondition" NC) (md : mg "dict" = none) {KP : Addr} (hK : mg "KINDS" = some (.ref KP)) (rK : ∀ F os, Rp K F os (.ref KP) (.tup [.str kName, .str kThing, .str kLength]))
    (CV : CalA P w K mg base 1 "is_variable" R_isv) (CP : CalX P w K mg base 1 "check_pair" (R_chp NC)) (C : ∀ m, n = m + 1 → CalX P w K mg base (n + 1) "check_part" (R_chq NC m)) : FnOk P w K mg base (L2.CX P w) (n + 1 + 1) f fd ["condition", "kinds"] (spX w K (R_chq NC n)) := by
  refine fnX F scChq (by rintro ds O Q E ⟨c, l, rfl, _⟩; rfl) fun F0 H0 os0 ds O Q PE h => ?_
  obtain ⟨cd, l, rfl, rfl, hok, hl, hz, hq, he⟩ := h
  have sl : sizeLine = 16777216 := rfl
  have eSo : ("some" : Str) = S kSome := by decide +kernel
  have eEa : ("each" : Str) = S kEach := by decide +kernel
  have eNo : ("not" : Str) = S kNot := by decide +kernel
  have eBo : ("both" : Str) = S kBoth := by decide +kernel
  have eEi : ("either" : Str) = S kEither := by decide +kernel
  have i2 : ∀ f : List Nat, inD (.str f) [D.str kSome, .str kEach] = decide (f ∈ [kSome, kEach]) := fun f => inD_strs (l := [kSome, kEach])
  have i3 : ∀ f : List Nat, inD (.str f) [D.str kNot, .str kBoth, .str kEither] = decide (f ∈ [kNot, kBoth, kEither]) := fun f => inD_strs (l := [kNot, kBoth, kEither])
  -- the first test
  match cd, hok, hq, he with
  | .at f a b, ⟨hf, ha, hb⟩, hq, he =>
    unfold Cnd.d
    have hne : f ∉ [kSome, kEach] ∧ f ∉ [kNot, kBoth, kEither] := by
      rcases hf with rfl | rfl | rfl | rfl <;> decide
    walk_at "sn"
    refine ass_one (as_if (at_cmp (ac_inU (ae_ix ?_)))); walk_at "nm"; refine ae_int (is_i ⟨_, ix_t rfl, ae_tup (aa_cons (ae_str eSo (aa_cons (ae_str eEa (aa_nil ⟨le_sl (by simp), ?_⟩)))))⟩); refine in_q (.inr rfl) rfl (by walk_at "flat") (is_b ?_); rw [i2]
    rw [if_neg (by simpa using hne.1)]
    refine ass_one (as_if (at_cmp (ac_inU (ae_ix ?_)))); walk_at "nm"; refine ae_int (is_i ⟨_, ix_t rfl, ae_tup (aa_cons (ae_str eNo (aa_cons (ae_str eBo (aa_cons (ae_str eEi (aa_nil ⟨le_sl (by simp), ?_⟩)))))))⟩); refine in_q (.inr rfl) rfl (by walk_at "flat") (is_b ?_); rw [i3]
    rw [if_neg (by simpa using hne.2)]
    refine ass_one (as_expr (ae_callX1 0 CP (show 1 ≤ n + 1 from by omega) (aa_cons ?_)))
    walk_at "nm"
    refine aa_cons ?_
    walk_at "nm"
    refine aa_nil ⟨[(Cnd.at f a b).d, .ob 0], _, rfl, ⟨Cnd.bnd _ _, by unfold D.bnd; decide, trivial⟩, rfl, sdD_bnd _ _, f, a, b, l, rfl, rfl, hf, hl, fun hv => ?_, fun hv => ?_⟩
    · exact ⟨_, rfl, sdD_bnd _ _, trivial, _, _, .refl, hq hv⟩
    · exact ⟨_, rfl, sdD_bnd _ _, _, _, .refl, he hv⟩
  | .no c, ⟨m, hm, hc⟩, hq, he =>
    unfold Cnd.d
    walk_at "sn"
    refine ass_one (as_if (at_cmp (ac_inU (ae_ix ?_)))); walk_at "nm"; refine ae_int (is_i ⟨_, ix_t rfl, ae_tup (aa_cons (ae_str eSo (aa_cons (ae_str eEa (aa_nil ⟨le_sl (by simp), ?_⟩)))))⟩); refine in_q (.inr rfl) rfl (by walk_at "flat") (is_b ?_); rw [i2]
    rw [if_neg (by decide)]
    refine ass_one (as_if (at_cmp (ac_inU (ae_ix ?_)))); walk_at "nm"; refine ae_int (is_i ⟨_, ix_t rfl, ae_tup (aa_cons (ae_str eNo (aa_cons (ae_str eBo (aa_cons (ae_str eEi (aa_nil ⟨le_sl (by simp), ?_⟩)))))))⟩); refine in_q (.inr rfl) rfl (by walk_at "flat") (is_b ?_); rw [i3]
    rw [if_pos (by decide)]
    refine ass_one (as_for (ai_tup (ae_slT ?_)))
    walk_at "nm"
    refine is_t (ao_some (ae_int (is_i (ao_none ⟨[c.d], rfl, ?_⟩))))
    have ev : (Cnd.no c).val (gkd l) = c.val (gkd l) := rfl
    rw [ev] at hq he
    refine ⟨fun i s => ((0 < i → c.val (gkd l) = true) ∧ ∃ o : Option D, s = ⟨[some (.tup [.str kNot, c.d]), some (.ob 0), none, o], [.dct .a (sdD l)]⟩), ⟨fun h => by omega, none, rfl⟩, fun _ _ _ => trivial, ?_, ?_⟩
    · rintro i dd s hd ⟨_, o, rfl⟩
      have edd : dd = c.d := by
        have := List.mem_of_getElem? hd
        simpa using this
      subst edd
      refine ag_name (i := 3) rfl ?_
      walk_at "sn"
      refine ass_one (as_expr (ae_callX1 0 (C m hm) (Nat.le_refl _) (aa_cons ?_)))
      walk_at "nm"
      refine aa_cons ?_
      walk_at "nm"
      refine aa_nil ⟨[c.d, .ob 0], _, by show _ = [D.ren _ c.d, _]; rw [D.ren_closed (c.bnd 0)]; rfl, ⟨Cnd.bnd _ _, by unfold D.bnd; decide, trivial⟩, rfl, sdD_bnd _ _, c, l, rfl, rfl, hc, hl, by omega, fun hv => ?_, fun hv => ?_⟩
      · exact ⟨_, rfl, sdD_bnd _ _, trivial, _, .refl, fun _ => hv, _, rfl⟩
      · exact ⟨_, rfl, sdD_bnd _ _, _, _, .refl, he hv⟩
    · rintro s ⟨hv, o, rfl⟩
      exact ⟨_, _, .refl, hq (hv (by simp))⟩
  | .two f c d, ⟨hf, m, hm, hc, hd⟩, hq, he =>
    unfold Cnd.d
    have hne : f ∉ [kSome, kEach] ∧ f ∈ [kNot, kBoth, kEither] := by
      rcases hf with rfl | rfl <;> decide
    walk_at "sn"
    refine ass_one (as_if (at_cmp (ac_inU (ae_ix ?_)))); walk_at "nm"; refine ae_int (is_i ⟨_, ix_t rfl, ae_tup (aa_cons (ae_str eSo (aa_cons (ae_str eEa (aa_nil ⟨le_sl (by simp), ?_⟩)))))⟩); refine in_q (.inr rfl) rfl (by walk_at "flat") (is_b ?_); rw [i2]
    rw [if_neg (by simpa using hne.1)]
    refine ass_one (as_if (at_cmp (ac_inU (ae_ix ?_)))); walk_at "nm"; refine ae_int (is_i ⟨_, ix_t rfl, ae_tup (aa_cons (ae_str eNo (aa_cons (ae_str eBo (aa_cons (ae_str eEi (aa_nil ⟨le_sl (by simp), ?_⟩)))))))⟩); refine in_q (.inr rfl) rfl (by walk_at "flat") (is_b ?_); rw [i3]
    rw [if_pos (by simpa using hne.2)]
    refine ass_one (as_for (ai_tup (ae_slT ?_)))
    walk_at "nm"
    refine is_t (ao_some (ae_int (is_i (ao_none ⟨[c.d, d.d], rfl, ?_⟩))))
    have ev : (Cnd.two f c d).val (gkd l) = (c.val (gkd l) && d.val (gkd l)) := rfl
    rw [ev] at hq he
    refine ⟨fun i s => ((0 < i → c.val (gkd l) = true) ∧ (1 < i → d.val (gkd l) = true) ∧ ∃ o : Option D, s = ⟨[some (.tup [.str f, c.d, d.d]), some (.ob 0), none, o], [.dct .a (sdD l)]⟩), ⟨fun h => by omega, fun h => by omega, none, rfl⟩, fun _ _ _ => trivial, ?_, ?_⟩
    · rintro i dd s hd2 ⟨h0, h1, o, rfl⟩
      obtain ⟨e, ee, eok, egood, ebad⟩ : ∃ e : Cnd, dd = e.d ∧ e.Ok m ∧ (e.val (gkd l) = true → ((0 < i + 1 → c.val (gkd l) = true) ∧ (1 < i + 1 → d.val (gkd l) = true))) ∧ (e.val (gkd l) = false → (c.val (gkd l) && d.val (gkd l)) = false) := by
        match i, hd2 with
        | 0, hd2 =>
          cases hd2
          exact ⟨c, rfl, hc, fun q => ⟨fun _ => q, fun q => by omega⟩, fun q => by rw [q, Bool.false_and]⟩
        | 1, hd2 =>
          cases hd2
          exact ⟨d, rfl, hd, fun q => ⟨fun _ => h0 (by omega), fun _ => q⟩, fun q => by rw [q, Bool.and_false]⟩
      subst ee
      refine ag_name (i := 3) rfl ?_
      walk_at "sn"
      refine ass_one (as_expr (ae_callX1 0 (C m hm) (Nat.le_refl _) (aa_cons ?_)))
      walk_at "nm"
      refine aa_cons ?_
      walk_at "nm"
      refine aa_nil ⟨[e.d, .ob 0], _, by show _ = [D.ren _ e.d, _]; rw [D.ren_closed (e.bnd 0)]; rfl, ⟨Cnd.bnd _ _, by unfold D.bnd; decide, trivial⟩, rfl, sdD_bnd _ _, e, l, rfl, rfl, eok, hl, by omega, fun hv => ?_, fun hv => ?_⟩
      · exact ⟨_, rfl, sdD_bnd _ _, trivial, _, .refl, (egood hv).1, (egood hv).2, _, rfl⟩
      · exact ⟨_, rfl, sdD_bnd _ _, _, _, .refl, he (ebad hv)⟩
    · rintro s ⟨h0, h1, o, rfl⟩
      exact ⟨_, _, .refl, hq (by rw [h0 (by simp), h1 (by simp)]; rfl)⟩
  | .qu f w0 t c, ⟨hf, hw, ht, m, hm, hc⟩, hq, he =>
    unfold Cnd.d
    unfold Wd at hw ht
    have hne : f ∈ [kSome, kEach] := by
      rcases hf with rfl | rfl <;> decide
    walk_at "sn"
    refine ass_one (as_if (at_cmp (ac_inU (ae_ix ?_)))); walk_at "nm"; refine ae_int (is_i ⟨_, ix_t rfl, ae_tup (aa_cons (ae_str eSo (aa_cons (ae_str eEa (aa_nil ⟨le_sl (by simp), ?_⟩)))))⟩); refine in_q (.inr rfl) rfl (by walk_at "flat") (is_b ?_); rw [i2]
    rw [if_pos (by simpa using hne)]
    have ev : (Cnd.qu f w0 t c).val (gkd l) = ((isVar w0 && decide (t = kName ∨ t = kThing ∨ t = kLength)) && c.val (fun x => if x = w0 then t else gkd l x)) := rfl
    rw [ev] at hq he
    refine ass_cons (as_if (at_w (aw_or (at_not (at_val (ae_callP CV (show 1 ≤ n + 1 from by omega) (aa_cons (ae_ix ?_))))))))
    walk_at "nm"; refine ae_int (is_i ⟨_, ix_t rfl, ?_⟩)
    refine aa_nil ⟨⟨trivial, trivial⟩, w0, rfl, rfl, by omega, rfl, trivial, is_b ?_⟩
    refine ite2 (fun hc2 => ?_) (fun hc2 => ?_)
    · have e0 : isVar w0 = false := by simpa using hc2
      rw [e0] at he
      exact ass_one (as_raise TX ⟨_, _, .refl, he (by simp)⟩)
    have v1 : isVar w0 = true := by simpa using hc2
    refine aw_or1 (at_cmp (ac_notInU (ae_ix ?_)))
    walk_at "nm"; refine ae_int (is_i ⟨_, ix_t rfl, ?_⟩)
    refine ae_glob hK (show RelV (.ref KP) (.ref KP) from rfl) rK ?_
    refine in_q (.inr rfl) rfl (by walk_at "flat") (is_b ?_)
    rw [show inD (.str t) [D.str kName, .str kThing, .str kLength] = decide (t ∈ [kName, kThing, kLength]) from inD_strs (l := [kName, kThing, kLength])]
    refine ite2 (fun hc3 => ?_) (fun hc3 => ?_)
    · have e0 : ¬ (t = kName ∨ t = kThing ∨ t = kLength) := by simpa using hc3
      rw [decide_eq_false e0] at he
      exact ass_one (as_raise TX ⟨_, _, .refl, he (by simp)⟩)
    have v2 : t = kName ∨ t = kThing ∨ t = kLength := by
      rw [if_pos rfl] at hc3
      simp only [Bool.not_eq_true', decide_eq_false_iff_not, List.mem_cons, List.not_mem_nil, or_false] at hc3
      exact Decidable.not_not.mp hc3
    rw [v1, decide_eq_true v2, Bool.true_and, Bool.true_and] at hq he
    refine ass_nil ?_
    walk_at "sn"
    refine ass_cons (as_set (i := 2) rfl (ae_dictC md ?_))
    refine nm 1 ⟨0, l, rfl, rfl, ?_⟩
    refine (show seqP _ _ _ (.nx ⟨[some (.tup [.str f, .str w0, .str t, c.d]), some (.ob 0), some (.ob 1), none], [.dct .a (sdD l), .dct .a (sdD l)]⟩) from ?_)
    walk_at "sn"
    refine ass_cons (as_sdput (ae_ix ?_))
    walk_at "nm"; refine ae_int (is_i ⟨_, ix_t rfl, ?_⟩)
    walk_at "nm"
    refine ae_ix ?_
    walk_at "nm"; refine ae_int (is_i ⟨_, ix_t rfl, ?_⟩)
    refine ⟨1, l, w0, t, rfl, rfl, rfl, rfl, by omega, ?_⟩
    refine (show seqP _ _ _ (.nx ⟨[some (.tup [.str f, .str w0, .str t, c.d]), some (.ob 0), some (.ob 1), none], [.dct .a (sdD l), .dct .a (sdD (sdput l w0 t))]⟩) from ?_)
    walk_at "sn"
    have eg : (fun x => if x = w0 then t else gkd l x) = gkd (sdput l w0 t) := (gkd_put l w0 t).symm
    rw [eg] at hq he
    have hl2 := sdput_len l w0 t
    refine ass_one (as_expr (ae_callX1 1 (C m hm) (Nat.le_refl _) (aa_cons (ae_ix ?_))))
    walk_at "nm"; refine ae_int (is_i ⟨_, ix_t rfl, ?_⟩)
    refine aa_cons ?_
    walk_at "nm"
    refine aa_nil ⟨[c.d, .ob 0], _, by show _ = [D.ren _ c.d, _]; rw [D.ren_closed (c.bnd 0)]; rfl, ⟨Cnd.bnd _ _, by unfold D.bnd; decide, trivial⟩, rfl, sdD_bnd _ _, c, sdput l w0 t, rfl, rfl, hc, kndL_put hl v2, by omega, fun hv => ?_, fun hv => ?_⟩
    · exact ⟨_, rfl, sdD_bnd _ _, trivial, _, _, .cut 1 (Nat.le_refl _) trivial (by intro ob hob; simp at hob; subst hob; exact sdD_bnd _ _), hq hv⟩
    · exact ⟨_, rfl, sdD_bnd _ _, _, _, .cut 1 (Nat.le_refl _) trivial (by intro ob hob; simp at hob; subst hob; exact sdD_bnd _ _), he hv⟩
theorem ok_chq {f NC : Addr} {fd : FuncData} (F : Fun K "check_part" "check_part" sChq f fd) (hm : mg "check_part" = some (.ref f)) (kp : PySem.W.keepIn K (.ref f) = true) (hb : Binds K fd ["condition", "kinds"] []) (TX : XOwn K mg "NoCondition" NC) (md : mg "dict" = none) {KP : Addr} (hK : mg "KINDS" = some (.ref KP)) (rK : ∀ F os, Rp K F os (.ref KP) (.tup [.str kName, .str kThing, .str kLength]))
    (CV : CalA P w K mg base 1 "is_variable" R_isv) (CP : CalX P w K mg base 1 "check_pair" (R_chp NC)) : ∀ n, CalX P w K mg base (n + 2) "check_part" (R_chq NC n)
  | 0 => .mk' F (ok_chq_fn F TX md hK rK CV CP fun m h => by cases h) hm kp hb mono_R_chq
  | n + 1 => .mk' F (ok_chq_fn F TX md hK rK CV CP fun m h => by
      cases h
      exact ok_chq F hm kp hb TX md hK rK CV CP n) hm kp hb mono_R_chq
/-- told kinds -/
def R_chd (NC : Addr) (n : Nat) : SpecX := fun ds O P PE => ∃ (c : Cnd) (l : SPs), ds = [c.d, .ob 0] ∧ O = [.ext ptX (l.map prS)] ∧ c.Ok n ∧ KndL l ∧ l.length ≤ 900 ∧ n ≤ 20 ∧ (c.val (gkd (sdAll l)) = true → P .non [.ext ptX (l.map prS)]) ∧ (c.val (gkd (sdAll l)) = false → PE (.ref NC) .non [.ext ptX (l.map prS)])
theorem mono_R_chd {NC : Addr} {n : Nat} : ∀ ds O Q Q' E E', (∀ d O', Q d O' → Q' d O') → (∀ cls p O', E cls p O' → E' cls p O') → R_chd NC n ds O Q E → R_chd NC n ds O Q' E' := fun ds O Q Q' E E' q qe h => match h with
  | ⟨c, l, h1, h2, h3, h4, h5, h6, h7, h8⟩ => ⟨c, l, h1, h2, h3, h4, h5, h6, fun b => q _ _ (h7 b), fun b => qe _ _ _ (h8 b)⟩
theorem sdAll_ok : ∀ (l : SPs), KndL l → KndL (sdAll l) ∧ (sdAll l).length ≤ l.length := by
  have go : ∀ (l a : SPs), KndL l → KndL a → KndL (l.foldl (fun acc p => sdput acc p.1 p.2) a) ∧ (l.foldl (fun acc p => sdput acc p.1 p.2) a).length ≤ a.length + l.length := by
    intro l
    induction l with
    | nil => intro a _ h; exact ⟨h, Nat.le_refl _⟩
    | cons p l ih =>
      intro a h1 h2
      obtain ⟨q1, q2⟩ := ih (sdput a p.1 p.2) (fun q hq => h1 q (by simp [hq])) (kndL_put h2 (h1 p (by simp)))
      have := sdput_len a p.1 p.2
      refine ⟨q1, ?_⟩
      rw [List.length_cons]
      show (List.foldl _ (sdput a p.1 p.2) l).length ≤ _
      omega
  intro l h
  obtain ⟨q1, q2⟩ := go l [] h (fun _ h => by cases h)
  refine ⟨q1, ?_⟩
  unfold sdAll
  simpa using q2
theorem ptX_bnd (l : SPs) (n : Nat) : Ob.bnd n (.ext ptX (l.map prS)) := bndL_map fun p => by unfold prS D.bnd; exact ⟨trivial, trivial, trivial⟩
abbrev nChd : List Str := ["condition", "free"]
theorem scChd : FnScope nChd ["condition", "free"] (defScope sChd) := ⟨rfl, rfl, rfl, by decide +kernel, rfl, by decide +kernel, by decide +kernel⟩
theorem ok_chd {n : Nat} {f NC : Addr} {fd : FuncData} {k : Nat} (F : Fun K "check_condition" "check_condition" sChd f fd) (md : mg "dict" = none) (C : CalX P w K mg base k "check_part" (R_chq NC n)) : FnOk P w K mg base (L2.CX P w) (k + 1) f fd ["condition", "free"] (spX w K (R_chd NC n)) := by
  refine fnX F scChd (by rintro ds O Q E ⟨c, l, rfl, _⟩; rfl) fun F0 H0 os0 ds O Q PE h => ?_
  obtain ⟨c, l, rfl, rfl, hok, hl, hz, hn, hq, he⟩ := h
  obtain ⟨q1, q2⟩ := sdAll_ok l hl
  walk_at "sn"
  refine ass_one (as_expr (ae_callX1 1 C (Nat.le_refl _) (aa_cons ?_)))
  walk_at "nm"
  refine aa_cons (ae_dictP md ?_)
  refine nm 1 ⟨0, l, rfl, rfl, ?_⟩
  refine aa_nil ⟨[c.d, .ob 0], .dct .a (sdD (sdAll l)), by show _ = [D.ren _ c.d, _]; rw [D.ren_closed (c.bnd 0)]; rfl, ⟨Cnd.bnd _ _, by unfold D.bnd; decide, trivial⟩, rfl, sdD_bnd _ _, c, sdAll l, rfl, rfl, hok, q1, by omega, fun hv => ?_, fun hv => ?_⟩
  · exact ⟨_, rfl, sdD_bnd _ _, trivial, _, _, .cut 1 (Nat.le_refl _) trivial (by intro ob hob; simp at hob; subst hob; exact ptX_bnd _ _), hq hv⟩
  · exact ⟨_, rfl, sdD_bnd _ _, _, _, .cut 1 (Nat.le_refl _) trivial (by intro ob hob; simp at hob; subst hob; exact ptX_bnd _ _), he hv⟩

end
end G9

namespace G9
open PySem PySem.Spec PyProof.Rows L2
local macro_rules | `(tactic| walk_at "sn") => `(tactic| (first | (refine ass_at2 (by simp only [List.set_cons_zero, List.set_cons_succ, List.cons_append, List.nil_append, List.length_cons, List.length_nil, Nat.zero_add, Nat.reduceAdd, List.map_nil, List.append_nil, start, List.map_cons, List.replicate, Nat.reduceSub, Nat.sub_zero]; exact NF.rfl') ?_) | (show ASs _ _ _ _)))
local macro_rules | `(tactic| walk_at "sz") => `(tactic| (first | omega | (simp only [List.length_append, List.length_cons, List.length_nil, List.length_map, List.length_range]; omega) | exact le_sl (by simp; done) | (simp; omega)))
local macro_rules | `(tactic| walk_at "flat") => `(tactic| (first | rfl | exact all_flat_strs _ | exact all_flat_ints _ | exact all_flat_nD _))
local macro_rules | `(tactic| walk_at "nm") => `(tactic| (first | refine nm 0 ?_ | refine nm 1 ?_ | refine nm 2 ?_ | refine nm 3 ?_ | refine nm 4 ?_ | refine nm 5 ?_ | refine nm 6 ?_ | refine nm 7 ?_ | refine nm 8 ?_ | refine nm 9 ?_ | refine nm 10 ?_ | refine nm 11 ?_ | refine nm 12 ?_ | refine nm 13 ?_ | refine nm 14 ?_ | refine nm 15 ?_ | refine nm 16 ?_ | refine nm 17 ?_ | refine nm 18 ?_ | refine nm 19 ?_ | refine nm 20 ?_ | refine nm 21 ?_ | refine nm 22 ?_ | refine nm 23 ?_))
local macro_rules | `(tactic| walk_at "e") => `(tactic| (first | walk_at "nm" | refine ae_int ?_ | refine ae_plus ?_ | refine ae_cmp ?_ | refine ae_dcall 0 0 (by assumption) (Nat.le_refl _) rfl rfl ?_ | refine ae_dcall 1 0 (by assumption) (Nat.le_refl _) rfl rfl ?_ | refine ae_callP (by assumption) (Nat.le_refl _) ?_ | refine ae_slU ?_ | refine ae_subU ?_ | refine ae_str eNil ?_ | refine ae_str (by assumption) ?_ | refine ae_len (by assumption) ?_ | refine ae_sub ?_ | refine ae_mul ?_ | refine ae_tup ?_ | refine ae_tupleOf (by assumption) ?_ | refine ae_max2 (by assumption) ?_ | refine ae_min2 (by assumption) ?_ | refine ae_bl ?_ | refine ae_non ?_ | refine ae_not ?_ | refine ae_and ?_ | refine ae_or ?_ | refine ae_one ?_ | refine ae_mod ?_ | refine ae_fdiv ?_ | refine ae_neg ?_ | refine ae_if ?_ | refine ae_toInt (by assumption) ?_ | refine ae_all (by assumption) ?_ | refine ae_any (by assumption) ?_))
local macro_rules | `(tactic| walk_at "r") => `(tactic| (first | refine is_i ?_ | refine is_b ?_ | refine is_s ?_ | refine is_t ?_ | refine add_i ?_ | refine add_s (by walk_at "sz") ?_ | refine add_t (by walk_at "sz") ?_ | refine lt_i ?_ | refine lt_s ?_ | refine sub_i (ix_t rfl) ?_ | refine sub_i (ix_l rfl) ?_ | refine sub_i (ix_o rfl rfl) ?_ | refine sub_i (ix_t (by assumption)) ?_ | refine sub_i (ix_l (by assumption)) ?_ | refine sub_i (ix_o (by assumption) (by assumption)) ?_ | refine sub_s (by walk_at "sz") (by assumption) ?_ | refine eq_k rfl ?_ | refine in_q (.inr rfl) rfl (by walk_at "flat") ?_ | refine in_q (.inl (.inl rfl)) rfl (by walk_at "flat") ?_ | refine in_q (.inl (.inr ⟨_, rfl, rfl⟩)) rfl (by walk_at "flat") ?_ | refine slc_s (by walk_at "sz") ?_ | refine slc_t ?_ | refine slc_l (.inl rfl) ?_ | refine slc_l (.inr ⟨_, rfl, rfl⟩) ?_ | refine in_s ?_ | refine ⟨_, len_s (by walk_at "sz"), ?_⟩ | refine ⟨_, len_t, ?_⟩ | refine ⟨_, len_l, ?_⟩ | refine ⟨_, len_o rfl, ?_⟩ | refine ⟨_, len_o (by assumption), ?_⟩ | refine ⟨_, rfl, ?_⟩ | refine ⟨_, .inl rfl, ?_⟩ | refine ⟨_, .inr ⟨_, rfl, rfl⟩, ?_⟩ | refine ⟨le_sl (by simp), ?_⟩ | refine ⟨.inl ⟨by omega, by omega⟩, ?_⟩))
local macro_rules | `(tactic| walk_at "as") => `(tactic| (first | refine as_ret ?_ | refine as_set (i := 0) rfl ?_ | refine as_set (i := 1) rfl ?_ | refine as_set (i := 2) rfl ?_ | refine as_set (i := 3) rfl ?_ | refine as_set (i := 4) rfl ?_ | refine as_set (i := 5) rfl ?_ | refine as_set (i := 6) rfl ?_ | refine as_set (i := 7) rfl ?_ | refine as_set (i := 8) rfl ?_ | refine as_set (i := 9) rfl ?_ | refine as_set (i := 10) rfl ?_ | refine as_set (i := 11) rfl ?_ | refine as_set (i := 12) rfl ?_ | refine as_set (i := 13) rfl ?_ | refine as_set (i := 14) rfl ?_ | refine as_set (i := 15) rfl ?_ | refine as_set (i := 16) rfl ?_ | refine as_set (i := 17) rfl ?_ | refine as_set (i := 18) rfl ?_ | refine as_set (i := 19) rfl ?_ | refine as_set (i := 20) rfl ?_ | refine as_set (i := 21) rfl ?_ | refine as_set (i := 22) rfl ?_ | refine as_set (i := 23) rfl ?_ | refine as_if ?_ | refine as_expr ?_ | refine as_retN ?_ | refine as_asg ?_ | refine as_addI (i := 0) rfl rfl ?_ | refine as_addI (i := 1) rfl rfl ?_ | refine as_addI (i := 2) rfl rfl ?_ | refine as_addI (i := 3) rfl rfl ?_ | refine as_addI (i := 4) rfl rfl ?_ | refine as_addI (i := 5) rfl rfl ?_ | refine as_addI (i := 6) rfl rfl ?_ | refine as_addI (i := 7) rfl rfl ?_ | refine as_addI (i := 8) rfl rfl ?_ | refine as_addI (i := 9) rfl rfl ?_ | refine as_addI (i := 10) rfl rfl ?_ | refine as_addI (i := 11) rfl rfl ?_ | refine as_addI (i := 12) rfl rfl ?_ | refine as_addI (i := 13) rfl rfl ?_ | refine as_addI (i := 14) rfl rfl ?_ | refine as_addI (i := 15) rfl rfl ?_ | refine as_addI (i := 16) rfl rfl ?_ | refine as_addI (i := 17) rfl rfl ?_ | refine as_addI (i := 18) rfl rfl ?_ | refine as_addI (i := 19) rfl rfl ?_ | refine as_addI (i := 20) rfl rfl ?_ | refine as_addI (i := 21) rfl rfl ?_ | refine as_addI (i := 22) rfl rfl ?_ | refine as_addI (i := 23) rfl rfl ?_ | refine as_pass ?_ | refine as_break ?_ | refine as_cont ?_))
local macro_rules | `(tactic| walk_at "ass") => `(tactic| (first | refine ass_nil ?_ | (walk_at "sn"; first | refine ass_one ?_ | refine ass_cons ?_)))
local macro_rules | `(tactic| walk_at "1") => `(tactic| (first | ((with_reducible show AE _ _ _ _); walk_at "e") | ((with_reducible show AC _ _ _ _ _ _); first | refine ac_eqU ?_ | refine ac_ltU ?_ | refine ac_inU ?_ | refine ac_notInU ?_ | refine ac_isN ?_ | refine ac_notN ?_ | refine ac_neU ?_ | refine ac_le ?_ | refine ac_ge ?_ | refine ac_gt ?_) | ((with_reducible show AT _ _ _ _); first | refine at_cmp ?_ | refine at_not ?_ | (refine at_w ?_; first | refine aw_and ?_ | refine aw_or ?_) | refine at_val ?_) | ((with_reducible show AW _ _ _ _); first | refine aw_and ?_ | refine aw_or ?_ | refine aw_and1 ?_ | refine aw_or1 ?_) | ((with_reducible show AA _ _ _ _); first | refine aa_nil ?_ | refine aa_cons ?_) | ((with_reducible show AO _ _ _ _); first | refine ao_none ?_ | refine ao_some ?_) | ((with_reducible show AS _ _ _ _); walk_at "as") | ((with_reducible show ASs _ _ _ _); walk_at "ass") | ((with_reducible show seqP _ _ _ _); walk_at "ass") | ((with_reducible show AG _ _ _ _ _); first | refine ag_name (i := 0) rfl ?_ | refine ag_name (i := 1) rfl ?_ | refine ag_name (i := 2) rfl ?_ | refine ag_name (i := 3) rfl ?_ | refine ag_name (i := 4) rfl ?_ | refine ag_name (i := 5) rfl ?_ | refine ag_name (i := 6) rfl ?_ | refine ag_name (i := 7) rfl ?_ | refine ag_name (i := 8) rfl ?_ | refine ag_name (i := 9) rfl ?_ | refine ag_name (i := 10) rfl ?_ | refine ag_name (i := 11) rfl ?_ | refine ag_name (i := 12) rfl ?_ | refine ag_name (i := 13) rfl ?_ | refine ag_name (i := 14) rfl ?_ | refine ag_name (i := 15) rfl ?_ | refine ag_name (i := 16) rfl ?_ | refine ag_name (i := 17) rfl ?_ | refine ag_name (i := 18) rfl ?_ | refine ag_name (i := 19) rfl ?_ | refine ag_name (i := 20) rfl ?_ | refine ag_name (i := 21) rfl ?_ | refine ag_name (i := 22) rfl ?_ | refine ag_name (i := 23) rfl ?_ | refine ag_tup ?_) | ((with_reducible show AGs _ _ _ _ _); first | refine ags_name (i := 0) rfl ?_ | refine ags_name (i := 1) rfl ?_ | refine ags_name (i := 2) rfl ?_ | refine ags_name (i := 3) rfl ?_ | refine ags_name (i := 4) rfl ?_ | refine ags_name (i := 5) rfl ?_ | refine ags_name (i := 6) rfl ?_ | refine ags_name (i := 7) rfl ?_ | refine ags_name (i := 8) rfl ?_ | refine ags_name (i := 9) rfl ?_ | refine ags_name (i := 10) rfl ?_ | refine ags_name (i := 11) rfl ?_ | refine ags_name (i := 12) rfl ?_ | refine ags_name (i := 13) rfl ?_ | refine ags_name (i := 14) rfl ?_ | refine ags_name (i := 15) rfl ?_ | refine ags_name (i := 16) rfl ?_ | refine ags_name (i := 17) rfl ?_ | refine ags_name (i := 18) rfl ?_ | refine ags_name (i := 19) rfl ?_ | refine ags_name (i := 20) rfl ?_ | refine ags_name (i := 21) rfl ?_ | refine ags_name (i := 22) rfl ?_ | refine ags_name (i := 23) rfl ?_ | refine ags_nil ?_) | walk_at "r"))
local macro_rules | `(tactic| walk_at "y") => `(tactic| (first | ((with_reducible show AE _ _ _ _); walk_at "e") | ((with_reducible show AC _ _ _ _ _ _); first | refine ac_eqU ?_ | refine ac_ltU ?_ | refine ac_inU ?_ | refine ac_notInU ?_ | refine ac_isN ?_ | refine ac_notN ?_ | refine ac_neU ?_ | refine ac_le ?_ | refine ac_ge ?_ | refine ac_gt ?_) | ((with_reducible show AT _ _ _ _); first | refine at_cmp ?_ | refine at_not ?_ | (refine at_w ?_; first | refine aw_and ?_ | refine aw_or ?_) | refine at_val ?_) | ((with_reducible show AW _ _ _ _); first | refine aw_and ?_ | refine aw_or ?_ | refine aw_and1 ?_ | refine aw_or1 ?_) | ((with_reducible show AA _ _ _ _); first | refine aa_nil ?_ | refine aa_cons ?_) | ((with_reducible show AO _ _ _ _); first | refine ao_none ?_ | refine ao_some ?_) | ((with_reducible show AG _ _ _ _ _); first | refine ag_name (i := 0) rfl ?_ | refine ag_name (i := 1) rfl ?_ | refine ag_name (i := 2) rfl ?_ | refine ag_name (i := 3) rfl ?_ | refine ag_name (i := 4) rfl ?_ | refine ag_name (i := 5) rfl ?_ | refine ag_name (i := 6) rfl ?_ | refine ag_name (i := 7) rfl ?_ | refine ag_name (i := 8) rfl ?_ | refine ag_name (i := 9) rfl ?_ | refine ag_name (i := 10) rfl ?_ | refine ag_name (i := 11) rfl ?_ | refine ag_name (i := 12) rfl ?_ | refine ag_name (i := 13) rfl ?_ | refine ag_name (i := 14) rfl ?_ | refine ag_name (i := 15) rfl ?_ | refine ag_name (i := 16) rfl ?_ | refine ag_name (i := 17) rfl ?_ | refine ag_name (i := 18) rfl ?_ | refine ag_name (i := 19) rfl ?_ | refine ag_name (i := 20) rfl ?_ | refine ag_name (i := 21) rfl ?_ | refine ag_name (i := 22) rfl ?_ | refine ag_name (i := 23) rfl ?_ | refine ag_tup ?_) | ((with_reducible show AGs _ _ _ _ _); first | refine ags_name (i := 0) rfl ?_ | refine ags_name (i := 1) rfl ?_ | refine ags_name (i := 2) rfl ?_ | refine ags_name (i := 3) rfl ?_ | refine ags_name (i := 4) rfl ?_ | refine ags_name (i := 5) rfl ?_ | refine ags_name (i := 6) rfl ?_ | refine ags_name (i := 7) rfl ?_ | refine ags_name (i := 8) rfl ?_ | refine ags_name (i := 9) rfl ?_ | refine ags_name (i := 10) rfl ?_ | refine ags_name (i := 11) rfl ?_ | refine ags_name (i := 12) rfl ?_ | refine ags_name (i := 13) rfl ?_ | refine ags_name (i := 14) rfl ?_ | refine ags_name (i := 15) rfl ?_ | refine ags_name (i := 16) rfl ?_ | refine ags_name (i := 17) rfl ?_ | refine ags_name (i := 18) rfl ?_ | refine ags_name (i := 19) rfl ?_ | refine ags_name (i := 20) rfl ?_ | refine ags_name (i := 21) rfl ?_ | refine ags_name (i := 22) rfl ?_ | refine ags_name (i := 23) rfl ?_ | refine ags_nil ?_) | ((fail_if_success (show ASs _ _ _ _)); walk_at "r")))
local macro_rules | `(tactic| walk_at "x") => `(tactic| (repeat walk_at "y"))
local macro_rules | `(tactic| walk_at "w") => `(tactic| (repeat walk_at "1"))
abbrev sLko : Stmt := topS 17
abbrev sLil : Stmt := topS 18
abbrev sLval : Stmt := topS 19
section
variable {P : Program} {w : World} {K : PySem.W.Frag} {mg : Str → Option Value} {base : Heap}
/-! ### _law_kind_of, _law_is_letters, _law_valid -/
/-- the last pair counts -/
def lastK (l : SPs) (x : List Nat) : List Nat := l.foldl (fun a p => if p.1 = x then p.2 else a) []
theorem lastK_snoc (l : SPs) (p : List Nat × List Nat) (x : List Nat) : lastK (l ++ [p]) x = if p.1 = x then p.2 else lastK l x := by
  unfold lastK
  rw [List.foldl_append]
  rfl
theorem lastK_all (l : SPs) : gkd (sdAll l) = lastK l := by
  have go : ∀ (l a : SPs) (x : List Nat), gkd (l.foldl (fun acc p => sdput acc p.1 p.2) a) x = l.foldl (fun a p => if p.1 = x then p.2 else a) (gkd a x) := by
    intro l
    induction l with
    | nil => intro a x; rfl
    | cons p l ih =>
      intro a x
      show gkd (List.foldl _ (sdput a p.1 p.2) l) x = List.foldl _ (if p.1 = x then p.2 else gkd a x) l
      rw [ih, gkd_put]
      have : (if x = p.1 then p.2 else gkd a x) = (if p.1 = x then p.2 else gkd a x) := by
        by_cases e : x = p.1
        · rw [if_pos e, if_pos e.symm]
        · rw [if_neg e, if_neg fun q => e q.symm]
      show List.foldl _ (if x = p.1 then p.2 else gkd a x) l = _
      rw [this]
  funext x
  exact go l [] x
theorem prS_bnd (l : SPs) (i : Nat) : D.bnd i (.lst (l.map prS)) := by
  unfold D.bnd
  exact bndL_map fun p => by unfold prS D.bnd; exact ⟨trivial, trivial, trivial⟩
def R_lko : Spec := fun ds O P => ∃ (l : SPs) (x : List Nat), ds = [.lst (l.map prS), .str x] ∧ O = [] ∧ P (.str (lastK l x)) []
theorem mono_R_lko : ∀ ds O Q Q', (∀ d O', Q d O' → Q' d O') → R_lko ds O Q → R_lko ds O Q' := fun ds O Q Q' q h => match h with
  | ⟨l, x, h1, h2, h3⟩ => ⟨l, x, h1, h2, q _ _ h3⟩
abbrev nLko : List Str := ["kinds", "variable", "kind", "pair"]
theorem scLko : FnScope nLko ["kinds", "variable"] (defScope sLko) := ⟨rfl, rfl, rfl, by decide +kernel, rfl, by decide +kernel, by decide +kernel⟩
theorem ok_lko {f : Addr} {fd : FuncData} {k : Nat} (F : Fun K "_law_kind_of" "_law_kind_of" sLko f fd) : FnOk P w K mg base CX0 (k + 1) f fd ["kinds", "variable"] (spA w K R_lko) := by
  refine fnA F scLko (by rintro ds O Q ⟨l, x, rfl, _⟩; rfl) fun F0 H0 os0 ds O Q h => ?_
  obtain ⟨l, x, rfl, rfl, hq⟩ := h
  refine ass_cons (as_set (i := 2) rfl (ae_str eNil ?_))
  walk_at "sn"
  refine ass_cons (as_for (ai_list ?_))
  refine nm 0 (.inl ⟨_, rfl, fun i s => ∃ o : Option D, s = ⟨[some (.lst (l.map prS)), some (.str x), some (.str (lastK (l.take i) x)), o], []⟩, ⟨none, rfl⟩, fun _ _ _ => trivial, ?_, ?_⟩)
  · rintro i dd s hd ⟨o, rfl⟩
    obtain ⟨p, hp, rfl⟩ := map_at hd
    have et : l.take (i + 1) = l.take i ++ [p] := by rw [List.take_add_one, hp]; rfl
    refine ag_name (i := 3) rfl ?_
    walk_at "sn"
    refine ass_one (as_if (at_cmp (ac_eqU (ae_ix ?_))))
    refine nm 3 (ae_int (is_i ⟨_, ix_t rfl, ?_⟩))
    refine nm 1 (eq_k rfl (is_b ?_))
    refine ite2 (fun hc => ?_) (fun hc => ?_)
    · have e : p.1 = x := by simpa using hc
      refine ass_one (as_set (i := 2) rfl (ae_ix ?_))
      refine nm 3 (ae_int (is_i ⟨_, ix_t rfl, ?_⟩))
      refine ⟨_, .refl, some (prS p), ?_⟩
      rw [et, lastK_snoc, if_pos e]
      rfl
    · have e : ¬ p.1 = x := by simpa using hc
      refine ass_nil ⟨_, .refl, some (prS p), ?_⟩
      rw [et, lastK_snoc, if_neg e]
  · rintro s ⟨o, rfl⟩
    rw [List.take_of_length_le (by rw [List.length_map]; exact Nat.le_refl _)]
    walk_at "sn"
    refine ass_one (as_ret ?_)
    refine nm 2 ⟨_, _, .refl, hq⟩
abbrev nLil : List Str := ["text", "char"]
theorem scLil : FnScope nLil ["text"] (defScope sLil) := ⟨rfl, rfl, rfl, by decide +kernel, rfl, by decide +kernel, by decide +kernel⟩
theorem ok_lil {f : Addr} {fd : FuncData} {k : Nat} (F : Fun K "_law_is_letters" "_law_is_letters" sLil f fd) : FnOk P w K mg base CX0 (k + 1) f fd ["text"] (spA w K R_isv) := by
  refine fnA F scLil (by rintro ds O Q ⟨t, rfl, _⟩; rfl) fun F0 H0 os0 ds O Q h => ?_
  obtain ⟨t, rfl, rfl, ht, hq⟩ := h
  unfold isVar at hq
  refine ass_cons (as_if (at_cmp (ac_eqU ?_)))
  refine nm 0 (ae_str eNil (eq_k rfl (is_b ?_)))
  refine ite2 (fun hc => ?_) (fun hc => ?_)
  · have e : t = [] := by simpa using hc
    rw [decide_eq_true e] at hq
    exact ass_one (as_ret (ae_bl ⟨_, _, .refl, hq⟩))
  have e : ¬ t = [] := by simpa using hc
  rw [decide_eq_false e, Bool.not_false, Bool.true_and] at hq
  refine ass_nil ?_
  walk_at "sn"
  refine ass_cons (as_for (ai_str ?_))
  refine nm 0 (is_s ?_)
  refine ⟨fun i s => (t.take i).all (fun k => decide (k ∈ LET)) = true ∧ ∃ o : Option D, s = ⟨[some (.str t), o], []⟩, ⟨by simp, none, rfl⟩, fun _ _ _ => trivial, ?_, ?_⟩
  · rintro i dd s hd ⟨hall, o, rfl⟩
    obtain ⟨y, hy, rfl⟩ := map_at hd
    refine ag_name (i := 1) rfl ?_
    walk_at "sn"
    refine ass_one (as_if (at_cmp (ac_notInU ?_)))
    refine nm 1 (ae_str eLET (in_s (is_b ?_)))
    refine ite2 (fun hc => ?_) (fun hc => ?_)
    · have ey : ¬ y ∈ LET := by simpa using hc
      have ea : t.all (fun k => decide (k ∈ LET)) = false := by
        cases z : t.all (fun k => decide (k ∈ LET)) with
        | false => rfl
        | true => exact absurd (of_decide_eq_true (List.all_eq_true.mp z y (List.mem_of_getElem? hy))) ey
      rw [ea] at hq
      exact ass_one (as_ret (ae_bl ⟨_, _, .refl, hq⟩))
    · have ey : y ∈ LET := by
        rw [if_pos rfl] at hc
        simp only [Bool.not_eq_true', decide_eq_false_iff_not] at hc
        exact Decidable.not_not.mp hc
      refine ass_nil ⟨_, .refl, ?_, some (.str [y]), rfl⟩
      rw [List.take_add_one, hy]
      simp [hall, ey]
  · rintro s ⟨hall, o, rfl⟩
    rw [List.take_of_length_le (by unfold signs; rw [List.length_map]; exact Nat.le_refl _)] at hall
    rw [hall] at hq
    exact ass_one (as_ret (ae_bl ⟨_, _, .refl, hq⟩))
def R_lval (n : Nat) : Spec := fun ds O P => ∃ (c : Cnd) (l : SPs), ds = [c.d, .lst (l.map prS)] ∧ O = [] ∧ c.Ok n ∧ l.length + n ≤ 1000 ∧ P (.bl (c.val (lastK l))) []
theorem mono_R_lval {n : Nat} : ∀ ds O Q Q', (∀ d O', Q d O' → Q' d O') → R_lval n ds O Q → R_lval n ds O Q' := fun ds O Q Q' q h => match h with
  | ⟨c, l, h1, h2, h3, h4, h5⟩ => ⟨c, l, h1, h2, h3, h4, q _ _ h5⟩
abbrev nLval : List Str := ["condition", "kinds", "form", "part", "left", "right"]
theorem scLval : FnScope nLval ["condition", "kinds"] (defScope sLval) := ⟨rfl, rfl, rfl, by decide +kernel, rfl, by decide +kernel, by decide +kernel⟩
theorem ok_lval_fn {n : Nat} {f : Addr} {fd : FuncData} (F : Fun K "_law_valid" "_law_valid" sLval f fd) (CV : CalA P w K mg base 1 "_law_is_letters" R_isv) (CK : CalA P w K mg base 1 "_law_kind_of" R_lko) (C : ∀ m, n = m + 1 → CalA P w K mg base (n + 1) "_law_valid" (R_lval m)) : FnOk P w K mg base CX0 (n + 1 + 1) f fd ["condition", "kinds"] (spA w K (R_lval n)) := by
  refine fnA F scLval (by rintro ds O Q ⟨c, l, rfl, _⟩; rfl) fun F0 H0 os0 ds O Q h => ?_
  obtain ⟨cd, l, rfl, rfl, hok, hz, hq⟩ := h
  have sl : sizeLine = 16777216 := rfl
  have eSo : ("some" : Str) = S kSome := by decide +kernel
  have eEa : ("each" : Str) = S kEach := by decide +kernel
  have eNo : ("not" : Str) = S kNot := by decide +kernel
  have eBo : ("both" : Str) = S kBoth := by decide +kernel
  have eEi : ("either" : Str) = S kEither := by decide +kernel
  have eNa : ("name" : Str) = S kName := by decide +kernel
  have eTh : ("thing" : Str) = S kThing := by decide +kernel
  have eLe : ("length" : Str) = S kLength := by decide +kernel
  have i2 : ∀ f : List Nat, inD (.str f) [D.str kSome, .str kEach] = decide (f ∈ [kSome, kEach]) := fun f => inD_strs (l := [kSome, kEach])
  have i3 : ∀ f : List Nat, inD (.str f) [D.str kNot, .str kBoth, .str kEither] = decide (f ∈ [kNot, kBoth, kEither]) := fun f => inD_strs (l := [kNot, kBoth, kEither])
  match cd, hok, hq with
  | .at f a b, ⟨hf, ha, hb⟩, hq =>
    unfold Cnd.d
    have hne : f ∉ [kSome, kEach] ∧ f ∉ [kNot, kBoth, kEither] := by
      rcases hf with rfl | rfl | rfl | rfl <;> decide
    have ev : (Cnd.at f a b).val (lastK l) = atV f (lastK l a) (lastK l b) := rfl
    rw [ev] at hq
    walk_at "sn"
    refine ass_cons (as_set (i := 2) rfl (ae_ix ?_))
    walk_at "nm"; refine ae_int (is_i ⟨_, ix_t rfl, ?_⟩)
    walk_at "sn"
    refine ass_cons (as_if (at_cmp (ac_inU ?_))); refine nm 2 (ae_lstF (aa_cons (ae_str eSo (aa_cons (ae_str eEa (aa_nil ⟨le_sl (by simp), ?_⟩)))))); refine in_q (.inl (.inl rfl)) rfl (by walk_at "flat") (is_b ?_); rw [i2]
    rw [if_neg (by simpa using hne.1)]
    refine ass_nil ?_
    walk_at "sn"
    refine ass_cons (as_if (at_cmp (ac_inU ?_))); refine nm 2 (ae_lstF (aa_cons (ae_str eNo (aa_cons (ae_str eBo (aa_cons (ae_str eEi (aa_nil ⟨le_sl (by simp), ?_⟩)))))))); refine in_q (.inl (.inl rfl)) rfl (by walk_at "flat") (is_b ?_); rw [i3]
    rw [if_neg (by simpa using hne.2)]
    refine ass_nil ?_
    walk_at "sn"
    refine ass_cons (as_set (i := 4) rfl (ae_callP CK (show 1 ≤ n + 1 from by omega) (aa_cons ?_)))
    walk_at "nm"
    refine aa_cons (ae_ix ?_)
    walk_at "nm"; refine ae_int (is_i ⟨_, ix_t rfl, ?_⟩)
    refine aa_nil ⟨⟨prS_bnd _ _, trivial, trivial⟩, l, a, rfl, rfl, rfl, trivial, ?_⟩
    walk_at "sn"
    refine ass_cons (as_set (i := 5) rfl (ae_callP CK (show 1 ≤ n + 1 from by omega) (aa_cons ?_)))
    walk_at "nm"
    refine aa_cons (ae_ix ?_)
    walk_at "nm"; refine ae_int (is_i ⟨_, ix_t rfl, ?_⟩)
    refine aa_nil ⟨⟨prS_bnd _ _, trivial, trivial⟩, l, b, rfl, rfl, rfl, trivial, ?_⟩
    generalize lastK l a = x at hq
    generalize lastK l b = y at hq
    unfold atV at hq
    walk_at "sn"
    refine ass_cons (as_if (at_cmp (ac_eqU ?_)))
    refine nm 2 (ae_str (l := kIn) (by decide +kernel) (eq_k rfl (is_b ?_)))
    refine ite2 (fun hc => ?_) (fun hc => ?_)
    · have e : f = kIn := by simpa using hc
      rw [if_pos e] at hq
      refine ass_one (as_ret (ae_and (ae_cmp (ac_eqU ?_))))
      refine nm 4 (ae_str eTh (eq_k rfl (is_b ?_)))
      refine ite2 (fun hc2 => ?_) (fun hc2 => ?_)
      · have e2 : x = kThing := by simpa using hc2
        rw [decide_eq_true e2, Bool.true_and] at hq
        refine ae_one (ae_cmp (ac_eqU ?_))
        exact nm 5 (ae_str eNa (eq_k rfl ⟨_, _, .refl, hq⟩))
      · have e2 : ¬ x = kThing := by simpa using hc2
        rw [decide_eq_false e2, Bool.false_and] at hq
        exact ⟨_, _, .refl, hq⟩
    have e : ¬ f = kIn := by simpa using hc
    rw [if_neg e] at hq
    refine ass_nil ?_
    walk_at "sn"
    refine ass_cons (as_if (at_cmp (ac_eqU ?_)))
    refine nm 2 (ae_str (l := kFits) (by decide +kernel) (eq_k rfl (is_b ?_)))
    refine ite2 (fun hc => ?_) (fun hc => ?_)
    · have e : f = kFits := by simpa using hc
      rw [if_pos e] at hq
      refine ass_one (as_ret (ae_and (ae_cmp (ac_eqU ?_))))
      refine nm 4 (ae_str eTh (eq_k rfl (is_b ?_)))
      refine ite2 (fun hc2 => ?_) (fun hc2 => ?_)
      · have e2 : x = kThing := by simpa using hc2
        rw [decide_eq_true e2, Bool.true_and] at hq
        refine ae_one (ae_cmp (ac_eqU ?_))
        exact nm 5 (ae_str eLe (eq_k rfl ⟨_, _, .refl, hq⟩))
      · have e2 : ¬ x = kThing := by simpa using hc2
        rw [decide_eq_false e2, Bool.false_and] at hq
        exact ⟨_, _, .refl, hq⟩
    have e2 : ¬ f = kFits := by simpa using hc
    rw [if_neg e2] at hq
    refine ass_nil ?_
    walk_at "sn"
    refine ass_one (as_ret (ae_and (ae_cmp (ac_eqU ?_))))
    refine nm 4 ?_
    refine nm 5 (eq_k rfl (is_b ?_))
    refine ite2 (fun hc2 => ?_) (fun hc2 => ?_)
    · have e3 : x = y := by simpa using hc2
      rw [decide_eq_true e3, Bool.true_and] at hq
      refine ae_one (ae_cmp (ac_neU ?_))
      exact nm 4 (ae_str eNil (eq_k rfl ⟨_, _, .refl, hq⟩))
    · have e3 : ¬ x = y := by simpa using hc2
      rw [decide_eq_false e3, Bool.false_and] at hq
      exact ⟨_, _, .refl, hq⟩
  | .no c, ⟨m, hm, hc⟩, hq =>
    unfold Cnd.d
    walk_at "sn"
    refine ass_cons (as_set (i := 2) rfl (ae_ix ?_))
    walk_at "nm"; refine ae_int (is_i ⟨_, ix_t rfl, ?_⟩)
    walk_at "sn"
    refine ass_cons (as_if (at_cmp (ac_inU ?_))); refine nm 2 (ae_lstF (aa_cons (ae_str eSo (aa_cons (ae_str eEa (aa_nil ⟨le_sl (by simp), ?_⟩)))))); refine in_q (.inl (.inl rfl)) rfl (by walk_at "flat") (is_b ?_); rw [i2]
    rw [if_neg (by decide)]
    refine ass_nil ?_
    walk_at "sn"
    refine ass_cons (as_if (at_cmp (ac_inU ?_))); refine nm 2 (ae_lstF (aa_cons (ae_str eNo (aa_cons (ae_str eBo (aa_cons (ae_str eEi (aa_nil ⟨le_sl (by simp), ?_⟩)))))))); refine in_q (.inl (.inl rfl)) rfl (by walk_at "flat") (is_b ?_); rw [i3]
    rw [if_pos (by decide)]
    have ev : (Cnd.no c).val (lastK l) = c.val (lastK l) := rfl
    rw [ev] at hq
    refine ass_one (as_ret (ae_cmp (ac_notInU (ae_bl ?_))))
    refine ae_lcl nLval (defScope sLval) false [("part", 3)] (by decide +kernel) (by simp) (ai_tup (ae_slT ?_))
    walk_at "nm"
    refine is_t (ao_some (ae_int (is_i (ao_none ⟨_, rfl, Cnd, [c], Cnd.d, fun e => .bl (e.val (lastK l)), fun _ => true, rfl, fun _ => trivial, by show 1 ≤ _; omega, fun _ _ => trivial, fun y acc hy => ?_, ?_⟩))))
    · have ey : y = c := by simpa using hy
      subst ey
      refine agw_name (i := 3) rfl ⟨rfl, rfl, show AF _ _ _ _ from ⟨rfl, rfl, fun _ => ?_⟩⟩
      refine ae_callP (C m hm) (Nat.le_refl _) (aa_cons ?_)
      walk_at "nm"
      refine aa_cons ?_
      walk_at "nm"
      exact aa_nil ⟨⟨Cnd.bnd _ _, prS_bnd _ _, trivial⟩, y, l, rfl, rfl, hc, by omega, rfl, trivial, rfl, rfl⟩
    rw [if_neg (by simp)]
    refine in_q (.inl (.inl rfl)) rfl rfl ?_
    show RetP _ _ (.rt (.bl (!inD (.bl false) [.bl (c.val (lastK l))])) _)
    have eb : (!inD (.bl false) [.bl (c.val (lastK l))]) = c.val (lastK l) := by cases c.val (lastK l) <;> rfl
    rw [eb]
    exact ⟨_, _, .refl, hq⟩
  | .two f c d, ⟨hf, m, hm, hc, hd⟩, hq =>
    unfold Cnd.d
    have hne : f ∉ [kSome, kEach] ∧ f ∈ [kNot, kBoth, kEither] := by
      rcases hf with rfl | rfl <;> decide
    walk_at "sn"
    refine ass_cons (as_set (i := 2) rfl (ae_ix ?_))
    walk_at "nm"; refine ae_int (is_i ⟨_, ix_t rfl, ?_⟩)
    walk_at "sn"
    refine ass_cons (as_if (at_cmp (ac_inU ?_))); refine nm 2 (ae_lstF (aa_cons (ae_str eSo (aa_cons (ae_str eEa (aa_nil ⟨le_sl (by simp), ?_⟩)))))); refine in_q (.inl (.inl rfl)) rfl (by walk_at "flat") (is_b ?_); rw [i2]
    rw [if_neg (by simpa using hne.1)]
    refine ass_nil ?_
    walk_at "sn"
    refine ass_cons (as_if (at_cmp (ac_inU ?_))); refine nm 2 (ae_lstF (aa_cons (ae_str eNo (aa_cons (ae_str eBo (aa_cons (ae_str eEi (aa_nil ⟨le_sl (by simp), ?_⟩)))))))); refine in_q (.inl (.inl rfl)) rfl (by walk_at "flat") (is_b ?_); rw [i3]
    rw [if_pos (by simpa using hne.2)]
    have ev : (Cnd.two f c d).val (lastK l) = (c.val (lastK l) && d.val (lastK l)) := rfl
    rw [ev] at hq
    refine ass_one (as_ret (ae_cmp (ac_notInU (ae_bl ?_))))
    refine ae_lcl nLval (defScope sLval) false [("part", 3)] (by decide +kernel) (by simp) (ai_tup (ae_slT ?_))
    walk_at "nm"
    refine is_t (ao_some (ae_int (is_i (ao_none ⟨_, rfl, Cnd, [c, d], Cnd.d, fun e => .bl (e.val (lastK l)), fun _ => true, rfl, fun _ => trivial, by show 2 ≤ _; omega, fun _ _ => trivial, fun y acc hy => ?_, ?_⟩))))
    · have oky : y.Ok m := by
        simp only [List.mem_cons, List.not_mem_nil, or_false] at hy
        rcases hy with rfl | rfl
        · exact hc
        · exact hd
      refine agw_name (i := 3) rfl ⟨rfl, rfl, show AF _ _ _ _ from ⟨rfl, rfl, fun _ => ?_⟩⟩
      refine ae_callP (C m hm) (Nat.le_refl _) (aa_cons ?_)
      walk_at "nm"
      refine aa_cons ?_
      walk_at "nm"
      exact aa_nil ⟨⟨Cnd.bnd _ _, prS_bnd _ _, trivial⟩, y, l, rfl, rfl, oky, by omega, rfl, trivial, rfl, rfl⟩
    rw [if_neg (by simp)]
    refine in_q (.inl (.inl rfl)) rfl rfl ?_
    show RetP _ _ (.rt (.bl (!inD (.bl false) [.bl (c.val (lastK l)), .bl (d.val (lastK l))])) _)
    have eb : (!inD (.bl false) [.bl (c.val (lastK l)), .bl (d.val (lastK l))]) = (c.val (lastK l) && d.val (lastK l)) := by cases c.val (lastK l) <;> cases d.val (lastK l) <;> rfl
    rw [eb]
    exact ⟨_, _, .refl, hq⟩
  | .qu f w0 t c, ⟨hf, hw, ht, m, hm, hc⟩, hq =>
    unfold Cnd.d
    unfold Wd at hw ht
    have hne : f ∈ [kSome, kEach] := by
      rcases hf with rfl | rfl <;> decide
    have ev : (Cnd.qu f w0 t c).val (lastK l) = ((isVar w0 && decide (t = kName ∨ t = kThing ∨ t = kLength)) && c.val (fun x => if x = w0 then t else lastK l x)) := rfl
    rw [ev] at hq
    walk_at "sn"
    refine ass_cons (as_set (i := 2) rfl (ae_ix ?_))
    walk_at "nm"; refine ae_int (is_i ⟨_, ix_t rfl, ?_⟩)
    walk_at "sn"
    refine ass_cons (as_if (at_cmp (ac_inU ?_))); refine nm 2 (ae_lstF (aa_cons (ae_str eSo (aa_cons (ae_str eEa (aa_nil ⟨le_sl (by simp), ?_⟩)))))); refine in_q (.inl (.inl rfl)) rfl (by walk_at "flat") (is_b ?_); rw [i2]
    rw [if_pos (by simpa using hne)]
    refine ass_cons (as_if (at_w (aw_or (at_not (at_val (ae_callP CV (show 1 ≤ n + 1 from by omega) (aa_cons (ae_ix ?_))))))))
    walk_at "nm"; refine ae_int (is_i ⟨_, ix_t rfl, ?_⟩)
    refine aa_nil ⟨⟨trivial, trivial⟩, w0, rfl, rfl, by omega, rfl, trivial, is_b ?_⟩
    refine ite2 (fun hc2 => ?_) (fun hc2 => ?_)
    · have e0 : isVar w0 = false := by simpa using hc2
      rw [e0, Bool.false_and, Bool.false_and] at hq
      exact ass_one (as_ret (ae_bl ⟨_, _, .refl, hq⟩))
    have v1 : isVar w0 = true := by simpa using hc2
    refine aw_or1 (at_cmp (ac_notInU (ae_ix ?_)))
    walk_at "nm"; refine ae_int (is_i ⟨_, ix_t rfl, ?_⟩)
    refine ae_lstF (aa_cons (ae_str eNa (aa_cons (ae_str eTh (aa_cons (ae_str eLe (aa_nil ⟨le_sl (by simp), ?_⟩)))))))
    refine in_q (.inl (.inl rfl)) rfl (by walk_at "flat") (is_b ?_)
    rw [show inD (.str t) [D.str kName, .str kThing, .str kLength] = decide (t ∈ [kName, kThing, kLength]) from inD_strs (l := [kName, kThing, kLength])]
    refine ite2 (fun hc3 => ?_) (fun hc3 => ?_)
    · have e0 : ¬ (t = kName ∨ t = kThing ∨ t = kLength) := by simpa using hc3
      rw [decide_eq_false e0, Bool.and_false, Bool.false_and] at hq
      exact ass_one (as_ret (ae_bl ⟨_, _, .refl, hq⟩))
    have v2 : t = kName ∨ t = kThing ∨ t = kLength := by
      rw [if_pos rfl] at hc3
      simp only [Bool.not_eq_true', decide_eq_false_iff_not, List.mem_cons, List.not_mem_nil, or_false] at hc3
      exact Decidable.not_not.mp hc3
    rw [v1, decide_eq_true v2, Bool.true_and, Bool.true_and] at hq
    refine ass_nil ?_
    have eg : (fun x => if x = w0 then t else lastK l x) = lastK (l ++ [(w0, t)]) := by
      funext x
      rw [lastK_snoc]
      by_cases e : x = w0
      · rw [if_pos e, if_pos e.symm]
      · rw [if_neg e, if_neg fun q => e q.symm]
    rw [eg] at hq
    walk_at "sn"
    refine ass_one (as_ret (ae_callP (C m hm) (Nat.le_refl _) (aa_cons (ae_ix ?_))))
    walk_at "nm"; refine ae_int (is_i ⟨_, ix_t rfl, ?_⟩)
    refine aa_cons (ae_catL false ?_)
    walk_at "nm"
    refine ae_lstF (aa_cons (ae_tup (aa_cons (ae_ix ?_))))
    walk_at "nm"; refine ae_int (is_i ⟨_, ix_t rfl, ?_⟩)
    refine aa_cons (ae_ix ?_)
    walk_at "nm"; refine ae_int (is_i ⟨_, ix_t rfl, ?_⟩)
    refine aa_nil ⟨le_sl (by simp), aa_nil ⟨le_sl (by simp), ?_⟩⟩
    refine ⟨_, _, .inl rfl, .inl rfl, by rw [List.length_map]; simp; omega, ?_⟩
    unfold NewL
    rw [if_neg (by decide)]
    rw [show l.map prS ++ [D.tup [.str w0, .str t]] = (l ++ [(w0, t)]).map prS from by rw [List.map_append]; rfl]
    exact aa_nil ⟨⟨c.bnd 0, prS_bnd _ 0, trivial⟩, c, l ++ [(w0, t)], rfl, rfl, hc, by simp; omega, rfl, trivial, _, _, .refl, hq⟩
theorem ok_lval {f : Addr} {fd : FuncData} (F : Fun K "_law_valid" "_law_valid" sLval f fd) (hm : mg "_law_valid" = some (.ref f)) (hb : Binds K fd ["condition", "kinds"] []) (CV : CalA P w K mg base 1 "_law_is_letters" R_isv) (CK : CalA P w K mg base 1 "_law_kind_of" R_lko) : ∀ n, CalA P w K mg base (n + 2) "_law_valid" (R_lval n)
  | 0 => .mk' F (ok_lval_fn F CV CK fun m h => by cases h) hm hb mono_R_lval
  | n + 1 => .mk' F (ok_lval_fn F CV CK fun m h => by
      cases h
      exact ok_lval F hm hb CV CK n) hm hb mono_R_lval

end
end G9

namespace G9
open PySem PySem.Spec PyProof.Rows L2
local macro_rules | `(tactic| walk_at "sn") => `(tactic| (first | (refine ass_at2 (by simp only [List.set_cons_zero, List.set_cons_succ, List.cons_append, List.nil_append, List.length_cons, List.length_nil, Nat.zero_add, Nat.reduceAdd, List.map_nil, List.append_nil, start, List.map_cons, List.replicate, Nat.reduceSub, Nat.sub_zero]; exact NF.rfl') ?_) | (show ASs _ _ _ _)))
local macro_rules | `(tactic| walk_at "sz") => `(tactic| (first | omega | (simp only [List.length_append, List.length_cons, List.length_nil, List.length_map, List.length_range]; omega) | exact le_sl (by simp; done) | (simp; omega)))
local macro_rules | `(tactic| walk_at "flat") => `(tactic| (first | rfl | exact all_flat_strs _ | exact all_flat_ints _ | exact all_flat_nD _))
local macro_rules | `(tactic| walk_at "nm") => `(tactic| (first | refine nm 0 ?_ | refine nm 1 ?_ | refine nm 2 ?_ | refine nm 3 ?_ | refine nm 4 ?_ | refine nm 5 ?_ | refine nm 6 ?_ | refine nm 7 ?_ | refine nm 8 ?_ | refine nm 9 ?_ | refine nm 10 ?_ | refine nm 11 ?_ | refine nm 12 ?_ | refine nm 13 ?_ | refine nm 14 ?_ | refine nm 15 ?_ | refine nm 16 ?_ | refine nm 17 ?_ | refine nm 18 ?_ | refine nm 19 ?_ | refine nm 20 ?_ | refine nm 21 ?_ | refine nm 22 ?_ | refine nm 23 ?_))
local macro_rules | `(tactic| walk_at "e") => `(tactic| (first | walk_at "nm" | refine ae_int ?_ | refine ae_plus ?_ | refine ae_cmp ?_ | refine ae_dcall 0 0 (by assumption) (Nat.le_refl _) rfl rfl ?_ | refine ae_dcall 1 0 (by assumption) (Nat.le_refl _) rfl rfl ?_ | refine ae_callP (by assumption) (Nat.le_refl _) ?_ | refine ae_slU ?_ | refine ae_subU ?_ | refine ae_str eNil ?_ | refine ae_str (by assumption) ?_ | refine ae_len (by assumption) ?_ | refine ae_sub ?_ | refine ae_mul ?_ | refine ae_tup ?_ | refine ae_tupleOf (by assumption) ?_ | refine ae_max2 (by assumption) ?_ | refine ae_min2 (by assumption) ?_ | refine ae_bl ?_ | refine ae_non ?_ | refine ae_not ?_ | refine ae_and ?_ | refine ae_or ?_ | refine ae_one ?_ | refine ae_mod ?_ | refine ae_fdiv ?_ | refine ae_neg ?_ | refine ae_if ?_ | refine ae_toInt (by assumption) ?_ | refine ae_all (by assumption) ?_ | refine ae_any (by assumption) ?_))
local macro_rules | `(tactic| walk_at "r") => `(tactic| (first | refine is_i ?_ | refine is_b ?_ | refine is_s ?_ | refine is_t ?_ | refine add_i ?_ | refine add_s (by walk_at "sz") ?_ | refine add_t (by walk_at "sz") ?_ | refine lt_i ?_ | refine lt_s ?_ | refine sub_i (ix_t rfl) ?_ | refine sub_i (ix_l rfl) ?_ | refine sub_i (ix_o rfl rfl) ?_ | refine sub_i (ix_t (by assumption)) ?_ | refine sub_i (ix_l (by assumption)) ?_ | refine sub_i (ix_o (by assumption) (by assumption)) ?_ | refine sub_s (by walk_at "sz") (by assumption) ?_ | refine eq_k rfl ?_ | refine in_q (.inr rfl) rfl (by walk_at "flat") ?_ | refine in_q (.inl (.inl rfl)) rfl (by walk_at "flat") ?_ | refine in_q (.inl (.inr ⟨_, rfl, rfl⟩)) rfl (by walk_at "flat") ?_ | refine slc_s (by walk_at "sz") ?_ | refine slc_t ?_ | refine slc_l (.inl rfl) ?_ | refine slc_l (.inr ⟨_, rfl, rfl⟩) ?_ | refine in_s ?_ | refine ⟨_, len_s (by walk_at "sz"), ?_⟩ | refine ⟨_, len_t, ?_⟩ | refine ⟨_, len_l, ?_⟩ | refine ⟨_, len_o rfl, ?_⟩ | refine ⟨_, len_o (by assumption), ?_⟩ | refine ⟨_, rfl, ?_⟩ | refine ⟨_, .inl rfl, ?_⟩ | refine ⟨_, .inr ⟨_, rfl, rfl⟩, ?_⟩ | refine ⟨le_sl (by simp), ?_⟩ | refine ⟨.inl ⟨by omega, by omega⟩, ?_⟩))
local macro_rules | `(tactic| walk_at "as") => `(tactic| (first | refine as_ret ?_ | refine as_set (i := 0) rfl ?_ | refine as_set (i := 1) rfl ?_ | refine as_set (i := 2) rfl ?_ | refine as_set (i := 3) rfl ?_ | refine as_set (i := 4) rfl ?_ | refine as_set (i := 5) rfl ?_ | refine as_set (i := 6) rfl ?_ | refine as_set (i := 7) rfl ?_ | refine as_set (i := 8) rfl ?_ | refine as_set (i := 9) rfl ?_ | refine as_set (i := 10) rfl ?_ | refine as_set (i := 11) rfl ?_ | refine as_set (i := 12) rfl ?_ | refine as_set (i := 13) rfl ?_ | refine as_set (i := 14) rfl ?_ | refine as_set (i := 15) rfl ?_ | refine as_set (i := 16) rfl ?_ | refine as_set (i := 17) rfl ?_ | refine as_set (i := 18) rfl ?_ | refine as_set (i := 19) rfl ?_ | refine as_set (i := 20) rfl ?_ | refine as_set (i := 21) rfl ?_ | refine as_set (i := 22) rfl ?_ | refine as_set (i := 23) rfl ?_ | refine as_if ?_ | refine as_expr ?_ | refine as_retN ?_ | refine as_asg ?_ | refine as_addI (i := 0) rfl rfl ?_ | refine as_addI (i := 1) rfl rfl ?_ | refine as_addI (i := 2) rfl rfl ?_ | refine as_addI (i := 3) rfl rfl ?_ | refine as_addI (i := 4) rfl rfl ?_ | refine as_addI (i := 5) rfl rfl ?_ | refine as_addI (i := 6) rfl rfl ?_ | refine as_addI (i := 7) rfl rfl ?_ | refine as_addI (i := 8) rfl rfl ?_ | refine as_addI (i := 9) rfl rfl ?_ | refine as_addI (i := 10) rfl rfl ?_ | refine as_addI (i := 11) rfl rfl ?_ | refine as_addI (i := 12) rfl rfl ?_ | refine as_addI (i := 13) rfl rfl ?_ | refine as_addI (i := 14) rfl rfl ?_ | refine as_addI (i := 15) rfl rfl ?_ | refine as_addI (i := 16) rfl rfl ?_ | refine as_addI (i := 17) rfl rfl ?_ | refine as_addI (i := 18) rfl rfl ?_ | refine as_addI (i := 19) rfl rfl ?_ | refine as_addI (i := 20) rfl rfl ?_ | refine as_addI (i := 21) rfl rfl ?_ | refine as_addI (i := 22) rfl rfl ?_ | refine as_addI (i := 23) rfl rfl ?_ | refine as_pass ?_ | refine as_break ?_ | refine as_cont ?_))
local macro_rules | `(tactic| walk_at "ass") => `(tactic| (first | refine ass_nil ?_ | (walk_at "sn"; first | refine ass_one ?_ | refine ass_cons ?_)))
local macro_rules | `(tactic| walk_at "1") => `(tactic| (first | ((with_reducible show AE _ _ _ _); walk_at "e") | ((with_reducible show AC _ _ _ _ _ _); first | refine ac_eqU ?_ | refine ac_ltU ?_ | refine ac_inU ?_ | refine ac_notInU ?_ | refine ac_isN ?_ | refine ac_notN ?_ | refine ac_neU ?_ | refine ac_le ?_ | refine ac_ge ?_ | refine ac_gt ?_) | ((with_reducible show AT _ _ _ _); first | refine at_cmp ?_ | refine at_not ?_ | (refine at_w ?_; first | refine aw_and ?_ | refine aw_or ?_) | refine at_val ?_) | ((with_reducible show AW _ _ _ _); first | refine aw_and ?_ | refine aw_or ?_ | refine aw_and1 ?_ | refine aw_or1 ?_) | ((with_reducible show AA _ _ _ _); first | refine aa_nil ?_ | refine aa_cons ?_) | ((with_reducible show AO _ _ _ _); first | refine ao_none ?_ | refine ao_some ?_) | ((with_reducible show AS _ _ _ _); walk_at "as") | ((with_reducible show ASs _ _ _ _); walk_at "ass") | ((with_reducible show seqP _ _ _ _); walk_at "ass") | ((with_reducible show AG _ _ _ _ _); first | refine ag_name (i := 0) rfl ?_ | refine ag_name (i := 1) rfl ?_ | refine ag_name (i := 2) rfl ?_ | refine ag_name (i := 3) rfl ?_ | refine ag_name (i := 4) rfl ?_ | refine ag_name (i := 5) rfl ?_ | refine ag_name (i := 6) rfl ?_ | refine ag_name (i := 7) rfl ?_ | refine ag_name (i := 8) rfl ?_ | refine ag_name (i := 9) rfl ?_ | refine ag_name (i := 10) rfl ?_ | refine ag_name (i := 11) rfl ?_ | refine ag_name (i := 12) rfl ?_ | refine ag_name (i := 13) rfl ?_ | refine ag_name (i := 14) rfl ?_ | refine ag_name (i := 15) rfl ?_ | refine ag_name (i := 16) rfl ?_ | refine ag_name (i := 17) rfl ?_ | refine ag_name (i := 18) rfl ?_ | refine ag_name (i := 19) rfl ?_ | refine ag_name (i := 20) rfl ?_ | refine ag_name (i := 21) rfl ?_ | refine ag_name (i := 22) rfl ?_ | refine ag_name (i := 23) rfl ?_ | refine ag_tup ?_) | ((with_reducible show AGs _ _ _ _ _); first | refine ags_name (i := 0) rfl ?_ | refine ags_name (i := 1) rfl ?_ | refine ags_name (i := 2) rfl ?_ | refine ags_name (i := 3) rfl ?_ | refine ags_name (i := 4) rfl ?_ | refine ags_name (i := 5) rfl ?_ | refine ags_name (i := 6) rfl ?_ | refine ags_name (i := 7) rfl ?_ | refine ags_name (i := 8) rfl ?_ | refine ags_name (i := 9) rfl ?_ | refine ags_name (i := 10) rfl ?_ | refine ags_name (i := 11) rfl ?_ | refine ags_name (i := 12) rfl ?_ | refine ags_name (i := 13) rfl ?_ | refine ags_name (i := 14) rfl ?_ | refine ags_name (i := 15) rfl ?_ | refine ags_name (i := 16) rfl ?_ | refine ags_name (i := 17) rfl ?_ | refine ags_name (i := 18) rfl ?_ | refine ags_name (i := 19) rfl ?_ | refine ags_name (i := 20) rfl ?_ | refine ags_name (i := 21) rfl ?_ | refine ags_name (i := 22) rfl ?_ | refine ags_name (i := 23) rfl ?_ | refine ags_nil ?_) | walk_at "r"))
local macro_rules | `(tactic| walk_at "y") => `(tactic| (first | ((with_reducible show AE _ _ _ _); walk_at "e") | ((with_reducible show AC _ _ _ _ _ _); first | refine ac_eqU ?_ | refine ac_ltU ?_ | refine ac_inU ?_ | refine ac_notInU ?_ | refine ac_isN ?_ | refine ac_notN ?_ | refine ac_neU ?_ | refine ac_le ?_ | refine ac_ge ?_ | refine ac_gt ?_) | ((with_reducible show AT _ _ _ _); first | refine at_cmp ?_ | refine at_not ?_ | (refine at_w ?_; first | refine aw_and ?_ | refine aw_or ?_) | refine at_val ?_) | ((with_reducible show AW _ _ _ _); first | refine aw_and ?_ | refine aw_or ?_ | refine aw_and1 ?_ | refine aw_or1 ?_) | ((with_reducible show AA _ _ _ _); first | refine aa_nil ?_ | refine aa_cons ?_) | ((with_reducible show AO _ _ _ _); first | refine ao_none ?_ | refine ao_some ?_) | ((with_reducible show AG _ _ _ _ _); first | refine ag_name (i := 0) rfl ?_ | refine ag_name (i := 1) rfl ?_ | refine ag_name (i := 2) rfl ?_ | refine ag_name (i := 3) rfl ?_ | refine ag_name (i := 4) rfl ?_ | refine ag_name (i := 5) rfl ?_ | refine ag_name (i := 6) rfl ?_ | refine ag_name (i := 7) rfl ?_ | refine ag_name (i := 8) rfl ?_ | refine ag_name (i := 9) rfl ?_ | refine ag_name (i := 10) rfl ?_ | refine ag_name (i := 11) rfl ?_ | refine ag_name (i := 12) rfl ?_ | refine ag_name (i := 13) rfl ?_ | refine ag_name (i := 14) rfl ?_ | refine ag_name (i := 15) rfl ?_ | refine ag_name (i := 16) rfl ?_ | refine ag_name (i := 17) rfl ?_ | refine ag_name (i := 18) rfl ?_ | refine ag_name (i := 19) rfl ?_ | refine ag_name (i := 20) rfl ?_ | refine ag_name (i := 21) rfl ?_ | refine ag_name (i := 22) rfl ?_ | refine ag_name (i := 23) rfl ?_ | refine ag_tup ?_) | ((with_reducible show AGs _ _ _ _ _); first | refine ags_name (i := 0) rfl ?_ | refine ags_name (i := 1) rfl ?_ | refine ags_name (i := 2) rfl ?_ | refine ags_name (i := 3) rfl ?_ | refine ags_name (i := 4) rfl ?_ | refine ags_name (i := 5) rfl ?_ | refine ags_name (i := 6) rfl ?_ | refine ags_name (i := 7) rfl ?_ | refine ags_name (i := 8) rfl ?_ | refine ags_name (i := 9) rfl ?_ | refine ags_name (i := 10) rfl ?_ | refine ags_name (i := 11) rfl ?_ | refine ags_name (i := 12) rfl ?_ | refine ags_name (i := 13) rfl ?_ | refine ags_name (i := 14) rfl ?_ | refine ags_name (i := 15) rfl ?_ | refine ags_name (i := 16) rfl ?_ | refine ags_name (i := 17) rfl ?_ | refine ags_name (i := 18) rfl ?_ | refine ags_name (i := 19) rfl ?_ | refine ags_name (i := 20) rfl ?_ | refine ags_name (i := 21) rfl ?_ | refine ags_name (i := 22) rfl ?_ | refine ags_name (i := 23) rfl ?_ | refine ags_nil ?_) | ((fail_if_success (show ASs _ _ _ _)); walk_at "r")))
local macro_rules | `(tactic| walk_at "x") => `(tactic| (repeat walk_at "y"))
local macro_rules | `(tactic| walk_at "w") => `(tactic| (repeat walk_at "1"))
abbrev sLask : Stmt := topS 20
section
variable {P : Program} {w : World} {K : PySem.W.Frag} {mg : Str → Option Value} {base : Heap}
/-! ### _law_asked -/
def R_lask (n : Nat) : Spec := fun ds O P => ∃ (c : Cnd) (l : SPs), ds = [c.d, .ob 0] ∧ O = [.ext ptX (l.map prS)] ∧ c.Ok n ∧ KndL l ∧ l.length ≤ 900 ∧ n ≤ 20 ∧ P (.int (if c.val (lastK l) then 0 else 1)) [.ext ptX (l.map prS)]
theorem mono_R_lask {n : Nat} : ∀ ds O Q Q', (∀ d O', Q d O' → Q' d O') → R_lask n ds O Q → R_lask n ds O Q' := fun ds O Q Q' q h => match h with
  | ⟨c, l, h1, h2, h3, h4, h5, h6, h7⟩ => ⟨c, l, h1, h2, h3, h4, h5, h6, q _ _ h7⟩
abbrev nLask : List Str := ["condition", "free"]
theorem scLask : FnScope nLask ["condition", "free"] (defScope sLask) := ⟨rfl, rfl, rfl, by decide +kernel, rfl, by decide +kernel, by decide +kernel⟩
theorem ok_lask {n : Nat} {f NC : Addr} {fd : FuncData} {k : Nat} (F : Fun K "_law_asked" "_law_asked" sLask f fd) (mi : mg "int" = none) (Tx : XOwn K mg "NoCondition" NC) (Te : PySem.W.exmOne K (.ref NC) (.ref NC) = some true) (C : CalX P w K mg base k "check_condition" (R_chd NC n)) : FnOk P w K mg base CX0 (k + 1) f fd ["condition", "free"] (spA w K (R_lask n)) := by
  refine fnA F scLask (by rintro ds O Q ⟨c, l, rfl, _⟩; rfl) fun F0 H0 os0 ds O Q h => ?_
  obtain ⟨c, l, rfl, rfl, hok, hl, hz, hn, hq⟩ := h
  have eg : gkd (sdAll l) = lastK l := lastK_all l
  walk_at "sn"
  refine ass_one (as_try ⟨rfl, by decide, .inl Tx.g⟩ rfl fun F1 H1 os1 => ?_)
  refine (show ASs _ _ ⟨[some c.d, some (.ob 0)], [.ext ptX (l.map prS)]⟩ _ from ?_)
  refine ass_one (as_ret (ae_mul (ae_int (ae_toInt mi (ae_cmp (ac_notN (ae_callX1 0 C (Nat.le_refl _) (aa_cons ?_))))))))
  walk_at "nm"
  refine aa_cons ?_
  walk_at "nm"
  refine aa_nil ⟨[c.d, .ob 0], _, by show _ = [D.ren _ c.d, _]; rw [D.ren_closed (c.bnd 0)]; rfl, ⟨Cnd.bnd _ _, by unfold D.bnd; decide, trivial⟩, rfl, ptX_bnd _ _, c, l, rfl, rfl, hok, hl, hz, hn, fun hv => ?_, fun hv => ?_⟩
  · rw [eg] at hv
    rw [hv] at hq
    refine ⟨_, rfl, ptX_bnd _ _, trivial, _, .inr ⟨_, rfl, rfl⟩, is_i (is_i ⟨by unfold CMul; simp [isNonD], ?_⟩)⟩
    exact ⟨_, _, .refl, hq⟩
  · rw [eg] at hv
    rw [hv] at hq
    refine ⟨_, rfl, ptX_bnd _ _, true, Te, fun _ => ?_, fun z => by cases z⟩
    exact suiO_of (v := .int 1) (.int 1) (fun X hX a oe pn hz hf σ H E q => WSs.of (pss_one (ps_ret pe_w)) (WE.of pe_int (q H (Grow.refl H)))) rfl ⟨_, _, .refl, hq⟩

end
end G9

namespace G9
open PySem PySem.Spec PyProof.Rows L2
local macro_rules | `(tactic| walk_at "sn") => `(tactic| (first | (refine ass_at2 (by simp only [List.set_cons_zero, List.set_cons_succ, List.cons_append, List.nil_append, List.length_cons, List.length_nil, Nat.zero_add, Nat.reduceAdd, List.map_nil, List.append_nil, start, List.map_cons, List.replicate, Nat.reduceSub, Nat.sub_zero]; exact NF.rfl') ?_) | (show ASs _ _ _ _)))
local macro_rules | `(tactic| walk_at "sz") => `(tactic| (first | omega | (simp only [List.length_append, List.length_cons, List.length_nil, List.length_map, List.length_range]; omega) | exact le_sl (by simp; done) | (simp; omega)))
local macro_rules | `(tactic| walk_at "flat") => `(tactic| (first | rfl | exact all_flat_strs _ | exact all_flat_ints _ | exact all_flat_nD _))
local macro_rules | `(tactic| walk_at "nm") => `(tactic| (first | refine nm 0 ?_ | refine nm 1 ?_ | refine nm 2 ?_ | refine nm 3 ?_ | refine nm 4 ?_ | refine nm 5 ?_ | refine nm 6 ?_ | refine nm 7 ?_ | refine nm 8 ?_ | refine nm 9 ?_ | refine nm 10 ?_ | refine nm 11 ?_ | refine nm 12 ?_ | refine nm 13 ?_ | refine nm 14 ?_ | refine nm 15 ?_ | refine nm 16 ?_ | refine nm 17 ?_ | refine nm 18 ?_ | refine nm 19 ?_ | refine nm 20 ?_ | refine nm 21 ?_ | refine nm 22 ?_ | refine nm 23 ?_))
local macro_rules | `(tactic| walk_at "e") => `(tactic| (first | walk_at "nm" | refine ae_int ?_ | refine ae_plus ?_ | refine ae_cmp ?_ | refine ae_dcall 0 0 (by assumption) (Nat.le_refl _) rfl rfl ?_ | refine ae_dcall 1 0 (by assumption) (Nat.le_refl _) rfl rfl ?_ | refine ae_callP (by assumption) (Nat.le_refl _) ?_ | refine ae_slU ?_ | refine ae_subU ?_ | refine ae_str eNil ?_ | refine ae_str (by assumption) ?_ | refine ae_len (by assumption) ?_ | refine ae_sub ?_ | refine ae_mul ?_ | refine ae_tup ?_ | refine ae_tupleOf (by assumption) ?_ | refine ae_max2 (by assumption) ?_ | refine ae_min2 (by assumption) ?_ | refine ae_bl ?_ | refine ae_non ?_ | refine ae_not ?_ | refine ae_and ?_ | refine ae_or ?_ | refine ae_one ?_ | refine ae_mod ?_ | refine ae_fdiv ?_ | refine ae_neg ?_ | refine ae_if ?_ | refine ae_toInt (by assumption) ?_ | refine ae_all (by assumption) ?_ | refine ae_any (by assumption) ?_))
local macro_rules | `(tactic| walk_at "r") => `(tactic| (first | refine is_i ?_ | refine is_b ?_ | refine is_s ?_ | refine is_t ?_ | refine add_i ?_ | refine add_s (by walk_at "sz") ?_ | refine add_t (by walk_at "sz") ?_ | refine lt_i ?_ | refine lt_s ?_ | refine sub_i (ix_t rfl) ?_ | refine sub_i (ix_l rfl) ?_ | refine sub_i (ix_o rfl rfl) ?_ | refine sub_i (ix_t (by assumption)) ?_ | refine sub_i (ix_l (by assumption)) ?_ | refine sub_i (ix_o (by assumption) (by assumption)) ?_ | refine sub_s (by walk_at "sz") (by assumption) ?_ | refine eq_k rfl ?_ | refine in_q (.inr rfl) rfl (by walk_at "flat") ?_ | refine in_q (.inl (.inl rfl)) rfl (by walk_at "flat") ?_ | refine in_q (.inl (.inr ⟨_, rfl, rfl⟩)) rfl (by walk_at "flat") ?_ | refine slc_s (by walk_at "sz") ?_ | refine slc_t ?_ | refine slc_l (.inl rfl) ?_ | refine slc_l (.inr ⟨_, rfl, rfl⟩) ?_ | refine in_s ?_ | refine ⟨_, len_s (by walk_at "sz"), ?_⟩ | refine ⟨_, len_t, ?_⟩ | refine ⟨_, len_l, ?_⟩ | refine ⟨_, len_o rfl, ?_⟩ | refine ⟨_, len_o (by assumption), ?_⟩ | refine ⟨_, rfl, ?_⟩ | refine ⟨_, .inl rfl, ?_⟩ | refine ⟨_, .inr ⟨_, rfl, rfl⟩, ?_⟩ | refine ⟨le_sl (by simp), ?_⟩ | refine ⟨.inl ⟨by omega, by omega⟩, ?_⟩))
local macro_rules | `(tactic| walk_at "as") => `(tactic| (first | refine as_ret ?_ | refine as_set (i := 0) rfl ?_ | refine as_set (i := 1) rfl ?_ | refine as_set (i := 2) rfl ?_ | refine as_set (i := 3) rfl ?_ | refine as_set (i := 4) rfl ?_ | refine as_set (i := 5) rfl ?_ | refine as_set (i := 6) rfl ?_ | refine as_set (i := 7) rfl ?_ | refine as_set (i := 8) rfl ?_ | refine as_set (i := 9) rfl ?_ | refine as_set (i := 10) rfl ?_ | refine as_set (i := 11) rfl ?_ | refine as_set (i := 12) rfl ?_ | refine as_set (i := 13) rfl ?_ | refine as_set (i := 14) rfl ?_ | refine as_set (i := 15) rfl ?_ | refine as_set (i := 16) rfl ?_ | refine as_set (i := 17) rfl ?_ | refine as_set (i := 18) rfl ?_ | refine as_set (i := 19) rfl ?_ | refine as_set (i := 20) rfl ?_ | refine as_set (i := 21) rfl ?_ | refine as_set (i := 22) rfl ?_ | refine as_set (i := 23) rfl ?_ | refine as_if ?_ | refine as_expr ?_ | refine as_retN ?_ | refine as_asg ?_ | refine as_addI (i := 0) rfl rfl ?_ | refine as_addI (i := 1) rfl rfl ?_ | refine as_addI (i := 2) rfl rfl ?_ | refine as_addI (i := 3) rfl rfl ?_ | refine as_addI (i := 4) rfl rfl ?_ | refine as_addI (i := 5) rfl rfl ?_ | refine as_addI (i := 6) rfl rfl ?_ | refine as_addI (i := 7) rfl rfl ?_ | refine as_addI (i := 8) rfl rfl ?_ | refine as_addI (i := 9) rfl rfl ?_ | refine as_addI (i := 10) rfl rfl ?_ | refine as_addI (i := 11) rfl rfl ?_ | refine as_addI (i := 12) rfl rfl ?_ | refine as_addI (i := 13) rfl rfl ?_ | refine as_addI (i := 14) rfl rfl ?_ | refine as_addI (i := 15) rfl rfl ?_ | refine as_addI (i := 16) rfl rfl ?_ | refine as_addI (i := 17) rfl rfl ?_ | refine as_addI (i := 18) rfl rfl ?_ | refine as_addI (i := 19) rfl rfl ?_ | refine as_addI (i := 20) rfl rfl ?_ | refine as_addI (i := 21) rfl rfl ?_ | refine as_addI (i := 22) rfl rfl ?_ | refine as_addI (i := 23) rfl rfl ?_ | refine as_pass ?_ | refine as_break ?_ | refine as_cont ?_))
local macro_rules | `(tactic| walk_at "ass") => `(tactic| (first | refine ass_nil ?_ | (walk_at "sn"; first | refine ass_one ?_ | refine ass_cons ?_)))
local macro_rules | `(tactic| walk_at "1") => `(tactic| (first | ((with_reducible show AE _ _ _ _); walk_at "e") | ((with_reducible show AC _ _ _ _ _ _); first | refine ac_eqU ?_ | refine ac_ltU ?_ | refine ac_inU ?_ | refine ac_notInU ?_ | refine ac_isN ?_ | refine ac_notN ?_ | refine ac_neU ?_ | refine ac_le ?_ | refine ac_ge ?_ | refine ac_gt ?_) | ((with_reducible show AT _ _ _ _); first | refine at_cmp ?_ | refine at_not ?_ | (refine at_w ?_; first | refine aw_and ?_ | refine aw_or ?_) | refine at_val ?_) | ((with_reducible show AW _ _ _ _); first | refine aw_and ?_ | refine aw_or ?_ | refine aw_and1 ?_ | refine aw_or1 ?_) | ((with_reducible show AA _ _ _ _); first | refine aa_nil ?_ | refine aa_cons ?_) | ((with_reducible show AO _ _ _ _); first | refine ao_none ?_ | refine ao_some ?_) | ((with_reducible show AS _ _ _ _); walk_at "as") | ((with_reducible show ASs _ _ _ _); walk_at "ass") | ((with_reducible show seqP _ _ _ _); walk_at "ass") | ((with_reducible show AG _ _ _ _ _); first | refine ag_name (i := 0) rfl ?_ | refine ag_name (i := 1) rfl ?_ | refine ag_name (i := 2) rfl ?_ | refine ag_name (i := 3) rfl ?_ | refine ag_name (i := 4) rfl ?_ | refine ag_name (i := 5) rfl ?_ | refine ag_name (i := 6) rfl ?_ | refine ag_name (i := 7) rfl ?_ | refine ag_name (i := 8) rfl ?_ | refine ag_name (i := 9) rfl ?_ | refine ag_name (i := 10) rfl ?_ | refine ag_name (i := 11) rfl ?_ | refine ag_name (i := 12) rfl ?_ | refine ag_name (i := 13) rfl ?_ | refine ag_name (i := 14) rfl ?_ | refine ag_name (i := 15) rfl ?_ | refine ag_name (i := 16) rfl ?_ | refine ag_name (i := 17) rfl ?_ | refine ag_name (i := 18) rfl ?_ | refine ag_name (i := 19) rfl ?_ | refine ag_name (i := 20) rfl ?_ | refine ag_name (i := 21) rfl ?_ | refine ag_name (i := 22) rfl ?_ | refine ag_name (i := 23) rfl ?_ | refine ag_tup ?_) | ((with_reducible show AGs _ _ _ _ _); first | refine ags_name (i := 0) rfl ?_ | refine ags_name (i := 1) rfl ?_ | refine ags_name (i := 2) rfl ?_ | refine ags_name (i := 3) rfl ?_ | refine ags_name (i := 4) rfl ?_ | refine ags_name (i := 5) rfl ?_ | refine ags_name (i := 6) rfl ?_ | refine ags_name (i := 7) rfl ?_ | refine ags_name (i := 8) rfl ?_ | refine ags_name (i := 9) rfl ?_ | refine ags_name (i := 10) rfl ?_ | refine ags_name (i := 11) rfl ?_ | refine ags_name (i := 12) rfl ?_ | refine ags_name (i := 13) rfl ?_ | refine ags_name (i := 14) rfl ?_ | refine ags_name (i := 15) rfl ?_ | refine ags_name (i := 16) rfl ?_ | refine ags_name (i := 17) rfl ?_ | refine ags_name (i := 18) rfl ?_ | refine ags_name (i := 19) rfl ?_ | refine ags_name (i := 20) rfl ?_ | refine ags_name (i := 21) rfl ?_ | refine ags_name (i := 22) rfl ?_ | refine ags_name (i := 23) rfl ?_ | refine ags_nil ?_) | walk_at "r"))
local macro_rules | `(tactic| walk_at "y") => `(tactic| (first | ((with_reducible show AE _ _ _ _); walk_at "e") | ((with_reducible show AC _ _ _ _ _ _); first | refine ac_eqU ?_ | refine ac_ltU ?_ | refine ac_inU ?_ | refine ac_notInU ?_ | refine ac_isN ?_ | refine ac_notN ?_ | refine ac_neU ?_ | refine ac_le ?_ | refine ac_ge ?_ | refine ac_gt ?_) | ((with_reducible show AT _ _ _ _); first | refine at_cmp ?_ | refine at_not ?_ | (refine at_w ?_; first | refine aw_and ?_ | refine aw_or ?_) | refine at_val ?_) | ((with_reducible show AW _ _ _ _); first | refine aw_and ?_ | refine aw_or ?_ | refine aw_and1 ?_ | refine aw_or1 ?_) | ((with_reducible show AA _ _ _ _); first | refine aa_nil ?_ | refine aa_cons ?_) | ((with_reducible show AO _ _ _ _); first | refine ao_none ?_ | refine ao_some ?_) | ((with_reducible show AG _ _ _ _ _); first | refine ag_name (i := 0) rfl ?_ | refine ag_name (i := 1) rfl ?_ | refine ag_name (i := 2) rfl ?_ | refine ag_name (i := 3) rfl ?_ | refine ag_name (i := 4) rfl ?_ | refine ag_name (i := 5) rfl ?_ | refine ag_name (i := 6) rfl ?_ | refine ag_name (i := 7) rfl ?_ | refine ag_name (i := 8) rfl ?_ | refine ag_name (i := 9) rfl ?_ | refine ag_name (i := 10) rfl ?_ | refine ag_name (i := 11) rfl ?_ | refine ag_name (i := 12) rfl ?_ | refine ag_name (i := 13) rfl ?_ | refine ag_name (i := 14) rfl ?_ | refine ag_name (i := 15) rfl ?_ | refine ag_name (i := 16) rfl ?_ | refine ag_name (i := 17) rfl ?_ | refine ag_name (i := 18) rfl ?_ | refine ag_name (i := 19) rfl ?_ | refine ag_name (i := 20) rfl ?_ | refine ag_name (i := 21) rfl ?_ | refine ag_name (i := 22) rfl ?_ | refine ag_name (i := 23) rfl ?_ | refine ag_tup ?_) | ((with_reducible show AGs _ _ _ _ _); first | refine ags_name (i := 0) rfl ?_ | refine ags_name (i := 1) rfl ?_ | refine ags_name (i := 2) rfl ?_ | refine ags_name (i := 3) rfl ?_ | refine ags_name (i := 4) rfl ?_ | refine ags_name (i := 5) rfl ?_ | refine ags_name (i := 6) rfl ?_ | refine ags_name (i := 7) rfl ?_ | refine ags_name (i := 8) rfl ?_ | refine ags_name (i := 9) rfl ?_ | refine ags_name (i := 10) rfl ?_ | refine ags_name (i := 11) rfl ?_ | refine ags_name (i := 12) rfl ?_ | refine ags_name (i := 13) rfl ?_ | refine ags_name (i := 14) rfl ?_ | refine ags_name (i := 15) rfl ?_ | refine ags_name (i := 16) rfl ?_ | refine ags_name (i := 17) rfl ?_ | refine ags_name (i := 18) rfl ?_ | refine ags_name (i := 19) rfl ?_ | refine ags_name (i := 20) rfl ?_ | refine ags_name (i := 21) rfl ?_ | refine ags_name (i := 22) rfl ?_ | refine ags_name (i := 23) rfl ?_ | refine ags_nil ?_) | ((fail_if_success (show ASs _ _ _ _)); walk_at "r")))
local macro_rules | `(tactic| walk_at "x") => `(tactic| (repeat walk_at "y"))
local macro_rules | `(tactic| walk_at "w") => `(tactic| (repeat walk_at "1"))
abbrev sLaw : Stmt := topS 21
section
variable {P : Program} {w : World} {K : PySem.W.Frag} {mg : Str → Option Value} {base : Heap}
theorem kinds_rp {KP : Addr} (h : ∃ (o : Obj) (its : Array Value) (n : Nat), K.lookup KP = some o ∧ o.cls = .type "tuple" ∧ o.data = .seq its n ∧ its.size ≤ sizeLine ∧ Vals [.str ("name" : Str), .str ("thing" : Str), .str ("length" : Str)] its.toList) : ∀ F os, Rp K F os (.ref KP) (.tup [.str kName, .str kThing, .str kLength]) := fun F os => by
  rw [show ("name" : Str) = S kName from by decide +kernel, show ("thing" : Str) = S kThing from by decide +kernel, show ("length" : Str) = S kLength from by decide +kernel] at h
  exact .tup (.inr h) (.cons (.str _) (.cons (.str _) (.cons (.str _) .nil)))

abbrev nLaw : List Str := ["script", "draws", "words", "menu", "word", "kinds", "condition", "at", "others", "more", "told"]
theorem scLaw : FnScope nLaw ["script"] (defScope sLaw) := ⟨rfl, rfl, rfl, by decide +kernel, rfl, by decide +kernel, by decide +kernel⟩
def menuL : List D := [.str kName, .str kThing, .str kLength]
theorem menu_in {x : D} (h : x ∈ menuL) : ∃ t, x = .str t ∧ KndT t := by
  unfold menuL at h
  simp only [List.mem_cons, List.not_mem_nil, or_false] at h
  rcases h with rfl | rfl | rfl
  · exact ⟨_, rfl, .inl rfl⟩
  · exact ⟨_, rfl, .inr (.inl rfl)⟩
  · exact ⟨_, rfl, .inr (.inr rfl)⟩
theorem ok_law {f : Addr} {fd : FuncData} {k : Nat} (F : Fun K "law" "law" sLaw f fd) (ml : mg "len" = none) (mi : mg "int" = none) (mt : mg "tuple" = none) (ms : mg "sorted" = none) (C1 : CalA P w K mg base k "_law_draws" R_draws) (C4 : CalA P w K mg base k "_law_take" R_take) (CP : CalA P w K mg base k "_law_pick" R_pickD) (CV : CalA P w K mg base k "_law_variables" R_lva) (CC : CalA P w K mg base k "_law_condition" (R_lcn 5))
    (CA : CalA P w K mg base k "_law_asked" (R_lask 5)) (CL : CalA P w K mg base k "_law_valid" (R_lval 5)) : FnOk P w K mg base CX0 (k + 1) f fd ["script"] (spA w K R_law) := by
  refine fnA F scLaw (by rintro ds O Q ⟨ns, rfl, _⟩; rfl) fun F0 H0 os0 ds O Q h => ?_
  obtain ⟨ns, rfl, rfl, hn, hq⟩ := h
  have sl : sizeLine = 16777216 := rfl
  walk_at "sn"
  refine ass_cons (as_set (i := 1) rfl (draws_call C1 (Nat.le_refl _) 0 rfl rfl hn rfl (ae_int (is_i ⟨by decide, by decide, rfl, fun d0 => ?_⟩))))
  generalize D.lst (ns.map D.int) = scr
  walk_at "sn"
  refine ass_cons (as_set (i := 2) rfl (ae_dcallO 1 0 CV (Nat.le_refl _) rfl rfl (aa_cons (ae_int (aa_nil ?_)))))
  refine ⟨⟨trivial, trivial⟩, d0, rfl, d0, 4, rfl, rfl, by omega, fun ws d1 hl hw hsum => ⟨d1, _, rfl, rfl, bndL_map fun _ => trivial, ?_⟩⟩
  refine (show seqP _ _ _ (.nx ⟨[some scr, some (.ob 0), some (.ob 1), none, none, none, none, none, none, none, none], [.lst (d1.map D.int), .lst (ws.map D.str)]⟩) from ?_)
  walk_at "sn"
  refine ass_frz 2 1 rfl rfl ?_
  walk_at "sn"
  have hmb : D.bnd 0 (.lst menuL) := by unfold menuL D.bnd; exact ⟨trivial, trivial, trivial, trivial⟩
  refine ass_cons (as_set (i := 3) rfl (ae_lstF (aa_cons (ae_str (l := kName) (by decide +kernel) (aa_cons (ae_str (l := kThing) (by decide +kernel) (aa_cons (ae_str (l := kLength) (by decide +kernel) (aa_nil ⟨Nat.le_of_ble_eq_true rfl, ?_⟩)))))))))
  refine (show seqP _ _ _ (.nx ⟨[some scr, some (.ob 0), some (.lst (ws.map D.str)), some (.lst menuL), none, none, none, none, none, none, none], [.lst (d1.map D.int), .dead]⟩) from ?_)
  walk_at "sn"
  refine ass_cons (as_set (i := 5) rfl (ae_sortedQ true ms (ae_lc nLaw (defScope sLaw) true 4 [("word", 4)] (by decide +kernel) (by simp) rfl rfl (by simp) (ai_list (ae_slU ?_)))))
  walk_at "nm"
  refine ao_none (ao_some (ae_add (ae_int ?_)))
  refine take_call 1 0 (ns := d1) C4 (Nat.le_refl _) rfl rfl (ae_int (is_i ⟨by decide, rfl, fun r d2 r0 r1 => ?_⟩))
  refine is_i (is_i (is_i (slc_l (.inl rfl) ?_)))
  obtain ⟨X, eX, hX, x1, x2⟩ : ∃ X : List (List Nat), cutD (ws.map D.str) none (some (1 + r)) = X.map D.str ∧ (∀ x ∈ X, x ∈ ws) ∧ 1 ≤ X.length ∧ X.length ≤ 4 := by
    obtain ⟨wa, wb, wc, wd, ews⟩ : ∃ a b c d, ws = [a, b, c, d] := by
      match ws, hl with
      | [a, b, c, d], _ => exact ⟨a, b, c, d, rfl⟩
    subst ews
    have : r = 0 ∨ r = 1 := by omega
    rcases this with rfl | rfl
    · exact ⟨[wa], rfl, by simp, by simp, by simp⟩
    · exact ⟨[wa, wb], rfl, by simp, by simp, by simp⟩
  rw [eX]
  refine .inl ⟨_, rfl, fun i acc s => ∃ (ns : List Int) (ks : SPs), acc = ks.map prS ∧ ks.length = i ∧ (∀ p ∈ ks, p.1 ∈ ws) ∧ KndL ks ∧ s = ⟨[some scr, some (.ob 0), some (.lst (ws.map D.str)), some (.lst menuL), none, none, none, none, none, none, none], [.lst (ns.map D.int), .dead, .lst acc]⟩, ⟨d2, [], rfl, rfl, (fun _ h => by cases h), (fun _ h => by cases h), rfl⟩, ?_, ?_, ?_, ?_⟩
  · rintro i acc s ⟨ns3, ks, rfl, hl, hk, hkk, rfl⟩
    refine ⟨trivial, rfl, by simp [hl], ?_⟩
    intro v hv d q
    simp at hv
    subst hv
    cases q
  · rintro i acc dd s hd' ⟨ns3, ks, rfl, hl, hk, hkk, rfl⟩
    obtain ⟨x, hx, rfl⟩ := map_at hd'
    show AE _ _ _ _
    refine ae_tup (aa_cons ?_)
    walk_at "nm"
    refine aa_cons (ae_dcall 1 0 CP (Nat.le_refl _) rfl rfl (aa_cons ?_))
    walk_at "nm"
    refine aa_nil ⟨⟨hmb, trivial⟩, ns3, rfl, ns3, menuL, rfl, rfl, by decide, by decide, fun y ns4 hy => ?_⟩
    obtain ⟨td, rfl, htd⟩ := menu_in hy
    refine ⟨ns4, rfl, trivial, aa_nil ⟨Nat.le_of_ble_eq_true rfl, ?_⟩⟩
    refine ⟨rfl, _, .refl, ns4, ks ++ [(x, td)], by rw [List.map_append]; rfl, by simp [hl], fun p hp => ?_, fun p hp => ?_, rfl⟩
    · rcases List.mem_append.mp hp with q | q
      · exact hk p q
      · rw [List.mem_singleton.mp q]
        exact hX x (List.mem_of_getElem? hx)
    · rcases List.mem_append.mp hp with q | q
      · exact hkk p q
      · rw [List.mem_singleton.mp q]
        exact htd
  · rintro acc s ⟨d3, ks0, rfl, hkl0, hk0, hkk0, rfl⟩
    rw [List.length_map] at hkl0
    unfold NewC
    rw [if_pos rfl]
    refine ⟨ks0, .inr ⟨2, rfl, rfl⟩, fun ks hperm => ?_⟩
    have hkl : ks.length ≤ 4 := by rw [hperm.length_eq]; omega
    have hkl1 : 1 ≤ ks.length := by rw [hperm.length_eq]; omega
    have hk : ∀ p ∈ ks, p.1 ∈ ws := fun p hp => hk0 p (hperm.mem_iff.mp hp)
    have hkk : KndL ks := fun p hp => hkk0 p (hperm.mem_iff.mp hp)
    unfold NewL
    rw [if_pos rfl]
    refine (show seqP _ _ _ (.nx ⟨[some scr, some (.ob 0), some (.lst (ws.map D.str)), some (.lst menuL), none, some (.ob 3), none, none, none, none, none], [.lst (d3.map D.int), .dead, .lst (ks0.map prS), .lst (ks.map prS)]⟩) from ?_)
    walk_at "sn"
    refine ass_frz 5 3 rfl rfl ?_
    generalize Ob.lst (ks0.map prS) = O2
    walk_at "sn"
    have hki : KdO ks := fun p hp => hw _ (hk p hp)
    have hif : (if ks = [] then 1 else 0 : Nat) = 0 := if_neg fun e => by rw [e] at hkl1; simp at hkl1
    refine ass_cons (as_set (i := 6) rfl (ae_dcall 1 0 CC (Nat.le_refl _) rfl rfl (aa_cons ?_)))
    walk_at "nm"
    refine aa_cons (ae_ix (ae_lstF (aa_cons (ae_int (aa_cons (ae_int (aa_cons (ae_int (aa_cons (ae_int (aa_nil ⟨Nat.le_of_ble_eq_true rfl, ?_⟩)))))))))))
    refine take_call 1 0 (ns := d3) C4 (Nat.le_refl _) rfl rfl (ae_int (is_i ⟨by decide, rfl, fun r2 d5 r20 r21 => ?_⟩))
    obtain ⟨d, hd1, hd2⟩ := atI_in (xs := [D.int 2, .int 3, .int 1, .int 4]) r20 (by simpa using r21)
    obtain ⟨dep, rfl, zd⟩ : ∃ dep : Nat, d = .int (dep : Nat) ∧ dep ≤ 4 := by
      have := List.mem_of_getElem? hd1
      simp only [List.mem_cons, List.not_mem_nil, or_false] at this
      rcases this with rfl | rfl | rfl | rfl
      · exact ⟨2, rfl, by omega⟩
      · exact ⟨3, rfl, by omega⟩
      · exact ⟨1, rfl, by omega⟩
      · exact ⟨4, rfl, by omega⟩
    refine is_i ⟨_, ix_l hd2, aa_cons ?_⟩
    walk_at "nm"
    refine aa_cons (ae_int (aa_nil ?_))
    refine ⟨⟨knD_bnd _ _, trivial, strD_bnd _ _, trivial, trivial⟩, d5, rfl, d5, ks, dep, ws, _, rfl, rfl, hki, by omega, by omega, by omega, hw, by omega, fun c d6 hc => ⟨d6, rfl, c.bnd _, ?_⟩⟩
    refine (show seqP _ _ _ (.nx ⟨[some scr, some (.ob 0), some (.lst (ws.map D.str)), some (.lst menuL), none, some (.lst (ks.map prS)), some c.d, none, none, none, none], [.lst (d6.map D.int), .dead, O2, .dead]⟩) from ?_)
    walk_at "sn"
    refine ass_cons (as_set (i := 7) rfl ?_)
    refine take_call 1 0 (ns := d6) C4 (Nat.le_refl _) rfl rfl (ae_len ml ?_)
    walk_at "nm"
    refine ⟨_, len_l, ?_⟩
    rw [show (ks.map prS).length = ks.length from List.length_map _]
    refine is_i ⟨by omega, rfl, fun at' d7 a0 a1 => ?_⟩
    obtain ⟨at_, rfl⟩ : ∃ m : Nat, at' = (m : Nat) := ⟨at'.toNat, by omega⟩
    have hat : at_ < ks.length := by omega
    clear a0 a1
    obtain ⟨pa, hpa⟩ : ∃ pa, ks[at_]? = some pa := ⟨_, List.getElem?_eq_getElem hat⟩
    refine (show seqP _ _ _ (.nx ⟨[some scr, some (.ob 0), some (.lst (ws.map D.str)), some (.lst menuL), none, some (.lst (ks.map prS)), some c.d, some (.int (at_ : Nat)), none, none, none], [.lst (d7.map D.int), .dead, O2, .dead]⟩) from ?_)
    have cP : ∀ i j, cutD (ks.map prS) i j = (cutD ks i j).map prS := fun i j => by
      unfold cutD
      rw [List.length_map, List.map_take, List.map_drop]
    have cK : ∀ i j, KndL (cutD ks i j) ∧ (cutD ks i j).length ≤ 4 := fun i j => ⟨fun p hp => hkk p (List.mem_of_mem_drop (List.mem_of_mem_take hp)), by have := cutD_le ks i j; omega⟩
    walk_at "sn"
    refine ass_cons (as_set (i := 8) rfl (ae_catL false (ae_catL false (ae_slU ?_))))
    walk_at "nm"
    refine ao_none (ao_some ?_)
    walk_at "nm"
    refine is_i (slc_l (.inl rfl) ?_)
    refine ae_lstF (aa_cons (ae_tup (aa_cons (ae_ix (ae_ix ?_)))))
    walk_at "nm"
    walk_at "nm"
    refine is_i ⟨prS pa, ix_l (atI_nat (j := at_) (by rw [List.getElem?_map, hpa]; rfl)), ae_int (is_i ⟨.str pa.1, ix_t rfl, aa_cons (ae_dcall 1 0 CP (Nat.le_refl _) rfl rfl (aa_cons ?_))⟩)⟩
    walk_at "nm"
    refine aa_nil ⟨⟨hmb, trivial⟩, d7, rfl, d7, menuL, rfl, rfl, by decide, by decide, fun y d8 hy => ?_⟩
    obtain ⟨td, rfl, htd⟩ := menu_in hy
    refine ⟨d8, rfl, trivial, aa_nil ⟨le_sl (by simp), aa_nil ⟨le_sl (by simp), ?_⟩⟩⟩
    rw [cP]
    have k1 := cK none (some (at_ : Int))
    have k2 := cK (some ((at_ : Int) + 1)) none
    refine ⟨_, _, .inl rfl, .inl rfl, by rw [List.length_map]; simp; omega, ?_⟩
    unfold NewL
    rw [if_neg (by decide)]
    refine ae_slU ?_
    walk_at "nm"
    refine ao_some (ae_add ?_)
    walk_at "nm"
    refine ae_int (is_i (is_i (is_i (ao_none (slc_l (.inl rfl) ?_)))))
    rw [cP]
    refine ⟨_, _, .inl rfl, .inl rfl, by rw [List.length_append, List.length_map, List.length_map]; simp; omega, ?_⟩
    rw [if_neg (by decide)]
    rw [show (cutD ks none (some (at_ : Int))).map prS ++ [D.tup [.str pa.1, .str td]] ++ (cutD ks (some ((at_ : Int) + 1)) none).map prS = (cutD ks none (some (at_ : Int)) ++ [(pa.1, td)] ++ cutD ks (some ((at_ : Int) + 1)) none).map prS from by rw [List.map_append, List.map_append]; rfl]
    obtain ⟨ot, eot, kot, zot⟩ : ∃ ot : SPs, cutD ks none (some (at_ : Int)) ++ [(pa.1, td)] ++ cutD ks (some ((at_ : Int) + 1)) none = ot ∧ KndL ot ∧ ot.length ≤ 9 := ⟨_, rfl, fun p hp => by
      rcases List.mem_append.mp hp with q | q
      · rcases List.mem_append.mp q with q | q
        · exact k1.1 p q
        · rw [List.mem_singleton.mp q]
          exact htd
      · exact k2.1 p q, by rw [List.length_append, List.length_append, List.length_singleton]; omega⟩
    rw [eot]
    clear eot
    refine (show seqP _ _ _ (.nx ⟨[some scr, some (.ob 0), some (.lst (ws.map D.str)), some (.lst menuL), none, some (.lst (ks.map prS)), some c.d, some (.int (at_ : Nat)), some (.lst (ot.map prS)), none, none], [.lst (d8.map D.int), .dead, O2, .dead]⟩) from ?_)
    walk_at "sn"
    refine ass_cons (as_set (i := 9) rfl (ae_sortedQ true ms (ae_catL false ?_)))
    walk_at "nm"
    refine ae_lstF (aa_cons (ae_tup (aa_cons (ae_plus (ae_join (ae_str eNil (is_s ?_)))))))
    walk_at "nm"
    refine ⟨ws, .inl (.inl rfl), by rw [List.length_nil]; omega, ?_⟩
    refine ae_str (l := [113]) (by decide +kernel) (add_s (by rw [join_len, List.length_singleton]; omega) (aa_cons (ae_dcall 1 0 CP (Nat.le_refl _) rfl rfl (aa_cons ?_))))
    walk_at "nm"
    refine aa_nil ⟨⟨hmb, trivial⟩, d8, rfl, d8, menuL, rfl, rfl, by decide, by decide, fun y d9 hy => ?_⟩
    obtain ⟨tq, rfl, htq⟩ := menu_in hy
    refine ⟨d9, rfl, trivial, aa_nil ⟨le_sl (by simp), aa_nil ⟨le_sl (by simp), ?_⟩⟩⟩
    refine ⟨_, _, .inl rfl, .inl rfl, by rw [List.length_map]; simp; omega, ?_⟩
    unfold NewL
    rw [if_neg (by decide)]
    rw [show ks.map prS ++ [D.tup [.str (joinN [] ws ++ [113]), .str tq]] = (ks ++ [(joinN [] ws ++ [113], tq)]).map prS from by rw [List.map_append]; rfl]
    refine ⟨_, .inl rfl, fun mo hmo => ?_⟩
    have kmo : KndL mo := fun p hp => by
      rcases List.mem_append.mp (hmo.mem_iff.mp hp) with q | q
      · exact hkk p q
      · rw [List.mem_singleton.mp q]
        exact htq
    have zmo : mo.length ≤ 9 := by
      rw [hmo.length_eq, List.length_append, List.length_singleton]
      omega
    rw [if_pos rfl]
    refine (show seqP _ _ _ (.nx ⟨[some scr, some (.ob 0), some (.lst (ws.map D.str)), some (.lst menuL), none, some (.lst (ks.map prS)), some c.d, some (.int (at_ : Nat)), some (.lst (ot.map prS)), some (.ob 4), none], [.lst (d9.map D.int), .dead, O2, .dead, .lst (mo.map prS)]⟩) from ?_)
    walk_at "sn"
    refine ass_frz 9 4 rfl rfl ?_
    walk_at "sn"
    refine (show seqP _ _ _ (.nx ⟨[some scr, some (.ob 0), some (.lst (ws.map D.str)), some (.lst menuL), none, some (.lst (ks.map prS)), some c.d, some (.int (at_ : Nat)), some (.lst (ot.map prS)), some (.lst (mo.map prS)), none], [.lst (d9.map D.int), .dead, O2, .dead, .dead]⟩) from ?_)
    walk_at "sn"
    refine ass_cons (as_for (ai_list (ae_lstF (aa_cons ?_))))
    walk_at "nm"
    refine aa_cons ?_
    walk_at "nm"
    refine aa_cons (ae_catL false (ae_slU ?_))
    walk_at "nm"
    refine ao_none (ao_some ?_)
    walk_at "nm"
    refine is_i (slc_l (.inl rfl) (ae_slU ?_))
    walk_at "nm"
    refine ao_some (ae_add ?_)
    walk_at "nm"
    refine ae_int (is_i (is_i (is_i (ao_none (slc_l (.inl rfl) ?_)))))
    rw [cP, cP]
    refine ⟨_, _, .inl rfl, .inl rfl, by rw [List.length_map, List.length_map]; omega, ?_⟩
    unfold NewL
    rw [if_neg (by decide), ← List.map_append]
    refine aa_cons ?_
    walk_at "nm"
    refine aa_cons (ae_lstF (aa_nil ⟨Nat.zero_le _, aa_cons ?_⟩))
    walk_at "nm"
    refine aa_nil ⟨Nat.le_of_ble_eq_true rfl, ?_⟩
    generalize hcu : cutD ks none (some (at_ : Int)) ++ cutD ks (some ((at_ : Int) + 1)) none = cu
    have kcu : KndL cu ∧ cu.length ≤ 9 := by
      subst hcu
      refine ⟨fun p hp => ?_, by rw [List.length_append]; omega⟩
      rcases List.mem_append.mp hp with q | q
      · exact k1.1 p q
      · exact k2.1 p q
    refine .inl ⟨_, rfl, fun i s => ∃ (b : Option D) (G : List Ob), s = ⟨[some scr, some (.ob 0), some (.lst (ws.map D.str)), some (.lst menuL), none, some (.lst (ks.map prS)), some c.d, some (.int (at_ : Nat)), some (.lst (ot.map prS)), some (.lst (mo.map prS)), b], G⟩, ⟨none, _, rfl⟩, fun _ _ _ => trivial, ?_, ?_⟩
    · rintro i dd s hd ⟨b, G, rfl⟩
      obtain ⟨l, hl1, hl2, rfl⟩ : ∃ l : SPs, KndL l ∧ l.length ≤ 9 ∧ dd = .lst (l.map prS) := by
        have := List.mem_of_getElem? hd
        simp only [List.mem_cons, List.not_mem_nil, or_false] at this
        rcases this with rfl | rfl | rfl | rfl | rfl | rfl
        · exact ⟨ks, hkk, by omega, rfl⟩
        · exact ⟨ot, kot, zot, rfl⟩
        · exact ⟨cu, kcu.1, kcu.2, rfl⟩
        · exact ⟨mo, kmo, zmo, rfl⟩
        · exact ⟨[], (fun _ h => by cases h), by simp, rfl⟩
        · exact ⟨ks, hkk, by omega, rfl⟩
      refine ag_name (i := 10) rfl ?_
      walk_at "sn"
      refine ass_one (as_if (at_cmp (ac_neU (ae_call1 G.length CA (Nat.le_refl _) (aa_cons ?_)))))
      walk_at "nm"
      refine aa_cons (ae_tupP mt ?_)
      walk_at "nm"
      refine ⟨_, .inl rfl, aa_nil ⟨[c.d, .ob 0], _, ?_, ⟨Cnd.bnd _ _, by unfold D.bnd; decide, trivial⟩, gE, ptX_bnd _ _, c, l, rfl, rfl, hc, hl1, by omega, by omega, fun x O2' e => ?_⟩⟩
      · show _ = [D.ren _ c.d, _]
        rw [D.ren_closed (c.bnd 0)]
        rfl
      cases e
      refine ae_toInt mi (ae_not (ae_callP CL (Nat.le_refl _) (aa_cons ?_)))
      walk_at "nm"
      refine aa_cons ?_
      walk_at "nm"
      refine aa_nil ⟨⟨c.bnd _, prS_bnd _ _, trivial⟩, c, l, rfl, rfl, hc, by omega, rfl, trivial, is_b ?_⟩
      refine ⟨_, .inr ⟨_, rfl, rfl⟩, eq_k rfl (is_b ?_)⟩
      rw [if_neg (by cases c.val (lastK l) <;> simp)]
      exact ass_nil ⟨_, .refl, _, _, rfl⟩
    · rintro s ⟨b, G, rfl⟩
      walk_at "w"
      exact ⟨_, _, .cut 0 (Nat.zero_le _) trivial (by simp), hq _⟩
  · rw [List.length_map]
    omega

end
end G9

namespace G9
open PySem PySem.Spec PyProof.Rows L2
/-! ### the end -/
theorem all_mk {l : PySem.W.OpenLaw} {w : World} {K : PySem.W.Frag} {h : Heap} {mg : Str → Option Value} {fa : Addr} (X : K.In h) (G : h.Ns mainGlobals mg) (hfa : mg "law" = some (.ref fa))
    {f1 : Addr} {oc1 kV1 dc1 pm1 cd1 ct1 : Value} {od1 an1 : Option Addr} {sl1 : Array (Option Value)}
    {f2 : Addr} {oc2 kV2 dc2 pm2 cd2 ct2 : Value} {od2 an2 : Option Addr} {sl2 : Array (Option Value)}
    {f3 : Addr} {oc3 kV3 dc3 pm3 cd3 ct3 : Value} {od3 an3 : Option Addr} {sl3 : Array (Option Value)}
    {f4 : Addr} {oc4 kV4 dc4 pm4 cd4 ct4 : Value} {od4 an4 : Option Addr} {sl4 : Array (Option Value)}
    {f5 : Addr} {oc5 kV5 dc5 pm5 cd5 ct5 : Value} {od5 an5 : Option Addr} {sl5 : Array (Option Value)}
    {f6 : Addr} {oc6 kV6 dc6 pm6 cd6 ct6 : Value} {od6 an6 : Option Addr} {sl6 : Array (Option Value)}
    {f7 : Addr} {oc7 kV7 dc7 pm7 cd7 ct7 : Value} {od7 an7 : Option Addr} {sl7 : Array (Option Value)}
    {f8 : Addr} {oc8 kV8 dc8 pm8 cd8 ct8 : Value} {od8 an8 : Option Addr} {sl8 : Array (Option Value)}
    {f9 : Addr} {oc9 kV9 dc9 pm9 cd9 ct9 : Value} {od9 an9 : Option Addr} {sl9 : Array (Option Value)}
    {f10 : Addr} {oc10 kV10 dc10 pm10 cd10 ct10 : Value} {od10 an10 : Option Addr} {sl10 : Array (Option Value)}
    {f11 : Addr} {oc11 kV11 dc11 pm11 cd11 ct11 : Value} {od11 an11 : Option Addr} {sl11 : Array (Option Value)}
    {f12 : Addr} {oc12 kV12 dc12 pm12 cd12 ct12 : Value} {od12 an12 : Option Addr} {sl12 : Array (Option Value)}
    {f13 : Addr} {oc13 kV13 dc13 pm13 cd13 ct13 : Value} {od13 an13 : Option Addr} {sl13 : Array (Option Value)}
    {f14 : Addr} {oc14 kV14 dc14 pm14 cd14 ct14 : Value} {od14 an14 : Option Addr} {sl14 : Array (Option Value)}
    {f15 : Addr} {oc15 kV15 dc15 pm15 cd15 ct15 : Value} {od15 an15 : Option Addr} {sl15 : Array (Option Value)}
    {KP NC : Addr}
    {itKP : Array Value} {ndKP : Nat} {odKP : Option Addr} {slKP : Array (Option Value)}
    (a1 : PySem.W.nsIn K mainGlobals "is_variable" = some (some (.ref f1))) (l1 : K.lookup f1 = some ⟨oc1, od1, .func (PySem.W.fnOf "is_variable" "is_variable" (defArgs sIsv) (defBody sIsv) (defScope sIsv) .none kV1 dc1 pm1 an1 cd1 ct1), sl1⟩) (c1 : PySem.W.codeIn K cd1 "is_variable" = true) (k1 : PySem.W.keepIn K (.ref f1) = true)
    (a2 : PySem.W.nsIn K mainGlobals "check_pair" = some (some (.ref f2))) (l2 : K.lookup f2 = some ⟨oc2, od2, .func (PySem.W.fnOf "check_pair" "check_pair" (defArgs sChp) (defBody sChp) (defScope sChp) .none kV2 dc2 pm2 an2 cd2 ct2), sl2⟩) (c2 : PySem.W.codeIn K cd2 "check_pair" = true) (k2 : PySem.W.keepIn K (.ref f2) = true)
    (a3 : PySem.W.nsIn K mainGlobals "check_part" = some (some (.ref f3))) (l3 : K.lookup f3 = some ⟨oc3, od3, .func (PySem.W.fnOf "check_part" "check_part" (defArgs sChq) (defBody sChq) (defScope sChq) .none kV3 dc3 pm3 an3 cd3 ct3), sl3⟩) (c3 : PySem.W.codeIn K cd3 "check_part" = true) (k3 : PySem.W.keepIn K (.ref f3) = true)
    (a4 : PySem.W.nsIn K mainGlobals "check_condition" = some (some (.ref f4))) (l4 : K.lookup f4 = some ⟨oc4, od4, .func (PySem.W.fnOf "check_condition" "check_condition" (defArgs sChd) (defBody sChd) (defScope sChd) .none kV4 dc4 pm4 an4 cd4 ct4), sl4⟩) (c4 : PySem.W.codeIn K cd4 "check_condition" = true) (k4 : PySem.W.keepIn K (.ref f4) = true)
    (a5 : PySem.W.nsIn K mainGlobals "_law_draws" = some (some (.ref f5))) (l5 : K.lookup f5 = some ⟨oc5, od5, .func (PySem.W.fnOf "_law_draws" "_law_draws" (defArgs sDraws) (defBody sDraws) (defScope sDraws) .none kV5 dc5 pm5 an5 cd5 ct5), sl5⟩) (c5 : PySem.W.codeIn K cd5 "_law_draws" = true) (k5 : PySem.W.keepIn K (.ref f5) = true)
    (a6 : PySem.W.nsIn K mainGlobals "_law_take" = some (some (.ref f6))) (l6 : K.lookup f6 = some ⟨oc6, od6, .func (PySem.W.fnOf "_law_take" "_law_take" (defArgs sTake) (defBody sTake) (defScope sTake) .none kV6 dc6 pm6 an6 cd6 ct6), sl6⟩) (c6 : PySem.W.codeIn K cd6 "_law_take" = true) (k6 : PySem.W.keepIn K (.ref f6) = true)
    (a7 : PySem.W.nsIn K mainGlobals "_law_pick" = some (some (.ref f7))) (l7 : K.lookup f7 = some ⟨oc7, od7, .func (PySem.W.fnOf "_law_pick" "_law_pick" (defArgs sPickD) (defBody sPickD) (defScope sPickD) .none kV7 dc7 pm7 an7 cd7 ct7), sl7⟩) (c7 : PySem.W.codeIn K cd7 "_law_pick" = true) (k7 : PySem.W.keepIn K (.ref f7) = true)
    (a8 : PySem.W.nsIn K mainGlobals "_law_variables" = some (some (.ref f8))) (l8 : K.lookup f8 = some ⟨oc8, od8, .func (PySem.W.fnOf "_law_variables" "_law_variables" (defArgs sLva) (defBody sLva) (defScope sLva) .none kV8 dc8 pm8 an8 cd8 ct8), sl8⟩) (c8 : PySem.W.codeIn K cd8 "_law_variables" = true) (k8 : PySem.W.keepIn K (.ref f8) = true)
    (a9 : PySem.W.nsIn K mainGlobals "_law_atoms" = some (some (.ref f9))) (l9 : K.lookup f9 = some ⟨oc9, od9, .func (PySem.W.fnOf "_law_atoms" "_law_atoms" (defArgs sLat) (defBody sLat) (defScope sLat) .none kV9 dc9 pm9 an9 cd9 ct9), sl9⟩) (c9 : PySem.W.codeIn K cd9 "_law_atoms" = true) (k9 : PySem.W.keepIn K (.ref f9) = true)
    (a10 : PySem.W.nsIn K mainGlobals "_law_condition" = some (some (.ref f10))) (l10 : K.lookup f10 = some ⟨oc10, od10, .func (PySem.W.fnOf "_law_condition" "_law_condition" (defArgs sLcn) (defBody sLcn) (defScope sLcn) .none kV10 dc10 pm10 an10 cd10 ct10), sl10⟩) (c10 : PySem.W.codeIn K cd10 "_law_condition" = true) (k10 : PySem.W.keepIn K (.ref f10) = true)
    (a11 : PySem.W.nsIn K mainGlobals "_law_kind_of" = some (some (.ref f11))) (l11 : K.lookup f11 = some ⟨oc11, od11, .func (PySem.W.fnOf "_law_kind_of" "_law_kind_of" (defArgs sLko) (defBody sLko) (defScope sLko) .none kV11 dc11 pm11 an11 cd11 ct11), sl11⟩) (c11 : PySem.W.codeIn K cd11 "_law_kind_of" = true) (k11 : PySem.W.keepIn K (.ref f11) = true)
    (a12 : PySem.W.nsIn K mainGlobals "_law_is_letters" = some (some (.ref f12))) (l12 : K.lookup f12 = some ⟨oc12, od12, .func (PySem.W.fnOf "_law_is_letters" "_law_is_letters" (defArgs sLil) (defBody sLil) (defScope sLil) .none kV12 dc12 pm12 an12 cd12 ct12), sl12⟩) (c12 : PySem.W.codeIn K cd12 "_law_is_letters" = true) (k12 : PySem.W.keepIn K (.ref f12) = true)
    (a13 : PySem.W.nsIn K mainGlobals "_law_valid" = some (some (.ref f13))) (l13 : K.lookup f13 = some ⟨oc13, od13, .func (PySem.W.fnOf "_law_valid" "_law_valid" (defArgs sLval) (defBody sLval) (defScope sLval) .none kV13 dc13 pm13 an13 cd13 ct13), sl13⟩) (c13 : PySem.W.codeIn K cd13 "_law_valid" = true) (k13 : PySem.W.keepIn K (.ref f13) = true)
    (a14 : PySem.W.nsIn K mainGlobals "_law_asked" = some (some (.ref f14))) (l14 : K.lookup f14 = some ⟨oc14, od14, .func (PySem.W.fnOf "_law_asked" "_law_asked" (defArgs sLask) (defBody sLask) (defScope sLask) .none kV14 dc14 pm14 an14 cd14 ct14), sl14⟩) (c14 : PySem.W.codeIn K cd14 "_law_asked" = true) (k14 : PySem.W.keepIn K (.ref f14) = true)
    (a15 : PySem.W.nsIn K mainGlobals "law" = some (some (.ref f15))) (l15 : K.lookup f15 = some ⟨oc15, od15, .func (PySem.W.fnOf "law" "law" (defArgs sLaw) (defBody sLaw) (defScope sLaw) .none kV15 dc15 pm15 an15 cd15 ct15), sl15⟩) (c15 : PySem.W.codeIn K cd15 "law" = true) (k15 : PySem.W.keepIn K (.ref f15) = true)
    (z_len : PySem.W.nsIn K mainGlobals "len" = some none)
    (z_int : PySem.W.nsIn K mainGlobals "int" = some none)
    (z_list : PySem.W.nsIn K mainGlobals "list" = some none)
    (z_range : PySem.W.nsIn K mainGlobals "range" = some none)
    (z_tuple : PySem.W.nsIn K mainGlobals "tuple" = some none)
    (z_dict : PySem.W.nsIn K mainGlobals "dict" = some none)
    (z_all : PySem.W.nsIn K mainGlobals "all" = some none)
    (z_sorted : PySem.W.nsIn K mainGlobals "sorted" = some none)
    (z_max : PySem.W.nsIn K mainGlobals "max" = some none)
    {u_LETTERS : Value} (g_LETTERS : PySem.W.nsIn K mainGlobals "LETTERS" = some (some u_LETTERS)) (e_LETTERS : ∃ t, u_LETTERS = Value.str ("abcdefghijklmnopqrstuvwxyz" : Str) t)
    (gKP : PySem.W.nsIn K mainGlobals "KINDS" = some (some (.ref KP)))
    (lKP : K.lookup KP = some ⟨.type "tuple", odKP, .seq itKP ndKP, slKP⟩)
    (zKP : itKP.size ≤ sizeLine)
    (vKP : Vals [.str ("name" : Str), .str ("thing" : Str), .str ("length" : Str)] itKP.toList)
    (gxNC : PySem.W.nsIn K mainGlobals "NoCondition" = some (some (.ref NC)))
    (exNC : PySem.W.excIn K NC [.type "ValueError", .type "Exception", .type "BaseException", .type "object"] "ValueError.__new__" = true)
    (kxNC : PySem.W.keepIn K (.ref NC) = true)
    (sxNC : PySem.W.subIn K (.ref NC) (.type "BaseException") = some true)
    (txNC : PySem.W.typeIn K (.ref NC) = some (.type "type"))
    (hdNC : PySem.W.hasDictIn K NC = true)
    (sbNC : PySem.W.subIn K (.ref NC) (.ref NC) = some true)
    : ∃ fd : FuncData, (∀ (s : Shared) (v : Value), BindsTo s fd ⟨[v], []⟩ [("script", v)]) ∧ ∀ base : Heap, K.In base → base.Ns mainGlobals mg → FnOk l.prog w K mg base CX0 10 fa fd ["script"] (spA w K R_law) := by
  have m_len := PySem.W.mg_none_of X G z_len
  have m_int := PySem.W.mg_none_of X G z_int
  have m_list := PySem.W.mg_none_of X G z_list
  have m_range := PySem.W.mg_none_of X G z_range
  have m_tuple := PySem.W.mg_none_of X G z_tuple
  have m_dict := PySem.W.mg_none_of X G z_dict
  have m_all := PySem.W.mg_none_of X G z_all
  have m_sorted := PySem.W.mg_none_of X G z_sorted
  have m_max := PySem.W.mg_none_of X G z_max
  have mg_LETTERS := PySem.W.mg_of X G g_LETTERS
  have m_KP := PySem.W.mg_of X G gKP
  have r_KP : ∀ F os, Rp K F os (.ref KP) (.tup [.str kName, .str kThing, .str kLength]) := kinds_rp ⟨_, _, _, lKP, rfl, rfl, zKP, vKP⟩
  have m_NC := PySem.W.mg_of X G gxNC
  have X_NC : XOwn K mg "NoCondition" NC := ⟨exNC, m_NC, kxNC, sxNC, txNC⟩
  have F_is_variable := fun_mk (st := sIsv) l1 c1 k1
  have b_is_variable := F_is_variable.binds (ps := ["text"]) fun _ _ _ _ _ _ us hl => match us, hl with | [_], _ => rfl
  have n_is_variable := PySem.W.mg_of X G a1
  have F_check_pair := fun_mk (st := sChp) l2 c2 k2
  have b_check_pair := F_check_pair.binds (ps := ["condition", "kinds"]) fun _ _ _ _ _ _ us hl => match us, hl with | [_, _], _ => rfl
  have n_check_pair := PySem.W.mg_of X G a2
  have F_check_part := fun_mk (st := sChq) l3 c3 k3
  have b_check_part := F_check_part.binds (ps := ["condition", "kinds"]) fun _ _ _ _ _ _ us hl => match us, hl with | [_, _], _ => rfl
  have n_check_part := PySem.W.mg_of X G a3
  have F_check_condition := fun_mk (st := sChd) l4 c4 k4
  have b_check_condition := F_check_condition.binds (ps := ["condition", "free"]) fun _ _ _ _ _ _ us hl => match us, hl with | [_, _], _ => rfl
  have n_check_condition := PySem.W.mg_of X G a4
  have F__law_draws := fun_mk (st := sDraws) l5 c5 k5
  have b__law_draws := F__law_draws.binds (ps := ["script", "many"]) fun _ _ _ _ _ _ us hl => match us, hl with | [_, _], _ => rfl
  have n__law_draws := PySem.W.mg_of X G a5
  have F__law_take := fun_mk (st := sTake) l6 c6 k6
  have b__law_take := F__law_take.binds (ps := ["draws", "many"]) fun _ _ _ _ _ _ us hl => match us, hl with | [_, _], _ => rfl
  have n__law_take := PySem.W.mg_of X G a6
  have F__law_pick := fun_mk (st := sPickD) l7 c7 k7
  have b__law_pick := F__law_pick.binds (ps := ["draws", "row"]) fun _ _ _ _ _ _ us hl => match us, hl with | [_, _], _ => rfl
  have n__law_pick := PySem.W.mg_of X G a7
  have F__law_variables := fun_mk (st := sLva) l8 c8 k8
  have b__law_variables := F__law_variables.binds (ps := ["draws", "many"]) fun _ _ _ _ _ _ us hl => match us, hl with | [_, _], _ => rfl
  have n__law_variables := PySem.W.mg_of X G a8
  have F__law_atoms := fun_mk (st := sLat) l9 c9 k9
  have b__law_atoms := F__law_atoms.binds (ps := ["kinds"]) fun _ _ _ _ _ _ us hl => match us, hl with | [_], _ => rfl
  have n__law_atoms := PySem.W.mg_of X G a9
  have F__law_condition := fun_mk (st := sLcn) l10 c10 k10
  have b__law_condition := F__law_condition.binds (ps := ["draws", "kinds", "depth", "words", "room"]) fun _ _ _ _ _ _ us hl => match us, hl with | [_, _, _, _, _], _ => rfl
  have n__law_condition := PySem.W.mg_of X G a10
  have F__law_kind_of := fun_mk (st := sLko) l11 c11 k11
  have b__law_kind_of := F__law_kind_of.binds (ps := ["kinds", "variable"]) fun _ _ _ _ _ _ us hl => match us, hl with | [_, _], _ => rfl
  have n__law_kind_of := PySem.W.mg_of X G a11
  have F__law_is_letters := fun_mk (st := sLil) l12 c12 k12
  have b__law_is_letters := F__law_is_letters.binds (ps := ["text"]) fun _ _ _ _ _ _ us hl => match us, hl with | [_], _ => rfl
  have n__law_is_letters := PySem.W.mg_of X G a12
  have F__law_valid := fun_mk (st := sLval) l13 c13 k13
  have b__law_valid := F__law_valid.binds (ps := ["condition", "kinds"]) fun _ _ _ _ _ _ us hl => match us, hl with | [_, _], _ => rfl
  have n__law_valid := PySem.W.mg_of X G a13
  have F__law_asked := fun_mk (st := sLask) l14 c14 k14
  have b__law_asked := F__law_asked.binds (ps := ["condition", "free"]) fun _ _ _ _ _ _ us hl => match us, hl with | [_, _], _ => rfl
  have n__law_asked := PySem.W.mg_of X G a14
  have F_law := fun_mk (st := sLaw) l15 c15 k15
  have e := hfa.symm.trans (PySem.W.mg_of X G a15)
  cases e
  refine ⟨PySem.W.fnOf "law" "law" (defArgs sLaw) (defBody sLaw) (defScope sLaw) .none kV15 dc15 pm15 an15 cd15 ct15, fun s v => .of_eq rfl, fun base _ _ => ?_⟩
  have C_is_variable : CalA l.prog w K mg base 1 "is_variable" R_isv := .mk' F_is_variable (ok_isv F_is_variable m_all mg_LETTERS (by obtain ⟨t, ht⟩ := e_LETTERS; exact ⟨t, by rw [ht, eLET]⟩)) n_is_variable b_is_variable mono_R_isv
  have C_check_pair : CalX l.prog w K mg base 1 "check_pair" (R_chp NC) := .mk' F_check_pair (ok_chp F_check_pair X_NC) n_check_pair F_check_pair.kp b_check_pair mono_R_chp
  have C_check_part := ok_chq (P := l.prog) (w := w) (base := base) F_check_part n_check_part F_check_part.kp b_check_part X_NC m_dict m_KP r_KP C_is_variable C_check_pair
  have C_check_condition : CalX l.prog w K mg base 8 "check_condition" (R_chd NC 5) := .mk' F_check_condition (ok_chd F_check_condition m_dict (C_check_part 5)) n_check_condition F_check_condition.kp b_check_condition mono_R_chd
  have C__law_draws : CalA l.prog w K mg base 1 "_law_draws" R_draws := .mk' F__law_draws (ok_draws F__law_draws m_len m_int m_list m_range) n__law_draws b__law_draws mono_R_draws
  have C__law_take : CalA l.prog w K mg base 1 "_law_take" R_take := .mk' F__law_take (ok_take F__law_take m_len m_int) n__law_take b__law_take mono_R_take
  have C__law_pick : CalA l.prog w K mg base 2 "_law_pick" R_pickD := .mk' F__law_pick (ok_pickD F__law_pick m_len C__law_take) n__law_pick b__law_pick mono_R_pickD
  have C__law_variables : CalA l.prog w K mg base 3 "_law_variables" R_lva := .mk' F__law_variables (ok_lva F__law_variables m_range (C__law_take.le (by decide)) C__law_pick) n__law_variables b__law_variables mono_R_lva
  have C__law_atoms : CalA l.prog w K mg base 1 "_law_atoms" R_lat := .mk' F__law_atoms (ok_lat F__law_atoms) n__law_atoms b__law_atoms mono_R_lat
  have C__law_condition := ok_lcn (P := l.prog) (w := w) (base := base) F__law_condition n__law_condition b__law_condition m_len m_max C__law_take C__law_pick C__law_atoms
  have C__law_kind_of : CalA l.prog w K mg base 1 "_law_kind_of" R_lko := .mk' F__law_kind_of (ok_lko F__law_kind_of) n__law_kind_of b__law_kind_of mono_R_lko
  have C__law_is_letters : CalA l.prog w K mg base 1 "_law_is_letters" R_isv := .mk' F__law_is_letters (ok_lil F__law_is_letters) n__law_is_letters b__law_is_letters mono_R_isv
  have C__law_valid := ok_lval (P := l.prog) (w := w) (base := base) F__law_valid n__law_valid b__law_valid C__law_is_letters C__law_kind_of
  have C__law_asked : CalA l.prog w K mg base 9 "_law_asked" (R_lask 5) := .mk' F__law_asked (ok_lask F__law_asked m_int X_NC (PySem.W.exm_ref sxNC hdNC txNC sbNC) C_check_condition) n__law_asked b__law_asked mono_R_lask
  exact ok_law F_law m_len m_int m_tuple m_sorted (C__law_draws.le (by decide)) (C__law_take.le (by decide)) (C__law_pick.le (by decide)) (C__law_variables.le (by decide)) ((C__law_condition 5).le (by decide)) (C__law_asked.le (by decide)) ((C__law_valid 5).le (by decide))
end G9
open PySem PySem.W PyProof.Rows
set_option maxHeartbeats 0 in
theorem PySem.Challenge.cw_guessrests_k22_told_kinds_of_variables_holds : PySem.Challenge.rw_guessrests_k22_told_kinds_of_variables.Holds := by
  w_on; o_law; k_head; (case hw => w_witness2)
  k_fill
  refine L2.walk_of (l := PySem.Challenge.rw_guessrests_k22_told_kinds_of_variables) (n := 63) (k := 10) (x := "script") (CX := fun _ => L2.CX0) (sp := fun w => G9.spA w _ G9.R_law) rfl (by decide) rfl ⟨rfl, by decide, by decide⟩ (fun w h Y => PySem.W.kIn_of Y) ?F (fun w H a ns hl _ hS => G9.law_sp hl hS) (fun _ _ _ _ _ h => h)
  case F =>
    intro w mg fa h KX G hmg
    refine' G9.all_mk KX G hmg ?a1 ?l1 ?c1 ?k1 ?a2 ?l2 ?c2 ?k2 ?a3 ?l3 ?c3 ?k3 ?a4 ?l4 ?c4 ?k4 ?a5 ?l5 ?c5 ?k5 ?a6 ?l6 ?c6 ?k6 ?a7 ?l7 ?c7 ?k7 ?a8 ?l8 ?c8 ?k8 ?a9 ?l9 ?c9 ?k9 ?a10 ?l10 ?c10 ?k10 ?a11 ?l11 ?c11 ?k11 ?a12 ?l12 ?c12 ?k12 ?a13 ?l13 ?c13 ?k13 ?a14 ?l14 ?c14 ?k14 ?a15 ?l15 ?c15 ?k15 ?z_len ?z_int ?z_list ?z_range ?z_tuple ?z_dict ?z_all ?z_sorted ?z_max ?g_LETTERS ?e_LETTERS ?gKP ?lKP ?zKP ?vKP ?gxNC ?exNC ?kxNC ?sxNC ?txNC ?hdNC ?sbNC
    (case a1 => k_is); (case l1 => k_is); (case c1 => k_is); (case k1 => k_is); (case a2 => k_is); (case l2 => k_is); (case c2 => k_is); (case k2 => k_is); (case a3 => k_is); (case l3 => k_is); (case c3 => k_is); (case k3 => k_is); (case a4 => k_is); (case l4 => k_is); (case c4 => k_is); (case k4 => k_is); (case a5 => k_is); (case l5 => k_is); (case c5 => k_is); (case k5 => k_is); (case a6 => k_is); (case l6 => k_is); (case c6 => k_is); (case k6 => k_is); (case a7 => k_is); (case l7 => k_is); (case c7 => k_is); (case k7 => k_is); (case a8 => k_is); (case l8 => k_is); (case c8 => k_is); (case k8 => k_is); (case a9 => k_is); (case l9 => k_is); (case c9 => k_is); (case k9 => k_is); (case a10 => k_is); (case l10 => k_is); (case c10 => k_is); (case k10 => k_is); (case a11 => k_is); (case l11 => k_is); (case c11 => k_is); (case k11 => k_is); (case a12 => k_is); (case l12 => k_is); (case c12 => k_is); (case k12 => k_is); (case a13 => k_is); (case l13 => k_is); (case c13 => k_is); (case k13 => k_is); (case a14 => k_is); (case l14 => k_is); (case c14 => k_is); (case k14 => k_is); (case a15 => k_is); (case l15 => k_is); (case c15 => k_is); (case k15 => k_is); (case z_len => k_is); (case z_int => k_is); (case z_list => k_is); (case z_range => k_is); (case z_tuple => k_is); (case z_dict => k_is); (case z_all => k_is); (case z_sorted => k_is); (case z_max => k_is); (case g_LETTERS => k_is); (case e_LETTERS => exact ⟨_, rfl⟩); (case gKP => k_is); (case lKP => k_is); (case zKP => decide); (case vKP => exact .cons ⟨_, rfl⟩ (.cons ⟨_, rfl⟩ (.cons ⟨_, rfl⟩ (.nil)))); (case gxNC => k_is); (case exNC => k_exc); (case kxNC => k_is); (case sxNC => k_is); (case txNC => k_is); (case hdNC => k_is); (case sbNC => k_is)
